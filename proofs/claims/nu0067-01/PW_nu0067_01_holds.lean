import PyProof.Rows.All
import Wide.All
import OpenK.AllK
import Wide.FinOn
import PySem.Challenge.RW_nu0067_01
open PySem PySem.W PySem.Spec PySem.Calls PyProof.Rows
set_option Elab.async false
set_option maxRecDepth 100000
set_option maxHeartbeats 1000000
set_option autoImplicit false
set_option compiler.extract_closed false
open PySem PySem.W PySem.Spec PySem.Calls PyProof.Rows
set_option Elab.async false
set_option maxRecDepth 100000
set_option linter.all false
namespace Mine.hd
def defsL (l : List Stmt) : List Stmt := l.flatMap fun st => match st with
  | .FunctionDef .. => [st]
  | .ClassDef _ _ _ b _ _ _ _ _ _ _ => b.filter fun s => match s with | .FunctionDef .. => true | _ => false
  | _ => []
def dfs : List Stmt := defsL PySem.Challenge.pw_nu0067_01.main.body
def pa (i : Nat) : Arguments := match dfs[i]? with
  | some (.FunctionDef _ a _ _ _ _ _ _ _ _) => a
  | _ => ⟨[], [], none, [], [], none, []⟩
def bo (i : Nat) : List Stmt := match dfs[i]? with
  | some (.FunctionDef _ _ b _ _ _ _ _ _ _) => b
  | _ => []
def sc (i : Nat) : Scope := match dfs[i]? with
  | some (.FunctionDef _ _ _ _ _ _ s _ _ _) => s
  | _ => { kind := .function, names := [], isGenerator := false, isCoroutine := false, more := [] }
noncomputable def k2 (P : Params) : Obj := Obj.mk Value.none none (Data.dict #[DictEntry.mk (PyData.keyHash P (Str.ofString "type.__subclasses__.Exception.0")) (Value.str (Str.ofString "type.__subclasses__.Exception.0") 320) (Value.int 108 0), DictEntry.mk (PyData.keyHash P (Str.ofString "type.__subclasses__.Exception.n")) (Value.str (Str.ofString "type.__subclasses__.Exception.n") 321) (Value.int 1 0)] 2) #[]
noncomputable def k3 (P : Params) : Obj := Obj.mk (Value.type "dict") none (Data.dict #[DictEntry.mk (PyData.keyHash P (Str.ofString "__name__")) (Value.str (Str.ofString "__name__") 165) (Value.str (Str.ofString "law_nu0067_01") 858), DictEntry.mk (PyData.keyHash P (Str.ofString "__doc__")) (Value.str (Str.ofString "__doc__") 166) Value.none, DictEntry.mk (PyData.keyHash P (Str.ofString "__package__")) (Value.str (Str.ofString "__package__") 167) Value.none, DictEntry.mk (PyData.keyHash P (Str.ofString "__loader__")) (Value.str (Str.ofString "__loader__") 168) (Value.builtin "__main__.__loader__#opaque"), DictEntry.mk (PyData.keyHash P (Str.ofString "__spec__")) (Value.str (Str.ofString "__spec__") 169) Value.none, DictEntry.mk (PyData.keyHash P (Str.ofString "__annotations__")) (Value.str (Str.ofString "__annotations__") 170) (Value.ref 6), DictEntry.mk (PyData.keyHash P (Str.ofString "__builtins__")) (Value.str (Str.ofString "__builtins__") 171) (Value.ref 4), DictEntry.mk (PyData.keyHash P (Str.ofString "__file__")) (Value.str (Str.ofString "__file__") 173) (Value.str (Str.ofString "/claim/cut.py") 172), DictEntry.mk (PyData.keyHash P (Str.ofString "__cached__")) (Value.str (Str.ofString "__cached__") 174) Value.none, DictEntry.mk (PyData.keyHash P (Str.ofString "_wall")) (Value.str (Str.ofString "_wall") 193) (Value.ref 21), DictEntry.mk (PyData.keyHash P (Str.ofString "SPACES_chars")) (Value.str (Str.ofString "SPACES_chars") 197) (Value.str (Str.ofString " \t\n\x0d") 196), DictEntry.mk (PyData.keyHash P (Str.ofString "CHAR_RANGES")) (Value.str (Str.ofString "CHAR_RANGES") 204) (Value.ref 25), DictEntry.mk (PyData.keyHash P (Str.ofString "START_RANGES")) (Value.str (Str.ofString "START_RANGES") 229) (Value.ref 38), DictEntry.mk (PyData.keyHash P (Str.ofString "MORE_RANGES")) (Value.str (Str.ofString "MORE_RANGES") 236) (Value.ref 42), DictEntry.mk (PyData.keyHash P (Str.ofString "FIRST_BEYOND")) (Value.str (Str.ofString "FIRST_BEYOND") 238) (Value.int 128 237), DictEntry.mk (PyData.keyHash P (Str.ofString "is_in_ranges")) (Value.str (Str.ofString "is_in_ranges") 248) (Value.ref 49), DictEntry.mk (PyData.keyHash P (Str.ofString "is_char")) (Value.str (Str.ofString "is_char") 256) (Value.ref 56), DictEntry.mk (PyData.keyHash P (Str.ofString "is_small_letter")) (Value.str (Str.ofString "is_small_letter") 263) (Value.ref 63), DictEntry.mk (PyData.keyHash P (Str.ofString "is_name_start")) (Value.str (Str.ofString "is_name_start") 270) (Value.ref 70), DictEntry.mk (PyData.keyHash P (Str.ofString "is_name_char")) (Value.str (Str.ofString "is_name_char") 277) (Value.ref 77), DictEntry.mk (PyData.keyHash P (Str.ofString "is_nmtoken")) (Value.str (Str.ofString "is_nmtoken") 285) (Value.ref 84), DictEntry.mk (PyData.keyHash P (Str.ofString "is_name")) (Value.str (Str.ofString "is_name") 292) (Value.ref 91), DictEntry.mk (PyData.keyHash P (Str.ofString "MarkupError")) (Value.str (Str.ofString "MarkupError") 323) (Value.ref 108), DictEntry.mk (PyData.keyHash P (Str.ofString "SyntaxFault")) (Value.str (Str.ofString "SyntaxFault") 350) (Value.ref 129), DictEntry.mk (PyData.keyHash P (Str.ofString "EntityFault")) (Value.str (Str.ofString "EntityFault") 366) (Value.ref 141), DictEntry.mk (PyData.keyHash P (Str.ofString "LimitFault")) (Value.str (Str.ofString "LimitFault") 382) (Value.ref 153), DictEntry.mk (PyData.keyHash P (Str.ofString "DIGITS")) (Value.str (Str.ofString "DIGITS") 386) (Value.str (Str.ofString "0123456789") 385), DictEntry.mk (PyData.keyHash P (Str.ofString "HEX_DIGITS")) (Value.str (Str.ofString "HEX_DIGITS") 388) (Value.str (Str.ofString "0123456789abcdef") 387), DictEntry.mk (PyData.keyHash P (Str.ofString "MOST_DIGITS")) (Value.str (Str.ofString "MOST_DIGITS") 390) (Value.int 12 389), DictEntry.mk (PyData.keyHash P (Str.ofString "value_of_digits")) (Value.str (Str.ofString "value_of_digits") 401) (Value.ref 162), DictEntry.mk (PyData.keyHash P (Str.ofString "without_noughts")) (Value.str (Str.ofString "without_noughts") 409) (Value.ref 169), DictEntry.mk (PyData.keyHash P (Str.ofString "code_of")) (Value.str (Str.ofString "code_of") 415) (Value.ref 174), DictEntry.mk (PyData.keyHash P (Str.ofString "char_of")) (Value.str (Str.ofString "char_of") 425) (Value.ref 182), DictEntry.mk (PyData.keyHash P (Str.ofString "predefined")) (Value.str (Str.ofString "predefined") 432) (Value.ref 189), DictEntry.mk (PyData.keyHash P (Str.ofString "VALUE_SPACES")) (Value.str (Str.ofString "VALUE_SPACES") 436) (Value.str (Str.ofString "\t\x0d\n") 435), DictEntry.mk (PyData.keyHash P (Str.ofString "Growth")) (Value.str (Str.ofString "Growth") 499) (Value.ref 234), DictEntry.mk (PyData.keyHash P (Str.ofString "Pending")) (Value.str (Str.ofString "Pending") 556) (Value.ref 276), DictEntry.mk (PyData.keyHash P (Str.ofString "Stack")) (Value.str (Str.ofString "Stack") 603) (Value.ref 311), DictEntry.mk (PyData.keyHash P (Str.ofString "growth_for")) (Value.str (Str.ofString "growth_for") 611) (Value.ref 322), DictEntry.mk (PyData.keyHash P (Str.ofString "text_in_value")) (Value.str (Str.ofString "text_in_value") 623) (Value.ref 330), DictEntry.mk (PyData.keyHash P (Str.ofString "sign_or_entity")) (Value.str (Str.ofString "sign_or_entity") 633) (Value.ref 337), DictEntry.mk (PyData.keyHash P (Str.ofString "blank_spaces")) (Value.str (Str.ofString "blank_spaces") 641) (Value.ref 344), DictEntry.mk (PyData.keyHash P (Str.ofString "SPACES_entities")) (Value.str (Str.ofString "SPACES_entities") 645) (Value.str (Str.ofString " \t\x0d\n") 644), DictEntry.mk (PyData.keyHash P (Str.ofString "TEXT_HEAD")) (Value.str (Str.ofString "TEXT_HEAD") 647) (Value.str (Str.ofString "<?xml") 646), DictEntry.mk (PyData.keyHash P (Str.ofString "Limits")) (Value.str (Str.ofString "Limits") 680) (Value.ref 362), DictEntry.mk (PyData.keyHash P (Str.ofString "Entity")) (Value.str (Str.ofString "Entity") 729) (Value.ref 397), DictEntry.mk (PyData.keyHash P (Str.ofString "plain_reference")) (Value.str (Str.ofString "plain_reference") 737) (Value.ref 408), DictEntry.mk (PyData.keyHash P (Str.ofString "without_head")) (Value.str (Str.ofString "without_head") 746) (Value.ref 415), DictEntry.mk (PyData.keyHash P (Str.ofString "EntityTable")) (Value.str (Str.ofString "EntityTable") 857) (Value.ref 497), DictEntry.mk (PyData.keyHash P (Str.ofString "_law_pool")) (Value.str (Str.ofString "_law_pool") 870) (Value.ref 508), DictEntry.mk (PyData.keyHash P (Str.ofString "_law_take")) (Value.str (Str.ofString "_law_take") 879) (Value.ref 515), DictEntry.mk (PyData.keyHash P (Str.ofString "_law_texts")) (Value.str (Str.ofString "_law_texts") 890) (Value.ref 522), DictEntry.mk (PyData.keyHash P (Str.ofString "_law_table")) (Value.str (Str.ofString "_law_table") 901) (Value.ref 529), DictEntry.mk (PyData.keyHash P (Str.ofString "_law_sizes")) (Value.str (Str.ofString "_law_sizes") 911) (Value.ref 536), DictEntry.mk (PyData.keyHash P (Str.ofString "_law_plain")) (Value.str (Str.ofString "_law_plain") 920) (Value.ref 543), DictEntry.mk (PyData.keyHash P (Str.ofString "_law_told")) (Value.str (Str.ofString "_law_told") 929) (Value.ref 550), DictEntry.mk (PyData.keyHash P (Str.ofString "_law_ring_right")) (Value.str (Str.ofString "_law_ring_right") 939) (Value.ref 557), DictEntry.mk (PyData.keyHash P (Str.ofString "law")) (Value.str (Str.ofString "law") 957) (Value.ref 564)] 58) #[]
noncomputable def k15 (P : Params) : Obj := Obj.mk (Value.type "tuple") none (Data.seq #[]) #[]
noncomputable def k17 (P : Params) : Obj := Obj.mk (Value.type "tuple") none (Data.seq #[Value.str (Str.ofString "k") 190]) #[]
noncomputable def k18 (P : Params) : Obj := Obj.mk (Value.type "tuple") none (Data.seq #[]) #[]
noncomputable def k20 (P : Params) : Obj := Obj.mk (Value.type "code") none (Data.fields #[Value.str (Str.ofString "_wall") 187, Value.str (Str.ofString "_wall") 188, Value.str (Str.ofString "/claim/cut.py") 189, Value.int 1 0, Value.int 1 0, Value.int 0 0, Value.int 0 0, Value.int 3 0, Value.ref 15, Value.bool true, Value.int 181 0, Value.ref 16, Value.none, Value.ref 17, Value.ref 18, Value.ref 19, Value.int 191 0, Value.int 1 0, Value.str (Str.ofString "/claim/cut.py") 192]) #[]
noncomputable def k21 (P : Params) : Obj := Obj.mk (Value.type "function") none (Data.func (FuncData.mk (Str.ofString "_wall") (Str.ofString "_wall") (pa 0) (FuncBody.stmts (bo 0)) (sc 0) 3 [] Value.none Value.none Value.none (Value.str (Str.ofString "__main__") 164) none (Value.ref 20) Value.none 0)) #[]
noncomputable def k22 (P : Params) : Obj := Obj.mk (Value.type "tuple") none (Data.seq #[Value.int 32 198, Value.int 55295 199]) #[]
noncomputable def k23 (P : Params) : Obj := Obj.mk (Value.type "tuple") none (Data.seq #[Value.int 57344 200, Value.int 65533 201]) #[]
noncomputable def k24 (P : Params) : Obj := Obj.mk (Value.type "tuple") none (Data.seq #[Value.int 65536 202, Value.int 1114111 203]) #[]
noncomputable def k25 (P : Params) : Obj := Obj.mk (Value.type "tuple") none (Data.seq #[Value.ref 22, Value.ref 23, Value.ref 24]) #[]
noncomputable def k26 (P : Params) : Obj := Obj.mk (Value.type "tuple") none (Data.seq #[Value.int 192 205, Value.int 214 206]) #[]
noncomputable def k27 (P : Params) : Obj := Obj.mk (Value.type "tuple") none (Data.seq #[Value.int 216 207, Value.int 246 208]) #[]
noncomputable def k28 (P : Params) : Obj := Obj.mk (Value.type "tuple") none (Data.seq #[Value.int 248 209, Value.int 767 210]) #[]
noncomputable def k29 (P : Params) : Obj := Obj.mk (Value.type "tuple") none (Data.seq #[Value.int 880 211, Value.int 893 212]) #[]
noncomputable def k30 (P : Params) : Obj := Obj.mk (Value.type "tuple") none (Data.seq #[Value.int 895 213, Value.int 8191 214]) #[]
noncomputable def k31 (P : Params) : Obj := Obj.mk (Value.type "tuple") none (Data.seq #[Value.int 8204 215, Value.int 8205 216]) #[]
noncomputable def k32 (P : Params) : Obj := Obj.mk (Value.type "tuple") none (Data.seq #[Value.int 8304 217, Value.int 8591 218]) #[]
noncomputable def k33 (P : Params) : Obj := Obj.mk (Value.type "tuple") none (Data.seq #[Value.int 11264 219, Value.int 12271 220]) #[]
noncomputable def k34 (P : Params) : Obj := Obj.mk (Value.type "tuple") none (Data.seq #[Value.int 12289 221, Value.int 55295 222]) #[]
noncomputable def k35 (P : Params) : Obj := Obj.mk (Value.type "tuple") none (Data.seq #[Value.int 63744 223, Value.int 64975 224]) #[]
noncomputable def k36 (P : Params) : Obj := Obj.mk (Value.type "tuple") none (Data.seq #[Value.int 65008 225, Value.int 65533 226]) #[]
noncomputable def k37 (P : Params) : Obj := Obj.mk (Value.type "tuple") none (Data.seq #[Value.int 65536 227, Value.int 983039 228]) #[]
noncomputable def k38 (P : Params) : Obj := Obj.mk (Value.type "tuple") none (Data.seq #[Value.ref 26, Value.ref 27, Value.ref 28, Value.ref 29, Value.ref 30, Value.ref 31, Value.ref 32, Value.ref 33, Value.ref 34, Value.ref 35, Value.ref 36, Value.ref 37]) #[]
noncomputable def k39 (P : Params) : Obj := Obj.mk (Value.type "tuple") none (Data.seq #[Value.int 183 230, Value.int 183 231]) #[]
noncomputable def k40 (P : Params) : Obj := Obj.mk (Value.type "tuple") none (Data.seq #[Value.int 768 232, Value.int 879 233]) #[]
noncomputable def k41 (P : Params) : Obj := Obj.mk (Value.type "tuple") none (Data.seq #[Value.int 8255 234, Value.int 8256 235]) #[]
noncomputable def k42 (P : Params) : Obj := Obj.mk (Value.type "tuple") none (Data.seq #[Value.ref 39, Value.ref 40, Value.ref 41]) #[]
noncomputable def k43 (P : Params) : Obj := Obj.mk (Value.type "tuple") none (Data.seq #[]) #[]
noncomputable def k45 (P : Params) : Obj := Obj.mk (Value.type "tuple") none (Data.seq #[Value.str (Str.ofString "code") 242, Value.str (Str.ofString "ranges") 243, Value.str (Str.ofString "low") 244, Value.str (Str.ofString "high") 245]) #[]
noncomputable def k46 (P : Params) : Obj := Obj.mk (Value.type "tuple") none (Data.seq #[]) #[]
noncomputable def k48 (P : Params) : Obj := Obj.mk (Value.type "code") none (Data.fields #[Value.str (Str.ofString "is_in_ranges") 239, Value.str (Str.ofString "is_in_ranges") 240, Value.str (Str.ofString "/claim/cut.py") 241, Value.int 10 0, Value.int 2 0, Value.int 0 0, Value.int 0 0, Value.int 3 0, Value.ref 43, Value.bool true, Value.int 181 0, Value.ref 44, Value.none, Value.ref 45, Value.ref 46, Value.ref 47, Value.int 246 0, Value.int 10 0, Value.str (Str.ofString "/claim/cut.py") 247]) #[]
noncomputable def k49 (P : Params) : Obj := Obj.mk (Value.type "function") none (Data.func (FuncData.mk (Str.ofString "is_in_ranges") (Str.ofString "is_in_ranges") (pa 1) (FuncBody.stmts (bo 1)) (sc 1) 3 [] Value.none Value.none Value.none (Value.str (Str.ofString "markupmill.chars") 194) none (Value.ref 48) Value.none 0)) #[]
noncomputable def k50 (P : Params) : Obj := Obj.mk (Value.type "tuple") none (Data.seq #[]) #[]
noncomputable def k52 (P : Params) : Obj := Obj.mk (Value.type "tuple") none (Data.seq #[Value.str (Str.ofString "sign") 252, Value.str (Str.ofString "code") 253]) #[]
noncomputable def k53 (P : Params) : Obj := Obj.mk (Value.type "tuple") none (Data.seq #[]) #[]
noncomputable def k55 (P : Params) : Obj := Obj.mk (Value.type "code") none (Data.fields #[Value.str (Str.ofString "is_char") 249, Value.str (Str.ofString "is_char") 250, Value.str (Str.ofString "/claim/cut.py") 251, Value.int 17 0, Value.int 1 0, Value.int 0 0, Value.int 0 0, Value.int 3 0, Value.ref 50, Value.bool true, Value.int 181 0, Value.ref 51, Value.none, Value.ref 52, Value.ref 53, Value.ref 54, Value.int 254 0, Value.int 17 0, Value.str (Str.ofString "/claim/cut.py") 255]) #[]
noncomputable def k56 (P : Params) : Obj := Obj.mk (Value.type "function") none (Data.func (FuncData.mk (Str.ofString "is_char") (Str.ofString "is_char") (pa 2) (FuncBody.stmts (bo 2)) (sc 2) 3 [] Value.none Value.none Value.none (Value.str (Str.ofString "markupmill.chars") 194) none (Value.ref 55) Value.none 0)) #[]
noncomputable def k57 (P : Params) : Obj := Obj.mk (Value.type "tuple") none (Data.seq #[]) #[]
noncomputable def k59 (P : Params) : Obj := Obj.mk (Value.type "tuple") none (Data.seq #[Value.str (Str.ofString "sign") 260]) #[]
noncomputable def k60 (P : Params) : Obj := Obj.mk (Value.type "tuple") none (Data.seq #[]) #[]
noncomputable def k62 (P : Params) : Obj := Obj.mk (Value.type "code") none (Data.fields #[Value.str (Str.ofString "is_small_letter") 257, Value.str (Str.ofString "is_small_letter") 258, Value.str (Str.ofString "/claim/cut.py") 259, Value.int 22 0, Value.int 1 0, Value.int 0 0, Value.int 0 0, Value.int 3 0, Value.ref 57, Value.bool true, Value.int 181 0, Value.ref 58, Value.none, Value.ref 59, Value.ref 60, Value.ref 61, Value.int 261 0, Value.int 22 0, Value.str (Str.ofString "/claim/cut.py") 262]) #[]
noncomputable def k63 (P : Params) : Obj := Obj.mk (Value.type "function") none (Data.func (FuncData.mk (Str.ofString "is_small_letter") (Str.ofString "is_small_letter") (pa 3) (FuncBody.stmts (bo 3)) (sc 3) 3 [] Value.none Value.none Value.none (Value.str (Str.ofString "markupmill.chars") 194) none (Value.ref 62) Value.none 0)) #[]
noncomputable def k64 (P : Params) : Obj := Obj.mk (Value.type "tuple") none (Data.seq #[]) #[]
noncomputable def k66 (P : Params) : Obj := Obj.mk (Value.type "tuple") none (Data.seq #[Value.str (Str.ofString "sign") 267]) #[]
noncomputable def k67 (P : Params) : Obj := Obj.mk (Value.type "tuple") none (Data.seq #[]) #[]
noncomputable def k69 (P : Params) : Obj := Obj.mk (Value.type "code") none (Data.fields #[Value.str (Str.ofString "is_name_start") 264, Value.str (Str.ofString "is_name_start") 265, Value.str (Str.ofString "/claim/cut.py") 266, Value.int 24 0, Value.int 1 0, Value.int 0 0, Value.int 0 0, Value.int 3 0, Value.ref 64, Value.bool true, Value.int 181 0, Value.ref 65, Value.none, Value.ref 66, Value.ref 67, Value.ref 68, Value.int 268 0, Value.int 24 0, Value.str (Str.ofString "/claim/cut.py") 269]) #[]
noncomputable def k70 (P : Params) : Obj := Obj.mk (Value.type "function") none (Data.func (FuncData.mk (Str.ofString "is_name_start") (Str.ofString "is_name_start") (pa 4) (FuncBody.stmts (bo 4)) (sc 4) 3 [] Value.none Value.none Value.none (Value.str (Str.ofString "markupmill.chars") 194) none (Value.ref 69) Value.none 0)) #[]
noncomputable def k71 (P : Params) : Obj := Obj.mk (Value.type "tuple") none (Data.seq #[]) #[]
noncomputable def k73 (P : Params) : Obj := Obj.mk (Value.type "tuple") none (Data.seq #[Value.str (Str.ofString "sign") 274]) #[]
noncomputable def k74 (P : Params) : Obj := Obj.mk (Value.type "tuple") none (Data.seq #[]) #[]
noncomputable def k76 (P : Params) : Obj := Obj.mk (Value.type "code") none (Data.fields #[Value.str (Str.ofString "is_name_char") 271, Value.str (Str.ofString "is_name_char") 272, Value.str (Str.ofString "/claim/cut.py") 273, Value.int 28 0, Value.int 1 0, Value.int 0 0, Value.int 0 0, Value.int 3 0, Value.ref 71, Value.bool true, Value.int 181 0, Value.ref 72, Value.none, Value.ref 73, Value.ref 74, Value.ref 75, Value.int 275 0, Value.int 28 0, Value.str (Str.ofString "/claim/cut.py") 276]) #[]
noncomputable def k77 (P : Params) : Obj := Obj.mk (Value.type "function") none (Data.func (FuncData.mk (Str.ofString "is_name_char") (Str.ofString "is_name_char") (pa 5) (FuncBody.stmts (bo 5)) (sc 5) 3 [] Value.none Value.none Value.none (Value.str (Str.ofString "markupmill.chars") 194) none (Value.ref 76) Value.none 0)) #[]
noncomputable def k78 (P : Params) : Obj := Obj.mk (Value.type "tuple") none (Data.seq #[]) #[]
noncomputable def k80 (P : Params) : Obj := Obj.mk (Value.type "tuple") none (Data.seq #[Value.str (Str.ofString "text") 281, Value.str (Str.ofString "sign") 282]) #[]
noncomputable def k81 (P : Params) : Obj := Obj.mk (Value.type "tuple") none (Data.seq #[]) #[]
noncomputable def k83 (P : Params) : Obj := Obj.mk (Value.type "code") none (Data.fields #[Value.str (Str.ofString "is_nmtoken") 278, Value.str (Str.ofString "is_nmtoken") 279, Value.str (Str.ofString "/claim/cut.py") 280, Value.int 34 0, Value.int 1 0, Value.int 0 0, Value.int 0 0, Value.int 3 0, Value.ref 78, Value.bool true, Value.int 181 0, Value.ref 79, Value.none, Value.ref 80, Value.ref 81, Value.ref 82, Value.int 283 0, Value.int 34 0, Value.str (Str.ofString "/claim/cut.py") 284]) #[]
noncomputable def k84 (P : Params) : Obj := Obj.mk (Value.type "function") none (Data.func (FuncData.mk (Str.ofString "is_nmtoken") (Str.ofString "is_nmtoken") (pa 6) (FuncBody.stmts (bo 6)) (sc 6) 3 [] Value.none Value.none Value.none (Value.str (Str.ofString "markupmill.chars") 194) none (Value.ref 83) Value.none 0)) #[]
noncomputable def k85 (P : Params) : Obj := Obj.mk (Value.type "tuple") none (Data.seq #[]) #[]
noncomputable def k87 (P : Params) : Obj := Obj.mk (Value.type "tuple") none (Data.seq #[Value.str (Str.ofString "text") 289]) #[]
noncomputable def k88 (P : Params) : Obj := Obj.mk (Value.type "tuple") none (Data.seq #[]) #[]
noncomputable def k90 (P : Params) : Obj := Obj.mk (Value.type "code") none (Data.fields #[Value.str (Str.ofString "is_name") 286, Value.str (Str.ofString "is_name") 287, Value.str (Str.ofString "/claim/cut.py") 288, Value.int 39 0, Value.int 1 0, Value.int 0 0, Value.int 0 0, Value.int 3 0, Value.ref 85, Value.bool true, Value.int 181 0, Value.ref 86, Value.none, Value.ref 87, Value.ref 88, Value.ref 89, Value.int 290 0, Value.int 39 0, Value.str (Str.ofString "/claim/cut.py") 291]) #[]
noncomputable def k91 (P : Params) : Obj := Obj.mk (Value.type "function") none (Data.func (FuncData.mk (Str.ofString "is_name") (Str.ofString "is_name") (pa 7) (FuncBody.stmts (bo 7)) (sc 7) 3 [] Value.none Value.none Value.none (Value.str (Str.ofString "markupmill.chars") 194) none (Value.ref 90) Value.none 0)) #[]
noncomputable def k92 (P : Params) : Obj := Obj.mk (Value.type "tuple") none (Data.seq #[Value.type "Exception"]) #[]
noncomputable def k99 (P : Params) : Obj := Obj.mk (Value.type "tuple") none (Data.seq #[]) #[]
noncomputable def k101 (P : Params) : Obj := Obj.mk (Value.type "tuple") none (Data.seq #[Value.str (Str.ofString "self") 310, Value.str (Str.ofString "message") 311]) #[]
noncomputable def k102 (P : Params) : Obj := Obj.mk (Value.type "tuple") none (Data.seq #[]) #[]
noncomputable def k104 (P : Params) : Obj := Obj.mk (Value.type "code") none (Data.fields #[Value.str (Str.ofString "__init__") 307, Value.str (Str.ofString "MarkupError.__init__") 308, Value.str (Str.ofString "/claim/cut.py") 309, Value.int 44 0, Value.int 2 0, Value.int 0 0, Value.int 0 0, Value.int 3 0, Value.ref 99, Value.bool true, Value.int 181 0, Value.ref 100, Value.none, Value.ref 101, Value.ref 102, Value.ref 103, Value.int 312 0, Value.int 44 0, Value.str (Str.ofString "/claim/cut.py") 313]) #[]
noncomputable def k105 (P : Params) : Obj := Obj.mk (Value.type "function") none (Data.func (FuncData.mk (Str.ofString "__init__") (Str.ofString "MarkupError.__init__") (pa 8) (FuncBody.stmts (bo 8)) (sc 8) 3 [] Value.none Value.none Value.none (Value.str (Str.ofString "markupmill.errors") 293) none (Value.ref 104) Value.none 0)) #[]
noncomputable def k106 (P : Params) : Obj := Obj.mk (Value.type "tuple") none (Data.seq #[Value.str (Str.ofString "message") 315]) #[]
noncomputable def k107 (P : Params) : Obj := Obj.mk (Value.type "dict") none (Data.dict #[DictEntry.mk (PyData.keyHash P (Str.ofString "__module__")) (Value.str (Str.ofString "__module__") 302) (Value.str (Str.ofString "markupmill.errors") 293), DictEntry.mk (PyData.keyHash P (Str.ofString "__firstlineno__")) (Value.str (Str.ofString "__firstlineno__") 306) (Value.int 42 305), DictEntry.mk (PyData.keyHash P (Str.ofString "__init__")) (Value.str (Str.ofString "__init__") 314) (Value.ref 105), DictEntry.mk (PyData.keyHash P (Str.ofString "__static_attributes__")) (Value.str (Str.ofString "__static_attributes__") 316) (Value.ref 106), DictEntry.mk (PyData.keyHash P (Str.ofString "__weakref__")) (Value.str (Str.ofString "__weakref__") 318) (Value.ref 109), DictEntry.mk (PyData.keyHash P (Str.ofString "__doc__")) (Value.str (Str.ofString "__doc__") 319) Value.none] 3) #[]
noncomputable def k108 (P : Params) : Obj := Obj.mk (Value.type "type") none (Data.cls (ClassData.mk (Str.ofString "MarkupError") [Value.type "Exception"] [Value.ref 108, Value.type "Exception", Value.type "BaseException", Value.type "object"] 107 (Str.ofString "MarkupError") true [] [Value.ref 129, Value.ref 141, Value.ref 153] false none false)) #[some (Value.ref 92), none, some (Value.str (Str.ofString "MarkupError") 295), some (Value.str (Str.ofString "MarkupError") 303), some (Value.builtin "Exception.__new__"), some (Value.bool true)]
noncomputable def k109 (P : Params) : Obj := Obj.mk (Value.type "getset_descriptor") none (Data.fields #[Value.str (Str.ofString "__weakref__") 317, Value.ref 108, Value.builtin "ExceptionGroup.__weakref__", Value.none]) #[]
noncomputable def k112 (P : Params) : Obj := Obj.mk (Value.type "tuple") none (Data.seq #[Value.ref 108]) #[]
noncomputable def k119 (P : Params) : Obj := Obj.mk (Value.type "tuple") none (Data.seq #[Value.int 0 336]) #[]
noncomputable def k120 (P : Params) : Obj := Obj.mk (Value.type "tuple") none (Data.seq #[]) #[]
noncomputable def k122 (P : Params) : Obj := Obj.mk (Value.type "tuple") none (Data.seq #[Value.str (Str.ofString "self") 340, Value.str (Str.ofString "message") 341, Value.str (Str.ofString "place") 342]) #[]
noncomputable def k123 (P : Params) : Obj := Obj.mk (Value.type "tuple") none (Data.seq #[]) #[]
noncomputable def k125 (P : Params) : Obj := Obj.mk (Value.type "code") none (Data.fields #[Value.str (Str.ofString "__init__") 337, Value.str (Str.ofString "SyntaxFault.__init__") 338, Value.str (Str.ofString "/claim/cut.py") 339, Value.int 49 0, Value.int 3 0, Value.int 0 0, Value.int 0 0, Value.int 3 0, Value.ref 120, Value.bool true, Value.int 181 0, Value.ref 121, Value.none, Value.ref 122, Value.ref 123, Value.ref 124, Value.int 343 0, Value.int 49 0, Value.str (Str.ofString "/claim/cut.py") 344]) #[]
noncomputable def k126 (P : Params) : Obj := Obj.mk (Value.type "function") none (Data.func (FuncData.mk (Str.ofString "__init__") (Str.ofString "SyntaxFault.__init__") (pa 9) (FuncBody.stmts (bo 9)) (sc 9) 3 [] (Value.ref 119) Value.none Value.none (Value.str (Str.ofString "markupmill.errors") 293) none (Value.ref 125) Value.none 0)) #[]
noncomputable def k127 (P : Params) : Obj := Obj.mk (Value.type "tuple") none (Data.seq #[Value.str (Str.ofString "place") 346]) #[]
noncomputable def k128 (P : Params) : Obj := Obj.mk (Value.type "dict") none (Data.dict #[DictEntry.mk (PyData.keyHash P (Str.ofString "__module__")) (Value.str (Str.ofString "__module__") 331) (Value.str (Str.ofString "markupmill.errors") 293), DictEntry.mk (PyData.keyHash P (Str.ofString "__firstlineno__")) (Value.str (Str.ofString "__firstlineno__") 335) (Value.int 47 334), DictEntry.mk (PyData.keyHash P (Str.ofString "__init__")) (Value.str (Str.ofString "__init__") 345) (Value.ref 126), DictEntry.mk (PyData.keyHash P (Str.ofString "__static_attributes__")) (Value.str (Str.ofString "__static_attributes__") 347) (Value.ref 127), DictEntry.mk (PyData.keyHash P (Str.ofString "__doc__")) (Value.str (Str.ofString "__doc__") 348) Value.none] 2) #[]
noncomputable def k129 (P : Params) : Obj := Obj.mk (Value.type "type") none (Data.cls (ClassData.mk (Str.ofString "SyntaxFault") [Value.ref 108] [Value.ref 129, Value.ref 108, Value.type "Exception", Value.type "BaseException", Value.type "object"] 128 (Str.ofString "SyntaxFault") true [] [] false none false)) #[some (Value.ref 112), none, some (Value.str (Str.ofString "SyntaxFault") 324), some (Value.str (Str.ofString "SyntaxFault") 332), some (Value.builtin "Exception.__new__"), some (Value.bool true)]
noncomputable def k132 (P : Params) : Obj := Obj.mk (Value.type "tuple") none (Data.seq #[Value.ref 108]) #[]
noncomputable def k139 (P : Params) : Obj := Obj.mk (Value.type "tuple") none (Data.seq #[]) #[]
noncomputable def k140 (P : Params) : Obj := Obj.mk (Value.type "dict") none (Data.dict #[DictEntry.mk (PyData.keyHash P (Str.ofString "__module__")) (Value.str (Str.ofString "__module__") 358) (Value.str (Str.ofString "markupmill.errors") 293), DictEntry.mk (PyData.keyHash P (Str.ofString "__firstlineno__")) (Value.str (Str.ofString "__firstlineno__") 362) (Value.int 52 361), DictEntry.mk (PyData.keyHash P (Str.ofString "__static_attributes__")) (Value.str (Str.ofString "__static_attributes__") 363) (Value.ref 139), DictEntry.mk (PyData.keyHash P (Str.ofString "__doc__")) (Value.str (Str.ofString "__doc__") 364) Value.none] 2) #[]
noncomputable def k141 (P : Params) : Obj := Obj.mk (Value.type "type") none (Data.cls (ClassData.mk (Str.ofString "EntityFault") [Value.ref 108] [Value.ref 141, Value.ref 108, Value.type "Exception", Value.type "BaseException", Value.type "object"] 140 (Str.ofString "EntityFault") true [] [] false none false)) #[some (Value.ref 132), none, some (Value.str (Str.ofString "EntityFault") 351), some (Value.str (Str.ofString "EntityFault") 359), some (Value.builtin "Exception.__new__"), some (Value.bool true)]
noncomputable def k144 (P : Params) : Obj := Obj.mk (Value.type "tuple") none (Data.seq #[Value.ref 108]) #[]
noncomputable def k151 (P : Params) : Obj := Obj.mk (Value.type "tuple") none (Data.seq #[]) #[]
noncomputable def k152 (P : Params) : Obj := Obj.mk (Value.type "dict") none (Data.dict #[DictEntry.mk (PyData.keyHash P (Str.ofString "__module__")) (Value.str (Str.ofString "__module__") 374) (Value.str (Str.ofString "markupmill.errors") 293), DictEntry.mk (PyData.keyHash P (Str.ofString "__firstlineno__")) (Value.str (Str.ofString "__firstlineno__") 378) (Value.int 54 377), DictEntry.mk (PyData.keyHash P (Str.ofString "__static_attributes__")) (Value.str (Str.ofString "__static_attributes__") 379) (Value.ref 151), DictEntry.mk (PyData.keyHash P (Str.ofString "__doc__")) (Value.str (Str.ofString "__doc__") 380) Value.none] 2) #[]
noncomputable def k153 (P : Params) : Obj := Obj.mk (Value.type "type") none (Data.cls (ClassData.mk (Str.ofString "LimitFault") [Value.ref 108] [Value.ref 153, Value.ref 108, Value.type "Exception", Value.type "BaseException", Value.type "object"] 152 (Str.ofString "LimitFault") true [] [] false none false)) #[some (Value.ref 144), none, some (Value.str (Str.ofString "LimitFault") 367), some (Value.str (Str.ofString "LimitFault") 375), some (Value.builtin "Exception.__new__"), some (Value.bool true)]
noncomputable def k156 (P : Params) : Obj := Obj.mk (Value.type "tuple") none (Data.seq #[]) #[]
noncomputable def k158 (P : Params) : Obj := Obj.mk (Value.type "tuple") none (Data.seq #[Value.str (Str.ofString "digits") 394, Value.str (Str.ofString "signs") 395, Value.str (Str.ofString "number") 396, Value.str (Str.ofString "digit") 397, Value.str (Str.ofString "value") 398]) #[]
noncomputable def k159 (P : Params) : Obj := Obj.mk (Value.type "tuple") none (Data.seq #[]) #[]
noncomputable def k161 (P : Params) : Obj := Obj.mk (Value.type "code") none (Data.fields #[Value.str (Str.ofString "value_of_digits") 391, Value.str (Str.ofString "value_of_digits") 392, Value.str (Str.ofString "/claim/cut.py") 393, Value.int 60 0, Value.int 2 0, Value.int 0 0, Value.int 0 0, Value.int 3 0, Value.ref 156, Value.bool true, Value.int 181 0, Value.ref 157, Value.none, Value.ref 158, Value.ref 159, Value.ref 160, Value.int 399 0, Value.int 60 0, Value.str (Str.ofString "/claim/cut.py") 400]) #[]
noncomputable def k162 (P : Params) : Obj := Obj.mk (Value.type "function") none (Data.func (FuncData.mk (Str.ofString "value_of_digits") (Str.ofString "value_of_digits") (pa 10) (FuncBody.stmts (bo 10)) (sc 10) 3 [] Value.none Value.none Value.none (Value.str (Str.ofString "markupmill.references") 383) none (Value.ref 161) Value.none 0)) #[]
noncomputable def k163 (P : Params) : Obj := Obj.mk (Value.type "tuple") none (Data.seq #[]) #[]
noncomputable def k165 (P : Params) : Obj := Obj.mk (Value.type "tuple") none (Data.seq #[Value.str (Str.ofString "digits") 405, Value.str (Str.ofString "begin") 406]) #[]
noncomputable def k166 (P : Params) : Obj := Obj.mk (Value.type "tuple") none (Data.seq #[]) #[]
noncomputable def k168 (P : Params) : Obj := Obj.mk (Value.type "code") none (Data.fields #[Value.str (Str.ofString "without_noughts") 402, Value.str (Str.ofString "without_noughts") 403, Value.str (Str.ofString "/claim/cut.py") 404, Value.int 70 0, Value.int 1 0, Value.int 0 0, Value.int 0 0, Value.int 3 0, Value.ref 163, Value.bool true, Value.int 181 0, Value.ref 164, Value.none, Value.ref 165, Value.ref 166, Value.ref 167, Value.int 407 0, Value.int 70 0, Value.str (Str.ofString "/claim/cut.py") 408]) #[]
noncomputable def k169 (P : Params) : Obj := Obj.mk (Value.type "function") none (Data.func (FuncData.mk (Str.ofString "without_noughts") (Str.ofString "without_noughts") (pa 11) (FuncBody.stmts (bo 11)) (sc 11) 3 [] Value.none Value.none Value.none (Value.str (Str.ofString "markupmill.references") 383) none (Value.ref 168) Value.none 0)) #[]
noncomputable def k170 (P : Params) : Obj := Obj.mk (Value.type "tuple") none (Data.seq #[]) #[]
noncomputable def k173 (P : Params) : Obj := Obj.mk (Value.type "code") none (Data.fields #[Value.str (Str.ofString "code_of") 410, Value.str (Str.ofString "code_of") 411, Value.str (Str.ofString "/claim/cut.py") 412, Value.int 75 0, Value.int 1 0, Value.int 0 0, Value.int 0 0, Value.int 3 0, Value.ref 170, Value.bool true, Value.int 181 0, Value.ref 171, Value.none, Value.none, Value.none, Value.ref 172, Value.int 413 0, Value.int 75 0, Value.str (Str.ofString "/claim/cut.py") 414]) #[]
noncomputable def k174 (P : Params) : Obj := Obj.mk (Value.type "function") none (Data.func (FuncData.mk (Str.ofString "code_of") (Str.ofString "code_of") (pa 12) (FuncBody.stmts (bo 12)) (sc 12) 3 [] Value.none Value.none Value.none (Value.str (Str.ofString "markupmill.references") 383) none (Value.ref 173) Value.none 0)) #[]
noncomputable def k175 (P : Params) : Obj := Obj.mk (Value.type "tuple") none (Data.seq #[Value.int 0 416]) #[]
noncomputable def k176 (P : Params) : Obj := Obj.mk (Value.type "tuple") none (Data.seq #[]) #[]
noncomputable def k178 (P : Params) : Obj := Obj.mk (Value.type "tuple") none (Data.seq #[Value.str (Str.ofString "told") 420, Value.str (Str.ofString "place") 421, Value.str (Str.ofString "code") 422]) #[]
noncomputable def k179 (P : Params) : Obj := Obj.mk (Value.type "tuple") none (Data.seq #[]) #[]
noncomputable def k181 (P : Params) : Obj := Obj.mk (Value.type "code") none (Data.fields #[Value.str (Str.ofString "char_of") 417, Value.str (Str.ofString "char_of") 418, Value.str (Str.ofString "/claim/cut.py") 419, Value.int 84 0, Value.int 2 0, Value.int 0 0, Value.int 0 0, Value.int 3 0, Value.ref 176, Value.bool true, Value.int 181 0, Value.ref 177, Value.none, Value.ref 178, Value.ref 179, Value.ref 180, Value.int 423 0, Value.int 84 0, Value.str (Str.ofString "/claim/cut.py") 424]) #[]
noncomputable def k182 (P : Params) : Obj := Obj.mk (Value.type "function") none (Data.func (FuncData.mk (Str.ofString "char_of") (Str.ofString "char_of") (pa 13) (FuncBody.stmts (bo 13)) (sc 13) 3 [] (Value.ref 175) Value.none Value.none (Value.str (Str.ofString "markupmill.references") 383) none (Value.ref 181) Value.none 0)) #[]
noncomputable def k183 (P : Params) : Obj := Obj.mk (Value.type "tuple") none (Data.seq #[]) #[]
noncomputable def k185 (P : Params) : Obj := Obj.mk (Value.type "tuple") none (Data.seq #[Value.str (Str.ofString "name") 429]) #[]
noncomputable def k186 (P : Params) : Obj := Obj.mk (Value.type "tuple") none (Data.seq #[]) #[]
noncomputable def k188 (P : Params) : Obj := Obj.mk (Value.type "code") none (Data.fields #[Value.str (Str.ofString "predefined") 426, Value.str (Str.ofString "predefined") 427, Value.str (Str.ofString "/claim/cut.py") 428, Value.int 91 0, Value.int 1 0, Value.int 0 0, Value.int 0 0, Value.int 3 0, Value.ref 183, Value.bool true, Value.int 181 0, Value.ref 184, Value.none, Value.ref 185, Value.ref 186, Value.ref 187, Value.int 430 0, Value.int 91 0, Value.str (Str.ofString "/claim/cut.py") 431]) #[]
noncomputable def k189 (P : Params) : Obj := Obj.mk (Value.type "function") none (Data.func (FuncData.mk (Str.ofString "predefined") (Str.ofString "predefined") (pa 14) (FuncBody.stmts (bo 14)) (sc 14) 3 [] Value.none Value.none Value.none (Value.str (Str.ofString "markupmill.references") 383) none (Value.ref 188) Value.none 0)) #[]
noncomputable def k197 (P : Params) : Obj := Obj.mk (Value.type "tuple") none (Data.seq #[]) #[]
noncomputable def k199 (P : Params) : Obj := Obj.mk (Value.type "tuple") none (Data.seq #[Value.str (Str.ofString "self") 452, Value.str (Str.ofString "limits") 453]) #[]
noncomputable def k200 (P : Params) : Obj := Obj.mk (Value.type "tuple") none (Data.seq #[]) #[]
noncomputable def k202 (P : Params) : Obj := Obj.mk (Value.type "code") none (Data.fields #[Value.str (Str.ofString "__init__") 449, Value.str (Str.ofString "Growth.__init__") 450, Value.str (Str.ofString "/claim/cut.py") 451, Value.int 107 0, Value.int 2 0, Value.int 0 0, Value.int 0 0, Value.int 3 0, Value.ref 197, Value.bool true, Value.int 181 0, Value.ref 198, Value.none, Value.ref 199, Value.ref 200, Value.ref 201, Value.int 454 0, Value.int 107 0, Value.str (Str.ofString "/claim/cut.py") 455]) #[]
noncomputable def k203 (P : Params) : Obj := Obj.mk (Value.type "function") none (Data.func (FuncData.mk (Str.ofString "__init__") (Str.ofString "Growth.__init__") (pa 15) (FuncBody.stmts (bo 15)) (sc 15) 3 [] Value.none Value.none Value.none (Value.str (Str.ofString "markupmill.entity_texts") 433) none (Value.ref 202) Value.none 0)) #[]
noncomputable def k204 (P : Params) : Obj := Obj.mk (Value.type "tuple") none (Data.seq #[]) #[]
noncomputable def k206 (P : Params) : Obj := Obj.mk (Value.type "tuple") none (Data.seq #[Value.str (Str.ofString "self") 460, Value.str (Str.ofString "many") 461]) #[]
noncomputable def k207 (P : Params) : Obj := Obj.mk (Value.type "tuple") none (Data.seq #[]) #[]
noncomputable def k209 (P : Params) : Obj := Obj.mk (Value.type "code") none (Data.fields #[Value.str (Str.ofString "add") 457, Value.str (Str.ofString "Growth.add") 458, Value.str (Str.ofString "/claim/cut.py") 459, Value.int 112 0, Value.int 2 0, Value.int 0 0, Value.int 0 0, Value.int 3 0, Value.ref 204, Value.bool true, Value.int 181 0, Value.ref 205, Value.none, Value.ref 206, Value.ref 207, Value.ref 208, Value.int 462 0, Value.int 112 0, Value.str (Str.ofString "/claim/cut.py") 463]) #[]
noncomputable def k210 (P : Params) : Obj := Obj.mk (Value.type "function") none (Data.func (FuncData.mk (Str.ofString "add") (Str.ofString "Growth.add") (pa 16) (FuncBody.stmts (bo 16)) (sc 16) 3 [] Value.none Value.none Value.none (Value.str (Str.ofString "markupmill.entity_texts") 433) none (Value.ref 209) Value.none 0)) #[]
noncomputable def k211 (P : Params) : Obj := Obj.mk (Value.type "tuple") none (Data.seq #[]) #[]
noncomputable def k213 (P : Params) : Obj := Obj.mk (Value.type "tuple") none (Data.seq #[Value.str (Str.ofString "self") 468, Value.str (Str.ofString "name") 469]) #[]
noncomputable def k214 (P : Params) : Obj := Obj.mk (Value.type "tuple") none (Data.seq #[]) #[]
noncomputable def k216 (P : Params) : Obj := Obj.mk (Value.type "code") none (Data.fields #[Value.str (Str.ofString "enter") 465, Value.str (Str.ofString "Growth.enter") 466, Value.str (Str.ofString "/claim/cut.py") 467, Value.int 117 0, Value.int 2 0, Value.int 0 0, Value.int 0 0, Value.int 3 0, Value.ref 211, Value.bool true, Value.int 181 0, Value.ref 212, Value.none, Value.ref 213, Value.ref 214, Value.ref 215, Value.int 470 0, Value.int 117 0, Value.str (Str.ofString "/claim/cut.py") 471]) #[]
noncomputable def k217 (P : Params) : Obj := Obj.mk (Value.type "function") none (Data.func (FuncData.mk (Str.ofString "enter") (Str.ofString "Growth.enter") (pa 17) (FuncBody.stmts (bo 17)) (sc 17) 3 [] Value.none Value.none Value.none (Value.str (Str.ofString "markupmill.entity_texts") 433) none (Value.ref 216) Value.none 0)) #[]
noncomputable def k218 (P : Params) : Obj := Obj.mk (Value.type "tuple") none (Data.seq #[]) #[]
noncomputable def k220 (P : Params) : Obj := Obj.mk (Value.type "tuple") none (Data.seq #[Value.str (Str.ofString "self") 476]) #[]
noncomputable def k221 (P : Params) : Obj := Obj.mk (Value.type "tuple") none (Data.seq #[]) #[]
noncomputable def k223 (P : Params) : Obj := Obj.mk (Value.type "code") none (Data.fields #[Value.str (Str.ofString "leave") 473, Value.str (Str.ofString "Growth.leave") 474, Value.str (Str.ofString "/claim/cut.py") 475, Value.int 124 0, Value.int 1 0, Value.int 0 0, Value.int 0 0, Value.int 3 0, Value.ref 218, Value.bool true, Value.int 181 0, Value.ref 219, Value.none, Value.ref 220, Value.ref 221, Value.ref 222, Value.int 477 0, Value.int 124 0, Value.str (Str.ofString "/claim/cut.py") 478]) #[]
noncomputable def k224 (P : Params) : Obj := Obj.mk (Value.type "function") none (Data.func (FuncData.mk (Str.ofString "leave") (Str.ofString "Growth.leave") (pa 18) (FuncBody.stmts (bo 18)) (sc 34) 3 [] Value.none Value.none Value.none (Value.str (Str.ofString "markupmill.entity_texts") 433) none (Value.ref 223) Value.none 0)) #[]
noncomputable def k225 (P : Params) : Obj := Obj.mk (Value.type "tuple") none (Data.seq #[]) #[]
noncomputable def k227 (P : Params) : Obj := Obj.mk (Value.type "tuple") none (Data.seq #[Value.str (Str.ofString "self") 483, Value.str (Str.ofString "name") 484, Value.str (Str.ofString "text") 485]) #[]
noncomputable def k228 (P : Params) : Obj := Obj.mk (Value.type "tuple") none (Data.seq #[]) #[]
noncomputable def k230 (P : Params) : Obj := Obj.mk (Value.type "code") none (Data.fields #[Value.str (Str.ofString "put_in") 480, Value.str (Str.ofString "Growth.put_in") 481, Value.str (Str.ofString "/claim/cut.py") 482, Value.int 127 0, Value.int 3 0, Value.int 0 0, Value.int 0 0, Value.int 3 0, Value.ref 225, Value.bool true, Value.int 181 0, Value.ref 226, Value.none, Value.ref 227, Value.ref 228, Value.ref 229, Value.int 486 0, Value.int 127 0, Value.str (Str.ofString "/claim/cut.py") 487]) #[]
noncomputable def k231 (P : Params) : Obj := Obj.mk (Value.type "function") none (Data.func (FuncData.mk (Str.ofString "put_in") (Str.ofString "Growth.put_in") (pa 19) (FuncBody.stmts (bo 19)) (sc 19) 3 [] Value.none Value.none Value.none (Value.str (Str.ofString "markupmill.entity_texts") 433) none (Value.ref 230) Value.none 0)) #[]
noncomputable def k232 (P : Params) : Obj := Obj.mk (Value.type "tuple") none (Data.seq #[Value.str (Str.ofString "limits") 489, Value.str (Str.ofString "open") 490, Value.str (Str.ofString "size") 491]) #[]
noncomputable def k233 (P : Params) : Obj := Obj.mk (Value.type "dict") none (Data.dict #[DictEntry.mk (PyData.keyHash P (Str.ofString "__module__")) (Value.str (Str.ofString "__module__") 444) (Value.str (Str.ofString "markupmill.entity_texts") 433), DictEntry.mk (PyData.keyHash P (Str.ofString "__firstlineno__")) (Value.str (Str.ofString "__firstlineno__") 448) (Value.int 105 447), DictEntry.mk (PyData.keyHash P (Str.ofString "__init__")) (Value.str (Str.ofString "__init__") 456) (Value.ref 203), DictEntry.mk (PyData.keyHash P (Str.ofString "add")) (Value.str (Str.ofString "add") 464) (Value.ref 210), DictEntry.mk (PyData.keyHash P (Str.ofString "enter")) (Value.str (Str.ofString "enter") 472) (Value.ref 217), DictEntry.mk (PyData.keyHash P (Str.ofString "leave")) (Value.str (Str.ofString "leave") 479) (Value.ref 224), DictEntry.mk (PyData.keyHash P (Str.ofString "put_in")) (Value.str (Str.ofString "put_in") 488) (Value.ref 231), DictEntry.mk (PyData.keyHash P (Str.ofString "__static_attributes__")) (Value.str (Str.ofString "__static_attributes__") 492) (Value.ref 232), DictEntry.mk (PyData.keyHash P (Str.ofString "__dict__")) (Value.str (Str.ofString "__dict__") 494) (Value.ref 235), DictEntry.mk (PyData.keyHash P (Str.ofString "__weakref__")) (Value.str (Str.ofString "__weakref__") 496) (Value.ref 236), DictEntry.mk (PyData.keyHash P (Str.ofString "__doc__")) (Value.str (Str.ofString "__doc__") 497) Value.none] 4) #[]
noncomputable def k234 (P : Params) : Obj := Obj.mk (Value.type "type") none (Data.cls (ClassData.mk (Str.ofString "Growth") [Value.type "object"] [Value.ref 234, Value.type "object"] 233 (Str.ofString "Growth") true [] [] false none false)) #[none, none, some (Value.str (Str.ofString "Growth") 437), some (Value.str (Str.ofString "Growth") 445), some (Value.builtin "object.__new__"), some (Value.bool true)]
noncomputable def k235 (P : Params) : Obj := Obj.mk (Value.type "getset_descriptor") none (Data.fields #[Value.str (Str.ofString "__dict__") 493, Value.ref 234, Value.builtin "function.__dict__", Value.builtin "function.__dict__#set"]) #[]
noncomputable def k236 (P : Params) : Obj := Obj.mk (Value.type "getset_descriptor") none (Data.fields #[Value.str (Str.ofString "__weakref__") 495, Value.ref 234, Value.builtin "ExceptionGroup.__weakref__", Value.none]) #[]
noncomputable def k246 (P : Params) : Obj := Obj.mk (Value.type "tuple") none (Data.seq #[]) #[]
noncomputable def k248 (P : Params) : Obj := Obj.mk (Value.type "tuple") none (Data.seq #[Value.str (Str.ofString "self") 515, Value.str (Str.ofString "text") 516, Value.str (Str.ofString "name") 517]) #[]
noncomputable def k249 (P : Params) : Obj := Obj.mk (Value.type "tuple") none (Data.seq #[]) #[]
noncomputable def k251 (P : Params) : Obj := Obj.mk (Value.type "code") none (Data.fields #[Value.str (Str.ofString "__init__") 512, Value.str (Str.ofString "Pending.__init__") 513, Value.str (Str.ofString "/claim/cut.py") 514, Value.int 132 0, Value.int 3 0, Value.int 0 0, Value.int 0 0, Value.int 3 0, Value.ref 246, Value.bool true, Value.int 181 0, Value.ref 247, Value.none, Value.ref 248, Value.ref 249, Value.ref 250, Value.int 518 0, Value.int 132 0, Value.str (Str.ofString "/claim/cut.py") 519]) #[]
noncomputable def k252 (P : Params) : Obj := Obj.mk (Value.type "function") none (Data.func (FuncData.mk (Str.ofString "__init__") (Str.ofString "Pending.__init__") (pa 20) (FuncBody.stmts (bo 20)) (sc 20) 3 [] Value.none Value.none Value.none (Value.str (Str.ofString "markupmill.entity_texts") 433) none (Value.ref 251) Value.none 0)) #[]
noncomputable def k253 (P : Params) : Obj := Obj.mk (Value.type "tuple") none (Data.seq #[]) #[]
noncomputable def k255 (P : Params) : Obj := Obj.mk (Value.type "tuple") none (Data.seq #[Value.str (Str.ofString "self") 524]) #[]
noncomputable def k256 (P : Params) : Obj := Obj.mk (Value.type "tuple") none (Data.seq #[]) #[]
noncomputable def k258 (P : Params) : Obj := Obj.mk (Value.type "code") none (Data.fields #[Value.str (Str.ofString "is_over") 521, Value.str (Str.ofString "Pending.is_over") 522, Value.str (Str.ofString "/claim/cut.py") 523, Value.int 137 0, Value.int 1 0, Value.int 0 0, Value.int 0 0, Value.int 3 0, Value.ref 253, Value.bool true, Value.int 181 0, Value.ref 254, Value.none, Value.ref 255, Value.ref 256, Value.ref 257, Value.int 525 0, Value.int 137 0, Value.str (Str.ofString "/claim/cut.py") 526]) #[]
noncomputable def k259 (P : Params) : Obj := Obj.mk (Value.type "function") none (Data.func (FuncData.mk (Str.ofString "is_over") (Str.ofString "Pending.is_over") (pa 21) (FuncBody.stmts (bo 21)) (sc 21) 3 [] Value.none Value.none Value.none (Value.str (Str.ofString "markupmill.entity_texts") 433) none (Value.ref 258) Value.none 0)) #[]
noncomputable def k260 (P : Params) : Obj := Obj.mk (Value.type "tuple") none (Data.seq #[]) #[]
noncomputable def k262 (P : Params) : Obj := Obj.mk (Value.type "tuple") none (Data.seq #[Value.str (Str.ofString "self") 531, Value.str (Str.ofString "marks") 532, Value.str (Str.ofString "begin") 533]) #[]
noncomputable def k263 (P : Params) : Obj := Obj.mk (Value.type "tuple") none (Data.seq #[]) #[]
noncomputable def k265 (P : Params) : Obj := Obj.mk (Value.type "code") none (Data.fields #[Value.str (Str.ofString "run") 528, Value.str (Str.ofString "Pending.run") 529, Value.str (Str.ofString "/claim/cut.py") 530, Value.int 140 0, Value.int 2 0, Value.int 0 0, Value.int 0 0, Value.int 3 0, Value.ref 260, Value.bool true, Value.int 181 0, Value.ref 261, Value.none, Value.ref 262, Value.ref 263, Value.ref 264, Value.int 534 0, Value.int 140 0, Value.str (Str.ofString "/claim/cut.py") 535]) #[]
noncomputable def k266 (P : Params) : Obj := Obj.mk (Value.type "function") none (Data.func (FuncData.mk (Str.ofString "run") (Str.ofString "Pending.run") (pa 22) (FuncBody.stmts (bo 22)) (sc 22) 3 [] Value.none Value.none Value.none (Value.str (Str.ofString "markupmill.entity_texts") 433) none (Value.ref 265) Value.none 0)) #[]
noncomputable def k267 (P : Params) : Obj := Obj.mk (Value.type "tuple") none (Data.seq #[]) #[]
noncomputable def k269 (P : Params) : Obj := Obj.mk (Value.type "tuple") none (Data.seq #[Value.str (Str.ofString "self") 540, Value.str (Str.ofString "end") 541, Value.str (Str.ofString "word") 542]) #[]
noncomputable def k270 (P : Params) : Obj := Obj.mk (Value.type "tuple") none (Data.seq #[]) #[]
noncomputable def k272 (P : Params) : Obj := Obj.mk (Value.type "code") none (Data.fields #[Value.str (Str.ofString "reference") 537, Value.str (Str.ofString "Pending.reference") 538, Value.str (Str.ofString "/claim/cut.py") 539, Value.int 146 0, Value.int 1 0, Value.int 0 0, Value.int 0 0, Value.int 3 0, Value.ref 267, Value.bool true, Value.int 181 0, Value.ref 268, Value.none, Value.ref 269, Value.ref 270, Value.ref 271, Value.int 543 0, Value.int 146 0, Value.str (Str.ofString "/claim/cut.py") 544]) #[]
noncomputable def k273 (P : Params) : Obj := Obj.mk (Value.type "function") none (Data.func (FuncData.mk (Str.ofString "reference") (Str.ofString "Pending.reference") (pa 23) (FuncBody.stmts (bo 23)) (sc 23) 3 [] Value.none Value.none Value.none (Value.str (Str.ofString "markupmill.entity_texts") 433) none (Value.ref 272) Value.none 0)) #[]
noncomputable def k274 (P : Params) : Obj := Obj.mk (Value.type "tuple") none (Data.seq #[Value.str (Str.ofString "at") 546, Value.str (Str.ofString "name") 547, Value.str (Str.ofString "text") 548]) #[]
noncomputable def k275 (P : Params) : Obj := Obj.mk (Value.type "dict") none (Data.dict #[DictEntry.mk (PyData.keyHash P (Str.ofString "__module__")) (Value.str (Str.ofString "__module__") 507) (Value.str (Str.ofString "markupmill.entity_texts") 433), DictEntry.mk (PyData.keyHash P (Str.ofString "__firstlineno__")) (Value.str (Str.ofString "__firstlineno__") 511) (Value.int 130 510), DictEntry.mk (PyData.keyHash P (Str.ofString "__init__")) (Value.str (Str.ofString "__init__") 520) (Value.ref 252), DictEntry.mk (PyData.keyHash P (Str.ofString "is_over")) (Value.str (Str.ofString "is_over") 527) (Value.ref 259), DictEntry.mk (PyData.keyHash P (Str.ofString "run")) (Value.str (Str.ofString "run") 536) (Value.ref 266), DictEntry.mk (PyData.keyHash P (Str.ofString "reference")) (Value.str (Str.ofString "reference") 545) (Value.ref 273), DictEntry.mk (PyData.keyHash P (Str.ofString "__static_attributes__")) (Value.str (Str.ofString "__static_attributes__") 549) (Value.ref 274), DictEntry.mk (PyData.keyHash P (Str.ofString "__dict__")) (Value.str (Str.ofString "__dict__") 551) (Value.ref 277), DictEntry.mk (PyData.keyHash P (Str.ofString "__weakref__")) (Value.str (Str.ofString "__weakref__") 553) (Value.ref 278), DictEntry.mk (PyData.keyHash P (Str.ofString "__doc__")) (Value.str (Str.ofString "__doc__") 554) Value.none] 4) #[]
noncomputable def k276 (P : Params) : Obj := Obj.mk (Value.type "type") none (Data.cls (ClassData.mk (Str.ofString "Pending") [Value.type "object"] [Value.ref 276, Value.type "object"] 275 (Str.ofString "Pending") true [] [] false none false)) #[none, none, some (Value.str (Str.ofString "Pending") 500), some (Value.str (Str.ofString "Pending") 508), some (Value.builtin "object.__new__"), some (Value.bool true)]
noncomputable def k277 (P : Params) : Obj := Obj.mk (Value.type "getset_descriptor") none (Data.fields #[Value.str (Str.ofString "__dict__") 550, Value.ref 276, Value.builtin "function.__dict__", Value.builtin "function.__dict__#set"]) #[]
noncomputable def k278 (P : Params) : Obj := Obj.mk (Value.type "getset_descriptor") none (Data.fields #[Value.str (Str.ofString "__weakref__") 552, Value.ref 276, Value.builtin "ExceptionGroup.__weakref__", Value.none]) #[]
noncomputable def k288 (P : Params) : Obj := Obj.mk (Value.type "tuple") none (Data.seq #[]) #[]
noncomputable def k290 (P : Params) : Obj := Obj.mk (Value.type "tuple") none (Data.seq #[Value.str (Str.ofString "self") 572, Value.str (Str.ofString "text") 573, Value.str (Str.ofString "growth") 574]) #[]
noncomputable def k291 (P : Params) : Obj := Obj.mk (Value.type "tuple") none (Data.seq #[]) #[]
noncomputable def k293 (P : Params) : Obj := Obj.mk (Value.type "code") none (Data.fields #[Value.str (Str.ofString "__init__") 569, Value.str (Str.ofString "Stack.__init__") 570, Value.str (Str.ofString "/claim/cut.py") 571, Value.int 155 0, Value.int 3 0, Value.int 0 0, Value.int 0 0, Value.int 3 0, Value.ref 288, Value.bool true, Value.int 181 0, Value.ref 289, Value.none, Value.ref 290, Value.ref 291, Value.ref 292, Value.int 575 0, Value.int 155 0, Value.str (Str.ofString "/claim/cut.py") 576]) #[]
noncomputable def k294 (P : Params) : Obj := Obj.mk (Value.type "function") none (Data.func (FuncData.mk (Str.ofString "__init__") (Str.ofString "Stack.__init__") (pa 24) (FuncBody.stmts (bo 24)) (sc 24) 3 [] Value.none Value.none Value.none (Value.str (Str.ofString "markupmill.entity_texts") 433) none (Value.ref 293) Value.none 0)) #[]
noncomputable def k295 (P : Params) : Obj := Obj.mk (Value.type "tuple") none (Data.seq #[]) #[]
noncomputable def k297 (P : Params) : Obj := Obj.mk (Value.type "tuple") none (Data.seq #[Value.str (Str.ofString "self") 581]) #[]
noncomputable def k298 (P : Params) : Obj := Obj.mk (Value.type "tuple") none (Data.seq #[]) #[]
noncomputable def k300 (P : Params) : Obj := Obj.mk (Value.type "code") none (Data.fields #[Value.str (Str.ofString "top") 578, Value.str (Str.ofString "Stack.top") 579, Value.str (Str.ofString "/claim/cut.py") 580, Value.int 159 0, Value.int 1 0, Value.int 0 0, Value.int 0 0, Value.int 3 0, Value.ref 295, Value.bool true, Value.int 181 0, Value.ref 296, Value.none, Value.ref 297, Value.ref 298, Value.ref 299, Value.int 582 0, Value.int 159 0, Value.str (Str.ofString "/claim/cut.py") 583]) #[]
noncomputable def k301 (P : Params) : Obj := Obj.mk (Value.type "function") none (Data.func (FuncData.mk (Str.ofString "top") (Str.ofString "Stack.top") (pa 25) (FuncBody.stmts (bo 25)) (sc 34) 3 [] Value.none Value.none Value.none (Value.str (Str.ofString "markupmill.entity_texts") 433) none (Value.ref 300) Value.none 0)) #[]
noncomputable def k302 (P : Params) : Obj := Obj.mk (Value.type "tuple") none (Data.seq #[]) #[]
noncomputable def k304 (P : Params) : Obj := Obj.mk (Value.type "tuple") none (Data.seq #[Value.str (Str.ofString "self") 588, Value.str (Str.ofString "name") 589, Value.str (Str.ofString "text") 590]) #[]
noncomputable def k305 (P : Params) : Obj := Obj.mk (Value.type "tuple") none (Data.seq #[]) #[]
noncomputable def k307 (P : Params) : Obj := Obj.mk (Value.type "code") none (Data.fields #[Value.str (Str.ofString "put_in") 585, Value.str (Str.ofString "Stack.put_in") 586, Value.str (Str.ofString "/claim/cut.py") 587, Value.int 165 0, Value.int 3 0, Value.int 0 0, Value.int 0 0, Value.int 3 0, Value.ref 302, Value.bool true, Value.int 181 0, Value.ref 303, Value.none, Value.ref 304, Value.ref 305, Value.ref 306, Value.int 591 0, Value.int 165 0, Value.str (Str.ofString "/claim/cut.py") 592]) #[]
noncomputable def k308 (P : Params) : Obj := Obj.mk (Value.type "function") none (Data.func (FuncData.mk (Str.ofString "put_in") (Str.ofString "Stack.put_in") (pa 26) (FuncBody.stmts (bo 26)) (sc 26) 3 [] Value.none Value.none Value.none (Value.str (Str.ofString "markupmill.entity_texts") 433) none (Value.ref 307) Value.none 0)) #[]
noncomputable def k309 (P : Params) : Obj := Obj.mk (Value.type "tuple") none (Data.seq #[Value.str (Str.ofString "growth") 594, Value.str (Str.ofString "rows") 595]) #[]
noncomputable def k310 (P : Params) : Obj := Obj.mk (Value.type "dict") none (Data.dict #[DictEntry.mk (PyData.keyHash P (Str.ofString "__module__")) (Value.str (Str.ofString "__module__") 564) (Value.str (Str.ofString "markupmill.entity_texts") 433), DictEntry.mk (PyData.keyHash P (Str.ofString "__firstlineno__")) (Value.str (Str.ofString "__firstlineno__") 568) (Value.int 153 567), DictEntry.mk (PyData.keyHash P (Str.ofString "__init__")) (Value.str (Str.ofString "__init__") 577) (Value.ref 294), DictEntry.mk (PyData.keyHash P (Str.ofString "top")) (Value.str (Str.ofString "top") 584) (Value.ref 301), DictEntry.mk (PyData.keyHash P (Str.ofString "put_in")) (Value.str (Str.ofString "put_in") 593) (Value.ref 308), DictEntry.mk (PyData.keyHash P (Str.ofString "__static_attributes__")) (Value.str (Str.ofString "__static_attributes__") 596) (Value.ref 309), DictEntry.mk (PyData.keyHash P (Str.ofString "__dict__")) (Value.str (Str.ofString "__dict__") 598) (Value.ref 312), DictEntry.mk (PyData.keyHash P (Str.ofString "__weakref__")) (Value.str (Str.ofString "__weakref__") 600) (Value.ref 313), DictEntry.mk (PyData.keyHash P (Str.ofString "__doc__")) (Value.str (Str.ofString "__doc__") 601) Value.none] 4) #[]
noncomputable def k311 (P : Params) : Obj := Obj.mk (Value.type "type") none (Data.cls (ClassData.mk (Str.ofString "Stack") [Value.type "object"] [Value.ref 311, Value.type "object"] 310 (Str.ofString "Stack") true [] [] false none false)) #[none, none, some (Value.str (Str.ofString "Stack") 557), some (Value.str (Str.ofString "Stack") 565), some (Value.builtin "object.__new__"), some (Value.bool true)]
noncomputable def k312 (P : Params) : Obj := Obj.mk (Value.type "getset_descriptor") none (Data.fields #[Value.str (Str.ofString "__dict__") 597, Value.ref 311, Value.builtin "function.__dict__", Value.builtin "function.__dict__#set"]) #[]
noncomputable def k313 (P : Params) : Obj := Obj.mk (Value.type "getset_descriptor") none (Data.fields #[Value.str (Str.ofString "__weakref__") 599, Value.ref 311, Value.builtin "ExceptionGroup.__weakref__", Value.none]) #[]
noncomputable def k316 (P : Params) : Obj := Obj.mk (Value.type "tuple") none (Data.seq #[]) #[]
noncomputable def k318 (P : Params) : Obj := Obj.mk (Value.type "tuple") none (Data.seq #[Value.str (Str.ofString "table") 607, Value.str (Str.ofString "growth") 608]) #[]
noncomputable def k319 (P : Params) : Obj := Obj.mk (Value.type "tuple") none (Data.seq #[]) #[]
noncomputable def k321 (P : Params) : Obj := Obj.mk (Value.type "code") none (Data.fields #[Value.str (Str.ofString "growth_for") 604, Value.str (Str.ofString "growth_for") 605, Value.str (Str.ofString "/claim/cut.py") 606, Value.int 168 0, Value.int 2 0, Value.int 0 0, Value.int 0 0, Value.int 3 0, Value.ref 316, Value.bool true, Value.int 181 0, Value.ref 317, Value.none, Value.ref 318, Value.ref 319, Value.ref 320, Value.int 609 0, Value.int 168 0, Value.str (Str.ofString "/claim/cut.py") 610]) #[]
noncomputable def k322 (P : Params) : Obj := Obj.mk (Value.type "function") none (Data.func (FuncData.mk (Str.ofString "growth_for") (Str.ofString "growth_for") (pa 27) (FuncBody.stmts (bo 27)) (sc 27) 3 [] Value.none Value.none Value.none (Value.str (Str.ofString "markupmill.entity_texts") 433) none (Value.ref 321) Value.none 0)) #[]
noncomputable def k323 (P : Params) : Obj := Obj.mk (Value.type "tuple") none (Data.seq #[Value.none]) #[]
noncomputable def k324 (P : Params) : Obj := Obj.mk (Value.type "tuple") none (Data.seq #[]) #[]
noncomputable def k326 (P : Params) : Obj := Obj.mk (Value.type "tuple") none (Data.seq #[Value.str (Str.ofString "raw") 615, Value.str (Str.ofString "table") 616, Value.str (Str.ofString "growth") 617, Value.str (Str.ofString "stack") 618, Value.str (Str.ofString "found") 619, Value.str (Str.ofString "pending") 620]) #[]
noncomputable def k327 (P : Params) : Obj := Obj.mk (Value.type "tuple") none (Data.seq #[]) #[]
noncomputable def k329 (P : Params) : Obj := Obj.mk (Value.type "code") none (Data.fields #[Value.str (Str.ofString "text_in_value") 612, Value.str (Str.ofString "text_in_value") 613, Value.str (Str.ofString "/claim/cut.py") 614, Value.int 170 0, Value.int 3 0, Value.int 0 0, Value.int 0 0, Value.int 3 0, Value.ref 324, Value.bool true, Value.int 181 0, Value.ref 325, Value.none, Value.ref 326, Value.ref 327, Value.ref 328, Value.int 621 0, Value.int 170 0, Value.str (Str.ofString "/claim/cut.py") 622]) #[]
noncomputable def k330 (P : Params) : Obj := Obj.mk (Value.type "function") none (Data.func (FuncData.mk (Str.ofString "text_in_value") (Str.ofString "text_in_value") (pa 28) (FuncBody.stmts (bo 28)) (sc 28) 3 [] (Value.ref 323) Value.none Value.none (Value.str (Str.ofString "markupmill.entity_texts") 433) none (Value.ref 329) Value.none 0)) #[]
noncomputable def k331 (P : Params) : Obj := Obj.mk (Value.type "tuple") none (Data.seq #[]) #[]
noncomputable def k333 (P : Params) : Obj := Obj.mk (Value.type "tuple") none (Data.seq #[Value.str (Str.ofString "word") 627, Value.str (Str.ofString "table") 628, Value.str (Str.ofString "stack") 629, Value.str (Str.ofString "sign") 630]) #[]
noncomputable def k334 (P : Params) : Obj := Obj.mk (Value.type "tuple") none (Data.seq #[]) #[]
noncomputable def k336 (P : Params) : Obj := Obj.mk (Value.type "code") none (Data.fields #[Value.str (Str.ofString "sign_or_entity") 624, Value.str (Str.ofString "sign_or_entity") 625, Value.str (Str.ofString "/claim/cut.py") 626, Value.int 181 0, Value.int 3 0, Value.int 0 0, Value.int 0 0, Value.int 3 0, Value.ref 331, Value.bool true, Value.int 181 0, Value.ref 332, Value.none, Value.ref 333, Value.ref 334, Value.ref 335, Value.int 631 0, Value.int 181 0, Value.str (Str.ofString "/claim/cut.py") 632]) #[]
noncomputable def k337 (P : Params) : Obj := Obj.mk (Value.type "function") none (Data.func (FuncData.mk (Str.ofString "sign_or_entity") (Str.ofString "sign_or_entity") (pa 29) (FuncBody.stmts (bo 29)) (sc 29) 3 [] Value.none Value.none Value.none (Value.str (Str.ofString "markupmill.entity_texts") 433) none (Value.ref 336) Value.none 0)) #[]
noncomputable def k338 (P : Params) : Obj := Obj.mk (Value.type "tuple") none (Data.seq #[]) #[]
noncomputable def k340 (P : Params) : Obj := Obj.mk (Value.type "tuple") none (Data.seq #[Value.str (Str.ofString "text") 637, Value.str (Str.ofString "sign") 638]) #[]
noncomputable def k341 (P : Params) : Obj := Obj.mk (Value.type "tuple") none (Data.seq #[]) #[]
noncomputable def k343 (P : Params) : Obj := Obj.mk (Value.type "code") none (Data.fields #[Value.str (Str.ofString "blank_spaces") 634, Value.str (Str.ofString "blank_spaces") 635, Value.str (Str.ofString "/claim/cut.py") 636, Value.int 189 0, Value.int 1 0, Value.int 0 0, Value.int 0 0, Value.int 3 0, Value.ref 338, Value.bool true, Value.int 181 0, Value.ref 339, Value.none, Value.ref 340, Value.ref 341, Value.ref 342, Value.int 639 0, Value.int 189 0, Value.str (Str.ofString "/claim/cut.py") 640]) #[]
noncomputable def k344 (P : Params) : Obj := Obj.mk (Value.type "function") none (Data.func (FuncData.mk (Str.ofString "blank_spaces") (Str.ofString "blank_spaces") (pa 30) (FuncBody.stmts (bo 30)) (sc 30) 3 [] Value.none Value.none Value.none (Value.str (Str.ofString "markupmill.entity_texts") 433) none (Value.ref 343) Value.none 0)) #[]
noncomputable def k352 (P : Params) : Obj := Obj.mk (Value.type "tuple") none (Data.seq #[Value.int 20 660, Value.int 100000 661]) #[]
noncomputable def k353 (P : Params) : Obj := Obj.mk (Value.type "tuple") none (Data.seq #[]) #[]
noncomputable def k355 (P : Params) : Obj := Obj.mk (Value.type "tuple") none (Data.seq #[Value.str (Str.ofString "self") 665, Value.str (Str.ofString "most_depth") 666, Value.str (Str.ofString "most_size") 667]) #[]
noncomputable def k356 (P : Params) : Obj := Obj.mk (Value.type "tuple") none (Data.seq #[]) #[]
noncomputable def k358 (P : Params) : Obj := Obj.mk (Value.type "code") none (Data.fields #[Value.str (Str.ofString "__init__") 662, Value.str (Str.ofString "Limits.__init__") 663, Value.str (Str.ofString "/claim/cut.py") 664, Value.int 198 0, Value.int 3 0, Value.int 0 0, Value.int 0 0, Value.int 3 0, Value.ref 353, Value.bool true, Value.int 181 0, Value.ref 354, Value.none, Value.ref 355, Value.ref 356, Value.ref 357, Value.int 668 0, Value.int 198 0, Value.str (Str.ofString "/claim/cut.py") 669]) #[]
noncomputable def k359 (P : Params) : Obj := Obj.mk (Value.type "function") none (Data.func (FuncData.mk (Str.ofString "__init__") (Str.ofString "Limits.__init__") (pa 31) (FuncBody.stmts (bo 31)) (sc 31) 3 [] (Value.ref 352) Value.none Value.none (Value.str (Str.ofString "markupmill.entities") 642) none (Value.ref 358) Value.none 0)) #[]
noncomputable def k360 (P : Params) : Obj := Obj.mk (Value.type "tuple") none (Data.seq #[Value.str (Str.ofString "most_depth") 671, Value.str (Str.ofString "most_size") 672]) #[]
noncomputable def k361 (P : Params) : Obj := Obj.mk (Value.type "dict") none (Data.dict #[DictEntry.mk (PyData.keyHash P (Str.ofString "__module__")) (Value.str (Str.ofString "__module__") 655) (Value.str (Str.ofString "markupmill.entities") 642), DictEntry.mk (PyData.keyHash P (Str.ofString "__firstlineno__")) (Value.str (Str.ofString "__firstlineno__") 659) (Value.int 196 658), DictEntry.mk (PyData.keyHash P (Str.ofString "__init__")) (Value.str (Str.ofString "__init__") 670) (Value.ref 359), DictEntry.mk (PyData.keyHash P (Str.ofString "__static_attributes__")) (Value.str (Str.ofString "__static_attributes__") 673) (Value.ref 360), DictEntry.mk (PyData.keyHash P (Str.ofString "__dict__")) (Value.str (Str.ofString "__dict__") 675) (Value.ref 363), DictEntry.mk (PyData.keyHash P (Str.ofString "__weakref__")) (Value.str (Str.ofString "__weakref__") 677) (Value.ref 364), DictEntry.mk (PyData.keyHash P (Str.ofString "__doc__")) (Value.str (Str.ofString "__doc__") 678) Value.none] 4) #[]
noncomputable def k362 (P : Params) : Obj := Obj.mk (Value.type "type") none (Data.cls (ClassData.mk (Str.ofString "Limits") [Value.type "object"] [Value.ref 362, Value.type "object"] 361 (Str.ofString "Limits") true [] [] false none false)) #[none, none, some (Value.str (Str.ofString "Limits") 648), some (Value.str (Str.ofString "Limits") 656), some (Value.builtin "object.__new__"), some (Value.bool true)]
noncomputable def k363 (P : Params) : Obj := Obj.mk (Value.type "getset_descriptor") none (Data.fields #[Value.str (Str.ofString "__dict__") 674, Value.ref 362, Value.builtin "function.__dict__", Value.builtin "function.__dict__#set"]) #[]
noncomputable def k364 (P : Params) : Obj := Obj.mk (Value.type "getset_descriptor") none (Data.fields #[Value.str (Str.ofString "__weakref__") 676, Value.ref 362, Value.builtin "ExceptionGroup.__weakref__", Value.none]) #[]
noncomputable def k374 (P : Params) : Obj := Obj.mk (Value.type "tuple") none (Data.seq #[]) #[]
noncomputable def k376 (P : Params) : Obj := Obj.mk (Value.type "tuple") none (Data.seq #[Value.str (Str.ofString "self") 696, Value.str (Str.ofString "name") 697, Value.str (Str.ofString "value") 698, Value.str (Str.ofString "system") 699, Value.str (Str.ofString "notation") 700]) #[]
noncomputable def k377 (P : Params) : Obj := Obj.mk (Value.type "tuple") none (Data.seq #[]) #[]
noncomputable def k379 (P : Params) : Obj := Obj.mk (Value.type "code") none (Data.fields #[Value.str (Str.ofString "__init__") 693, Value.str (Str.ofString "Entity.__init__") 694, Value.str (Str.ofString "/claim/cut.py") 695, Value.int 203 0, Value.int 5 0, Value.int 0 0, Value.int 0 0, Value.int 3 0, Value.ref 374, Value.bool true, Value.int 181 0, Value.ref 375, Value.none, Value.ref 376, Value.ref 377, Value.ref 378, Value.int 701 0, Value.int 203 0, Value.str (Str.ofString "/claim/cut.py") 702]) #[]
noncomputable def k380 (P : Params) : Obj := Obj.mk (Value.type "function") none (Data.func (FuncData.mk (Str.ofString "__init__") (Str.ofString "Entity.__init__") (pa 32) (FuncBody.stmts (bo 32)) (sc 32) 3 [] Value.none Value.none Value.none (Value.str (Str.ofString "markupmill.entities") 642) none (Value.ref 379) Value.none 0)) #[]
noncomputable def k381 (P : Params) : Obj := Obj.mk (Value.type "tuple") none (Data.seq #[]) #[]
noncomputable def k383 (P : Params) : Obj := Obj.mk (Value.type "tuple") none (Data.seq #[Value.str (Str.ofString "self") 707]) #[]
noncomputable def k384 (P : Params) : Obj := Obj.mk (Value.type "tuple") none (Data.seq #[]) #[]
noncomputable def k386 (P : Params) : Obj := Obj.mk (Value.type "code") none (Data.fields #[Value.str (Str.ofString "is_outer") 704, Value.str (Str.ofString "Entity.is_outer") 705, Value.str (Str.ofString "/claim/cut.py") 706, Value.int 209 0, Value.int 1 0, Value.int 0 0, Value.int 0 0, Value.int 3 0, Value.ref 381, Value.bool true, Value.int 181 0, Value.ref 382, Value.none, Value.ref 383, Value.ref 384, Value.ref 385, Value.int 708 0, Value.int 209 0, Value.str (Str.ofString "/claim/cut.py") 709]) #[]
noncomputable def k387 (P : Params) : Obj := Obj.mk (Value.type "function") none (Data.func (FuncData.mk (Str.ofString "is_outer") (Str.ofString "Entity.is_outer") (pa 33) (FuncBody.stmts (bo 33)) (sc 34) 3 [] Value.none Value.none Value.none (Value.str (Str.ofString "markupmill.entities") 642) none (Value.ref 386) Value.none 0)) #[]
noncomputable def k388 (P : Params) : Obj := Obj.mk (Value.type "tuple") none (Data.seq #[]) #[]
noncomputable def k390 (P : Params) : Obj := Obj.mk (Value.type "tuple") none (Data.seq #[Value.str (Str.ofString "self") 714]) #[]
noncomputable def k391 (P : Params) : Obj := Obj.mk (Value.type "tuple") none (Data.seq #[]) #[]
noncomputable def k393 (P : Params) : Obj := Obj.mk (Value.type "code") none (Data.fields #[Value.str (Str.ofString "is_unparsed") 711, Value.str (Str.ofString "Entity.is_unparsed") 712, Value.str (Str.ofString "/claim/cut.py") 713, Value.int 212 0, Value.int 1 0, Value.int 0 0, Value.int 0 0, Value.int 3 0, Value.ref 388, Value.bool true, Value.int 181 0, Value.ref 389, Value.none, Value.ref 390, Value.ref 391, Value.ref 392, Value.int 715 0, Value.int 212 0, Value.str (Str.ofString "/claim/cut.py") 716]) #[]
noncomputable def k394 (P : Params) : Obj := Obj.mk (Value.type "function") none (Data.func (FuncData.mk (Str.ofString "is_unparsed") (Str.ofString "Entity.is_unparsed") (pa 34) (FuncBody.stmts (bo 34)) (sc 34) 3 [] Value.none Value.none Value.none (Value.str (Str.ofString "markupmill.entities") 642) none (Value.ref 393) Value.none 0)) #[]
noncomputable def k395 (P : Params) : Obj := Obj.mk (Value.type "tuple") none (Data.seq #[Value.str (Str.ofString "name") 718, Value.str (Str.ofString "notation") 719, Value.str (Str.ofString "system") 720, Value.str (Str.ofString "value") 721]) #[]
noncomputable def k396 (P : Params) : Obj := Obj.mk (Value.type "dict") none (Data.dict #[DictEntry.mk (PyData.keyHash P (Str.ofString "__module__")) (Value.str (Str.ofString "__module__") 688) (Value.str (Str.ofString "markupmill.entities") 642), DictEntry.mk (PyData.keyHash P (Str.ofString "__firstlineno__")) (Value.str (Str.ofString "__firstlineno__") 692) (Value.int 201 691), DictEntry.mk (PyData.keyHash P (Str.ofString "__init__")) (Value.str (Str.ofString "__init__") 703) (Value.ref 380), DictEntry.mk (PyData.keyHash P (Str.ofString "is_outer")) (Value.str (Str.ofString "is_outer") 710) (Value.ref 387), DictEntry.mk (PyData.keyHash P (Str.ofString "is_unparsed")) (Value.str (Str.ofString "is_unparsed") 717) (Value.ref 394), DictEntry.mk (PyData.keyHash P (Str.ofString "__static_attributes__")) (Value.str (Str.ofString "__static_attributes__") 722) (Value.ref 395), DictEntry.mk (PyData.keyHash P (Str.ofString "__dict__")) (Value.str (Str.ofString "__dict__") 724) (Value.ref 398), DictEntry.mk (PyData.keyHash P (Str.ofString "__weakref__")) (Value.str (Str.ofString "__weakref__") 726) (Value.ref 399), DictEntry.mk (PyData.keyHash P (Str.ofString "__doc__")) (Value.str (Str.ofString "__doc__") 727) Value.none] 4) #[]
noncomputable def k397 (P : Params) : Obj := Obj.mk (Value.type "type") none (Data.cls (ClassData.mk (Str.ofString "Entity") [Value.type "object"] [Value.ref 397, Value.type "object"] 396 (Str.ofString "Entity") true [] [] false none false)) #[none, none, some (Value.str (Str.ofString "Entity") 681), some (Value.str (Str.ofString "Entity") 689), some (Value.builtin "object.__new__"), some (Value.bool true)]
noncomputable def k398 (P : Params) : Obj := Obj.mk (Value.type "getset_descriptor") none (Data.fields #[Value.str (Str.ofString "__dict__") 723, Value.ref 397, Value.builtin "function.__dict__", Value.builtin "function.__dict__#set"]) #[]
noncomputable def k399 (P : Params) : Obj := Obj.mk (Value.type "getset_descriptor") none (Data.fields #[Value.str (Str.ofString "__weakref__") 725, Value.ref 397, Value.builtin "ExceptionGroup.__weakref__", Value.none]) #[]
noncomputable def k402 (P : Params) : Obj := Obj.mk (Value.type "tuple") none (Data.seq #[]) #[]
noncomputable def k404 (P : Params) : Obj := Obj.mk (Value.type "tuple") none (Data.seq #[Value.str (Str.ofString "name") 733, Value.str (Str.ofString "sign") 734]) #[]
noncomputable def k405 (P : Params) : Obj := Obj.mk (Value.type "tuple") none (Data.seq #[]) #[]
noncomputable def k407 (P : Params) : Obj := Obj.mk (Value.type "code") none (Data.fields #[Value.str (Str.ofString "plain_reference") 730, Value.str (Str.ofString "plain_reference") 731, Value.str (Str.ofString "/claim/cut.py") 732, Value.int 214 0, Value.int 1 0, Value.int 0 0, Value.int 0 0, Value.int 3 0, Value.ref 402, Value.bool true, Value.int 181 0, Value.ref 403, Value.none, Value.ref 404, Value.ref 405, Value.ref 406, Value.int 735 0, Value.int 214 0, Value.str (Str.ofString "/claim/cut.py") 736]) #[]
noncomputable def k408 (P : Params) : Obj := Obj.mk (Value.type "function") none (Data.func (FuncData.mk (Str.ofString "plain_reference") (Str.ofString "plain_reference") (pa 35) (FuncBody.stmts (bo 35)) (sc 35) 3 [] Value.none Value.none Value.none (Value.str (Str.ofString "markupmill.entities") 642) none (Value.ref 407) Value.none 0)) #[]
noncomputable def k409 (P : Params) : Obj := Obj.mk (Value.type "tuple") none (Data.seq #[]) #[]
noncomputable def k411 (P : Params) : Obj := Obj.mk (Value.type "tuple") none (Data.seq #[Value.str (Str.ofString "text") 741, Value.str (Str.ofString "size") 742, Value.str (Str.ofString "end") 743]) #[]
noncomputable def k412 (P : Params) : Obj := Obj.mk (Value.type "tuple") none (Data.seq #[]) #[]
noncomputable def k414 (P : Params) : Obj := Obj.mk (Value.type "code") none (Data.fields #[Value.str (Str.ofString "without_head") 738, Value.str (Str.ofString "without_head") 739, Value.str (Str.ofString "/claim/cut.py") 740, Value.int 217 0, Value.int 1 0, Value.int 0 0, Value.int 0 0, Value.int 3 0, Value.ref 409, Value.bool true, Value.int 181 0, Value.ref 410, Value.none, Value.ref 411, Value.ref 412, Value.ref 413, Value.int 744 0, Value.int 217 0, Value.str (Str.ofString "/claim/cut.py") 745]) #[]
noncomputable def k415 (P : Params) : Obj := Obj.mk (Value.type "function") none (Data.func (FuncData.mk (Str.ofString "without_head") (Str.ofString "without_head") (pa 36) (FuncBody.stmts (bo 36)) (sc 36) 3 [] Value.none Value.none Value.none (Value.str (Str.ofString "markupmill.entities") 642) none (Value.ref 414) Value.none 0)) #[]
noncomputable def k423 (P : Params) : Obj := Obj.mk (Value.type "tuple") none (Data.seq #[Value.none]) #[]
noncomputable def k424 (P : Params) : Obj := Obj.mk (Value.type "tuple") none (Data.seq #[]) #[]
noncomputable def k426 (P : Params) : Obj := Obj.mk (Value.type "tuple") none (Data.seq #[Value.str (Str.ofString "self") 762, Value.str (Str.ofString "limits") 763, Value.str (Str.ofString "outer") 764]) #[]
noncomputable def k427 (P : Params) : Obj := Obj.mk (Value.type "tuple") none (Data.seq #[]) #[]
noncomputable def k429 (P : Params) : Obj := Obj.mk (Value.type "code") none (Data.fields #[Value.str (Str.ofString "__init__") 759, Value.str (Str.ofString "EntityTable.__init__") 760, Value.str (Str.ofString "/claim/cut.py") 761, Value.int 227 0, Value.int 3 0, Value.int 0 0, Value.int 0 0, Value.int 3 0, Value.ref 424, Value.bool true, Value.int 181 0, Value.ref 425, Value.none, Value.ref 426, Value.ref 427, Value.ref 428, Value.int 765 0, Value.int 227 0, Value.str (Str.ofString "/claim/cut.py") 766]) #[]
noncomputable def k430 (P : Params) : Obj := Obj.mk (Value.type "function") none (Data.func (FuncData.mk (Str.ofString "__init__") (Str.ofString "EntityTable.__init__") (pa 37) (FuncBody.stmts (bo 37)) (sc 37) 3 [] (Value.ref 423) Value.none Value.none (Value.str (Str.ofString "markupmill.entities") 642) none (Value.ref 429) Value.none 0)) #[]
noncomputable def k431 (P : Params) : Obj := Obj.mk (Value.type "tuple") none (Data.seq #[Value.none, Value.none]) #[]
noncomputable def k432 (P : Params) : Obj := Obj.mk (Value.type "tuple") none (Data.seq #[]) #[]
noncomputable def k434 (P : Params) : Obj := Obj.mk (Value.type "tuple") none (Data.seq #[Value.str (Str.ofString "self") 771, Value.str (Str.ofString "is_parameter") 772, Value.str (Str.ofString "name") 773, Value.str (Str.ofString "value") 774, Value.str (Str.ofString "system") 775, Value.str (Str.ofString "notation") 776, Value.str (Str.ofString "rows") 777]) #[]
noncomputable def k435 (P : Params) : Obj := Obj.mk (Value.type "tuple") none (Data.seq #[]) #[]
noncomputable def k437 (P : Params) : Obj := Obj.mk (Value.type "code") none (Data.fields #[Value.str (Str.ofString "declare") 768, Value.str (Str.ofString "EntityTable.declare") 769, Value.str (Str.ofString "/claim/cut.py") 770, Value.int 233 0, Value.int 6 0, Value.int 0 0, Value.int 0 0, Value.int 3 0, Value.ref 432, Value.bool true, Value.int 181 0, Value.ref 433, Value.none, Value.ref 434, Value.ref 435, Value.ref 436, Value.int 778 0, Value.int 233 0, Value.str (Str.ofString "/claim/cut.py") 779]) #[]
noncomputable def k438 (P : Params) : Obj := Obj.mk (Value.type "function") none (Data.func (FuncData.mk (Str.ofString "declare") (Str.ofString "EntityTable.declare") (pa 38) (FuncBody.stmts (bo 38)) (sc 38) 3 [] (Value.ref 431) Value.none Value.none (Value.str (Str.ofString "markupmill.entities") 642) none (Value.ref 437) Value.none 0)) #[]
noncomputable def k439 (P : Params) : Obj := Obj.mk (Value.type "tuple") none (Data.seq #[]) #[]
noncomputable def k441 (P : Params) : Obj := Obj.mk (Value.type "tuple") none (Data.seq #[Value.str (Str.ofString "self") 784, Value.str (Str.ofString "name") 785]) #[]
noncomputable def k442 (P : Params) : Obj := Obj.mk (Value.type "tuple") none (Data.seq #[]) #[]
noncomputable def k444 (P : Params) : Obj := Obj.mk (Value.type "code") none (Data.fields #[Value.str (Str.ofString "entity") 781, Value.str (Str.ofString "EntityTable.entity") 782, Value.str (Str.ofString "/claim/cut.py") 783, Value.int 240 0, Value.int 2 0, Value.int 0 0, Value.int 0 0, Value.int 3 0, Value.ref 439, Value.bool true, Value.int 181 0, Value.ref 440, Value.none, Value.ref 441, Value.ref 442, Value.ref 443, Value.int 786 0, Value.int 240 0, Value.str (Str.ofString "/claim/cut.py") 787]) #[]
noncomputable def k445 (P : Params) : Obj := Obj.mk (Value.type "function") none (Data.func (FuncData.mk (Str.ofString "entity") (Str.ofString "EntityTable.entity") (pa 39) (FuncBody.stmts (bo 39)) (sc 46) 3 [] Value.none Value.none Value.none (Value.str (Str.ofString "markupmill.entities") 642) none (Value.ref 444) Value.none 0)) #[]
noncomputable def k446 (P : Params) : Obj := Obj.mk (Value.type "tuple") none (Data.seq #[]) #[]
noncomputable def k448 (P : Params) : Obj := Obj.mk (Value.type "tuple") none (Data.seq #[Value.str (Str.ofString "self") 792, Value.str (Str.ofString "name") 793]) #[]
noncomputable def k449 (P : Params) : Obj := Obj.mk (Value.type "tuple") none (Data.seq #[]) #[]
noncomputable def k451 (P : Params) : Obj := Obj.mk (Value.type "code") none (Data.fields #[Value.str (Str.ofString "is_declared") 789, Value.str (Str.ofString "EntityTable.is_declared") 790, Value.str (Str.ofString "/claim/cut.py") 791, Value.int 245 0, Value.int 2 0, Value.int 0 0, Value.int 0 0, Value.int 3 0, Value.ref 446, Value.bool true, Value.int 181 0, Value.ref 447, Value.none, Value.ref 448, Value.ref 449, Value.ref 450, Value.int 794 0, Value.int 245 0, Value.str (Str.ofString "/claim/cut.py") 795]) #[]
noncomputable def k452 (P : Params) : Obj := Obj.mk (Value.type "function") none (Data.func (FuncData.mk (Str.ofString "is_declared") (Str.ofString "EntityTable.is_declared") (pa 40) (FuncBody.stmts (bo 40)) (sc 40) 3 [] Value.none Value.none Value.none (Value.str (Str.ofString "markupmill.entities") 642) none (Value.ref 451) Value.none 0)) #[]
noncomputable def k453 (P : Params) : Obj := Obj.mk (Value.type "tuple") none (Data.seq #[]) #[]
noncomputable def k455 (P : Params) : Obj := Obj.mk (Value.type "tuple") none (Data.seq #[Value.str (Str.ofString "self") 800, Value.str (Str.ofString "name") 801]) #[]
noncomputable def k456 (P : Params) : Obj := Obj.mk (Value.type "tuple") none (Data.seq #[]) #[]
noncomputable def k458 (P : Params) : Obj := Obj.mk (Value.type "code") none (Data.fields #[Value.str (Str.ofString "is_unparsed") 797, Value.str (Str.ofString "EntityTable.is_unparsed") 798, Value.str (Str.ofString "/claim/cut.py") 799, Value.int 248 0, Value.int 2 0, Value.int 0 0, Value.int 0 0, Value.int 3 0, Value.ref 453, Value.bool true, Value.int 181 0, Value.ref 454, Value.none, Value.ref 455, Value.ref 456, Value.ref 457, Value.int 802 0, Value.int 248 0, Value.str (Str.ofString "/claim/cut.py") 803]) #[]
noncomputable def k459 (P : Params) : Obj := Obj.mk (Value.type "function") none (Data.func (FuncData.mk (Str.ofString "is_unparsed") (Str.ofString "EntityTable.is_unparsed") (pa 41) (FuncBody.stmts (bo 41)) (sc 41) 3 [] Value.none Value.none Value.none (Value.str (Str.ofString "markupmill.entities") 642) none (Value.ref 458) Value.none 0)) #[]
noncomputable def k460 (P : Params) : Obj := Obj.mk (Value.type "tuple") none (Data.seq #[]) #[]
noncomputable def k462 (P : Params) : Obj := Obj.mk (Value.type "tuple") none (Data.seq #[Value.str (Str.ofString "self") 808, Value.str (Str.ofString "entity") 809]) #[]
noncomputable def k463 (P : Params) : Obj := Obj.mk (Value.type "tuple") none (Data.seq #[]) #[]
noncomputable def k465 (P : Params) : Obj := Obj.mk (Value.type "code") none (Data.fields #[Value.str (Str.ofString "outer_text") 805, Value.str (Str.ofString "EntityTable.outer_text") 806, Value.str (Str.ofString "/claim/cut.py") 807, Value.int 251 0, Value.int 2 0, Value.int 0 0, Value.int 0 0, Value.int 3 0, Value.ref 460, Value.bool true, Value.int 181 0, Value.ref 461, Value.none, Value.ref 462, Value.ref 463, Value.ref 464, Value.int 810 0, Value.int 251 0, Value.str (Str.ofString "/claim/cut.py") 811]) #[]
noncomputable def k466 (P : Params) : Obj := Obj.mk (Value.type "function") none (Data.func (FuncData.mk (Str.ofString "outer_text") (Str.ofString "EntityTable.outer_text") (pa 42) (FuncBody.stmts (bo 42)) (sc 42) 3 [] Value.none Value.none Value.none (Value.str (Str.ofString "markupmill.entities") 642) none (Value.ref 465) Value.none 0)) #[]
noncomputable def k467 (P : Params) : Obj := Obj.mk (Value.type "tuple") none (Data.seq #[]) #[]
noncomputable def k469 (P : Params) : Obj := Obj.mk (Value.type "tuple") none (Data.seq #[Value.str (Str.ofString "self") 816, Value.str (Str.ofString "entity") 817]) #[]
noncomputable def k470 (P : Params) : Obj := Obj.mk (Value.type "tuple") none (Data.seq #[]) #[]
noncomputable def k472 (P : Params) : Obj := Obj.mk (Value.type "code") none (Data.fields #[Value.str (Str.ofString "text_of") 813, Value.str (Str.ofString "EntityTable.text_of") 814, Value.str (Str.ofString "/claim/cut.py") 815, Value.int 256 0, Value.int 2 0, Value.int 0 0, Value.int 0 0, Value.int 3 0, Value.ref 467, Value.bool true, Value.int 181 0, Value.ref 468, Value.none, Value.ref 469, Value.ref 470, Value.ref 471, Value.int 818 0, Value.int 256 0, Value.str (Str.ofString "/claim/cut.py") 819]) #[]
noncomputable def k473 (P : Params) : Obj := Obj.mk (Value.type "function") none (Data.func (FuncData.mk (Str.ofString "text_of") (Str.ofString "EntityTable.text_of") (pa 43) (FuncBody.stmts (bo 43)) (sc 43) 3 [] Value.none Value.none Value.none (Value.str (Str.ofString "markupmill.entities") 642) none (Value.ref 472) Value.none 0)) #[]
noncomputable def k474 (P : Params) : Obj := Obj.mk (Value.type "tuple") none (Data.seq #[]) #[]
noncomputable def k476 (P : Params) : Obj := Obj.mk (Value.type "tuple") none (Data.seq #[Value.str (Str.ofString "self") 824, Value.str (Str.ofString "name") 825, Value.str (Str.ofString "plain") 826]) #[]
noncomputable def k477 (P : Params) : Obj := Obj.mk (Value.type "tuple") none (Data.seq #[]) #[]
noncomputable def k479 (P : Params) : Obj := Obj.mk (Value.type "code") none (Data.fields #[Value.str (Str.ofString "replacement") 821, Value.str (Str.ofString "EntityTable.replacement") 822, Value.str (Str.ofString "/claim/cut.py") 823, Value.int 261 0, Value.int 2 0, Value.int 0 0, Value.int 0 0, Value.int 3 0, Value.ref 474, Value.bool true, Value.int 181 0, Value.ref 475, Value.none, Value.ref 476, Value.ref 477, Value.ref 478, Value.int 827 0, Value.int 261 0, Value.str (Str.ofString "/claim/cut.py") 828]) #[]
noncomputable def k480 (P : Params) : Obj := Obj.mk (Value.type "function") none (Data.func (FuncData.mk (Str.ofString "replacement") (Str.ofString "EntityTable.replacement") (pa 44) (FuncBody.stmts (bo 44)) (sc 44) 3 [] Value.none Value.none Value.none (Value.str (Str.ofString "markupmill.entities") 642) none (Value.ref 479) Value.none 0)) #[]
noncomputable def k481 (P : Params) : Obj := Obj.mk (Value.type "tuple") none (Data.seq #[]) #[]
noncomputable def k483 (P : Params) : Obj := Obj.mk (Value.type "tuple") none (Data.seq #[Value.str (Str.ofString "self") 833, Value.str (Str.ofString "name") 834]) #[]
noncomputable def k484 (P : Params) : Obj := Obj.mk (Value.type "tuple") none (Data.seq #[]) #[]
noncomputable def k486 (P : Params) : Obj := Obj.mk (Value.type "code") none (Data.fields #[Value.str (Str.ofString "inner_replacement") 830, Value.str (Str.ofString "EntityTable.inner_replacement") 831, Value.str (Str.ofString "/claim/cut.py") 832, Value.int 265 0, Value.int 2 0, Value.int 0 0, Value.int 0 0, Value.int 3 0, Value.ref 481, Value.bool true, Value.int 181 0, Value.ref 482, Value.none, Value.ref 483, Value.ref 484, Value.ref 485, Value.int 835 0, Value.int 265 0, Value.str (Str.ofString "/claim/cut.py") 836]) #[]
noncomputable def k487 (P : Params) : Obj := Obj.mk (Value.type "function") none (Data.func (FuncData.mk (Str.ofString "inner_replacement") (Str.ofString "EntityTable.inner_replacement") (pa 45) (FuncBody.stmts (bo 45)) (sc 46) 3 [] Value.none Value.none Value.none (Value.str (Str.ofString "markupmill.entities") 642) none (Value.ref 486) Value.none 0)) #[]
noncomputable def k488 (P : Params) : Obj := Obj.mk (Value.type "tuple") none (Data.seq #[]) #[]
noncomputable def k490 (P : Params) : Obj := Obj.mk (Value.type "tuple") none (Data.seq #[Value.str (Str.ofString "self") 841, Value.str (Str.ofString "name") 842]) #[]
noncomputable def k491 (P : Params) : Obj := Obj.mk (Value.type "tuple") none (Data.seq #[]) #[]
noncomputable def k493 (P : Params) : Obj := Obj.mk (Value.type "code") none (Data.fields #[Value.str (Str.ofString "parameter") 838, Value.str (Str.ofString "EntityTable.parameter") 839, Value.str (Str.ofString "/claim/cut.py") 840, Value.int 270 0, Value.int 2 0, Value.int 0 0, Value.int 0 0, Value.int 3 0, Value.ref 488, Value.bool true, Value.int 181 0, Value.ref 489, Value.none, Value.ref 490, Value.ref 491, Value.ref 492, Value.int 843 0, Value.int 270 0, Value.str (Str.ofString "/claim/cut.py") 844]) #[]
noncomputable def k494 (P : Params) : Obj := Obj.mk (Value.type "function") none (Data.func (FuncData.mk (Str.ofString "parameter") (Str.ofString "EntityTable.parameter") (pa 46) (FuncBody.stmts (bo 46)) (sc 46) 3 [] Value.none Value.none Value.none (Value.str (Str.ofString "markupmill.entities") 642) none (Value.ref 493) Value.none 0)) #[]
noncomputable def k495 (P : Params) : Obj := Obj.mk (Value.type "tuple") none (Data.seq #[Value.str (Str.ofString "general") 846, Value.str (Str.ofString "limits") 847, Value.str (Str.ofString "outer") 848, Value.str (Str.ofString "parameters") 849]) #[]
noncomputable def k496 (P : Params) : Obj := Obj.mk (Value.type "dict") none (Data.dict #[DictEntry.mk (PyData.keyHash P (Str.ofString "__module__")) (Value.str (Str.ofString "__module__") 754) (Value.str (Str.ofString "markupmill.entities") 642), DictEntry.mk (PyData.keyHash P (Str.ofString "__firstlineno__")) (Value.str (Str.ofString "__firstlineno__") 758) (Value.int 225 757), DictEntry.mk (PyData.keyHash P (Str.ofString "__init__")) (Value.str (Str.ofString "__init__") 767) (Value.ref 430), DictEntry.mk (PyData.keyHash P (Str.ofString "declare")) (Value.str (Str.ofString "declare") 780) (Value.ref 438), DictEntry.mk (PyData.keyHash P (Str.ofString "entity")) (Value.str (Str.ofString "entity") 788) (Value.ref 445), DictEntry.mk (PyData.keyHash P (Str.ofString "is_declared")) (Value.str (Str.ofString "is_declared") 796) (Value.ref 452), DictEntry.mk (PyData.keyHash P (Str.ofString "is_unparsed")) (Value.str (Str.ofString "is_unparsed") 804) (Value.ref 459), DictEntry.mk (PyData.keyHash P (Str.ofString "outer_text")) (Value.str (Str.ofString "outer_text") 812) (Value.ref 466), DictEntry.mk (PyData.keyHash P (Str.ofString "text_of")) (Value.str (Str.ofString "text_of") 820) (Value.ref 473), DictEntry.mk (PyData.keyHash P (Str.ofString "replacement")) (Value.str (Str.ofString "replacement") 829) (Value.ref 480), DictEntry.mk (PyData.keyHash P (Str.ofString "inner_replacement")) (Value.str (Str.ofString "inner_replacement") 837) (Value.ref 487), DictEntry.mk (PyData.keyHash P (Str.ofString "parameter")) (Value.str (Str.ofString "parameter") 845) (Value.ref 494), DictEntry.mk (PyData.keyHash P (Str.ofString "__static_attributes__")) (Value.str (Str.ofString "__static_attributes__") 850) (Value.ref 495), DictEntry.mk (PyData.keyHash P (Str.ofString "__dict__")) (Value.str (Str.ofString "__dict__") 852) (Value.ref 498), DictEntry.mk (PyData.keyHash P (Str.ofString "__weakref__")) (Value.str (Str.ofString "__weakref__") 854) (Value.ref 499), DictEntry.mk (PyData.keyHash P (Str.ofString "__doc__")) (Value.str (Str.ofString "__doc__") 855) Value.none] 4) #[]
noncomputable def k497 (P : Params) : Obj := Obj.mk (Value.type "type") none (Data.cls (ClassData.mk (Str.ofString "EntityTable") [Value.type "object"] [Value.ref 497, Value.type "object"] 496 (Str.ofString "EntityTable") true [] [] false none false)) #[none, none, some (Value.str (Str.ofString "EntityTable") 747), some (Value.str (Str.ofString "EntityTable") 755), some (Value.builtin "object.__new__"), some (Value.bool true)]
noncomputable def k498 (P : Params) : Obj := Obj.mk (Value.type "getset_descriptor") none (Data.fields #[Value.str (Str.ofString "__dict__") 851, Value.ref 497, Value.builtin "function.__dict__", Value.builtin "function.__dict__#set"]) #[]
noncomputable def k499 (P : Params) : Obj := Obj.mk (Value.type "getset_descriptor") none (Data.fields #[Value.str (Str.ofString "__weakref__") 853, Value.ref 497, Value.builtin "ExceptionGroup.__weakref__", Value.none]) #[]
noncomputable def k502 (P : Params) : Obj := Obj.mk (Value.type "tuple") none (Data.seq #[]) #[]
noncomputable def k504 (P : Params) : Obj := Obj.mk (Value.type "tuple") none (Data.seq #[Value.str (Str.ofString "script") 863, Value.str (Str.ofString "k") 864, Value.str (Str.ofString "cell") 865, Value.str (Str.ofString "big") 866, Value.str (Str.ofString "mixed") 867]) #[]
noncomputable def k505 (P : Params) : Obj := Obj.mk (Value.type "tuple") none (Data.seq #[]) #[]
noncomputable def k507 (P : Params) : Obj := Obj.mk (Value.type "code") none (Data.fields #[Value.str (Str.ofString "_law_pool") 860, Value.str (Str.ofString "_law_pool") 861, Value.str (Str.ofString "/claim/cut.py") 862, Value.int 275 0, Value.int 2 0, Value.int 0 0, Value.int 0 0, Value.int 3 0, Value.ref 502, Value.bool true, Value.int 181 0, Value.ref 503, Value.none, Value.ref 504, Value.ref 505, Value.ref 506, Value.int 868 0, Value.int 275 0, Value.str (Str.ofString "/claim/cut.py") 869]) #[]
noncomputable def k508 (P : Params) : Obj := Obj.mk (Value.type "function") none (Data.func (FuncData.mk (Str.ofString "_law_pool") (Str.ofString "_law_pool") (pa 47) (FuncBody.stmts (bo 47)) (sc 47) 3 [] Value.none Value.none Value.none (Value.str (Str.ofString "law_nu0067_01") 858) none (Value.ref 507) Value.none 0)) #[]
noncomputable def k509 (P : Params) : Obj := Obj.mk (Value.type "tuple") none (Data.seq #[]) #[]
noncomputable def k511 (P : Params) : Obj := Obj.mk (Value.type "tuple") none (Data.seq #[Value.str (Str.ofString "source") 874, Value.str (Str.ofString "top") 875, Value.str (Str.ofString "drawn") 876]) #[]
noncomputable def k512 (P : Params) : Obj := Obj.mk (Value.type "tuple") none (Data.seq #[]) #[]
noncomputable def k514 (P : Params) : Obj := Obj.mk (Value.type "code") none (Data.fields #[Value.str (Str.ofString "_law_take") 871, Value.str (Str.ofString "_law_take") 872, Value.str (Str.ofString "/claim/cut.py") 873, Value.int 282 0, Value.int 2 0, Value.int 0 0, Value.int 0 0, Value.int 3 0, Value.ref 509, Value.bool true, Value.int 181 0, Value.ref 510, Value.none, Value.ref 511, Value.ref 512, Value.ref 513, Value.int 877 0, Value.int 282 0, Value.str (Str.ofString "/claim/cut.py") 878]) #[]
noncomputable def k515 (P : Params) : Obj := Obj.mk (Value.type "function") none (Data.func (FuncData.mk (Str.ofString "_law_take") (Str.ofString "_law_take") (pa 48) (FuncBody.stmts (bo 48)) (sc 48) 3 [] Value.none Value.none Value.none (Value.str (Str.ofString "law_nu0067_01") 858) none (Value.ref 514) Value.none 0)) #[]
noncomputable def k516 (P : Params) : Obj := Obj.mk (Value.type "tuple") none (Data.seq #[]) #[]
noncomputable def k518 (P : Params) : Obj := Obj.mk (Value.type "tuple") none (Data.seq #[Value.str (Str.ofString "source") 883, Value.str (Str.ofString "found") 884, Value.str (Str.ofString "number") 885, Value.str (Str.ofString "ahead") 886, Value.str (Str.ofString "parts") 887]) #[]
noncomputable def k519 (P : Params) : Obj := Obj.mk (Value.type "tuple") none (Data.seq #[]) #[]
noncomputable def k521 (P : Params) : Obj := Obj.mk (Value.type "code") none (Data.fields #[Value.str (Str.ofString "_law_texts") 880, Value.str (Str.ofString "_law_texts") 881, Value.str (Str.ofString "/claim/cut.py") 882, Value.int 289 0, Value.int 1 0, Value.int 0 0, Value.int 0 0, Value.int 3 0, Value.ref 516, Value.bool true, Value.int 181 0, Value.ref 517, Value.none, Value.ref 518, Value.ref 519, Value.ref 520, Value.int 888 0, Value.int 289 0, Value.str (Str.ofString "/claim/cut.py") 889]) #[]
noncomputable def k522 (P : Params) : Obj := Obj.mk (Value.type "function") none (Data.func (FuncData.mk (Str.ofString "_law_texts") (Str.ofString "_law_texts") (pa 49) (FuncBody.stmts (bo 49)) (sc 49) 3 [] Value.none Value.none Value.none (Value.str (Str.ofString "law_nu0067_01") 858) none (Value.ref 521) Value.none 0)) #[]
noncomputable def k523 (P : Params) : Obj := Obj.mk (Value.type "tuple") none (Data.seq #[]) #[]
noncomputable def k525 (P : Params) : Obj := Obj.mk (Value.type "tuple") none (Data.seq #[Value.str (Str.ofString "texts") 894, Value.str (Str.ofString "depth") 895, Value.str (Str.ofString "size") 896, Value.str (Str.ofString "table") 897, Value.str (Str.ofString "number") 898]) #[]
noncomputable def k526 (P : Params) : Obj := Obj.mk (Value.type "tuple") none (Data.seq #[]) #[]
noncomputable def k528 (P : Params) : Obj := Obj.mk (Value.type "code") none (Data.fields #[Value.str (Str.ofString "_law_table") 891, Value.str (Str.ofString "_law_table") 892, Value.str (Str.ofString "/claim/cut.py") 893, Value.int 296 0, Value.int 3 0, Value.int 0 0, Value.int 0 0, Value.int 3 0, Value.ref 523, Value.bool true, Value.int 181 0, Value.ref 524, Value.none, Value.ref 525, Value.ref 526, Value.ref 527, Value.int 899 0, Value.int 296 0, Value.str (Str.ofString "/claim/cut.py") 900]) #[]
noncomputable def k529 (P : Params) : Obj := Obj.mk (Value.type "function") none (Data.func (FuncData.mk (Str.ofString "_law_table") (Str.ofString "_law_table") (pa 50) (FuncBody.stmts (bo 50)) (sc 50) 3 [] Value.none Value.none Value.none (Value.str (Str.ofString "law_nu0067_01") 858) none (Value.ref 528) Value.none 0)) #[]
noncomputable def k530 (P : Params) : Obj := Obj.mk (Value.type "tuple") none (Data.seq #[]) #[]
noncomputable def k532 (P : Params) : Obj := Obj.mk (Value.type "tuple") none (Data.seq #[Value.str (Str.ofString "texts") 905, Value.str (Str.ofString "found") 906, Value.str (Str.ofString "number") 907, Value.str (Str.ofString "within") 908]) #[]
noncomputable def k533 (P : Params) : Obj := Obj.mk (Value.type "tuple") none (Data.seq #[]) #[]
noncomputable def k535 (P : Params) : Obj := Obj.mk (Value.type "code") none (Data.fields #[Value.str (Str.ofString "_law_sizes") 902, Value.str (Str.ofString "_law_sizes") 903, Value.str (Str.ofString "/claim/cut.py") 904, Value.int 301 0, Value.int 1 0, Value.int 0 0, Value.int 0 0, Value.int 3 0, Value.ref 530, Value.bool true, Value.int 181 0, Value.ref 531, Value.none, Value.ref 532, Value.ref 533, Value.ref 534, Value.int 909 0, Value.int 301 0, Value.str (Str.ofString "/claim/cut.py") 910]) #[]
noncomputable def k536 (P : Params) : Obj := Obj.mk (Value.type "function") none (Data.func (FuncData.mk (Str.ofString "_law_sizes") (Str.ofString "_law_sizes") (pa 51) (FuncBody.stmts (bo 51)) (sc 51) 3 [] Value.none Value.none Value.none (Value.str (Str.ofString "law_nu0067_01") 858) none (Value.ref 535) Value.none 0)) #[]
noncomputable def k537 (P : Params) : Obj := Obj.mk (Value.type "tuple") none (Data.seq #[]) #[]
noncomputable def k539 (P : Params) : Obj := Obj.mk (Value.type "tuple") none (Data.seq #[Value.str (Str.ofString "texts") 915, Value.str (Str.ofString "raw") 916, Value.str (Str.ofString "number") 917]) #[]
noncomputable def k540 (P : Params) : Obj := Obj.mk (Value.type "tuple") none (Data.seq #[]) #[]
noncomputable def k542 (P : Params) : Obj := Obj.mk (Value.type "code") none (Data.fields #[Value.str (Str.ofString "_law_plain") 912, Value.str (Str.ofString "_law_plain") 913, Value.str (Str.ofString "/claim/cut.py") 914, Value.int 307 0, Value.int 2 0, Value.int 0 0, Value.int 0 0, Value.int 3 0, Value.ref 537, Value.bool true, Value.int 181 0, Value.ref 538, Value.none, Value.ref 539, Value.ref 540, Value.ref 541, Value.int 918 0, Value.int 307 0, Value.str (Str.ofString "/claim/cut.py") 919]) #[]
noncomputable def k543 (P : Params) : Obj := Obj.mk (Value.type "function") none (Data.func (FuncData.mk (Str.ofString "_law_plain") (Str.ofString "_law_plain") (pa 52) (FuncBody.stmts (bo 52)) (sc 52) 3 [] Value.none Value.none Value.none (Value.str (Str.ofString "law_nu0067_01") 858) none (Value.ref 542) Value.none 0)) #[]
noncomputable def k544 (P : Params) : Obj := Obj.mk (Value.type "tuple") none (Data.seq #[]) #[]
noncomputable def k546 (P : Params) : Obj := Obj.mk (Value.type "tuple") none (Data.seq #[Value.str (Str.ofString "raw") 924, Value.str (Str.ofString "table") 925, Value.str (Str.ofString "growth") 926]) #[]
noncomputable def k547 (P : Params) : Obj := Obj.mk (Value.type "tuple") none (Data.seq #[]) #[]
noncomputable def k549 (P : Params) : Obj := Obj.mk (Value.type "code") none (Data.fields #[Value.str (Str.ofString "_law_told") 921, Value.str (Str.ofString "_law_told") 922, Value.str (Str.ofString "/claim/cut.py") 923, Value.int 311 0, Value.int 3 0, Value.int 0 0, Value.int 0 0, Value.int 3 0, Value.ref 544, Value.bool true, Value.int 181 0, Value.ref 545, Value.none, Value.ref 546, Value.ref 547, Value.ref 548, Value.int 927 0, Value.int 311 0, Value.str (Str.ofString "/claim/cut.py") 928]) #[]
noncomputable def k550 (P : Params) : Obj := Obj.mk (Value.type "function") none (Data.func (FuncData.mk (Str.ofString "_law_told") (Str.ofString "_law_told") (pa 53) (FuncBody.stmts (bo 53)) (sc 53) 3 [] Value.none Value.none Value.none (Value.str (Str.ofString "law_nu0067_01") 858) none (Value.ref 549) Value.none 0)) #[]
noncomputable def k551 (P : Params) : Obj := Obj.mk (Value.type "tuple") none (Data.seq #[]) #[]
noncomputable def k553 (P : Params) : Obj := Obj.mk (Value.type "tuple") none (Data.seq #[Value.str (Str.ofString "source") 933, Value.str (Str.ofString "texts") 934, Value.str (Str.ofString "far") 935, Value.str (Str.ofString "table") 936]) #[]
noncomputable def k554 (P : Params) : Obj := Obj.mk (Value.type "tuple") none (Data.seq #[]) #[]
noncomputable def k556 (P : Params) : Obj := Obj.mk (Value.type "code") none (Data.fields #[Value.str (Str.ofString "_law_ring_right") 930, Value.str (Str.ofString "_law_ring_right") 931, Value.str (Str.ofString "/claim/cut.py") 932, Value.int 318 0, Value.int 2 0, Value.int 0 0, Value.int 0 0, Value.int 3 0, Value.ref 551, Value.bool true, Value.int 181 0, Value.ref 552, Value.none, Value.ref 553, Value.ref 554, Value.ref 555, Value.int 937 0, Value.int 318 0, Value.str (Str.ofString "/claim/cut.py") 938]) #[]
noncomputable def k557 (P : Params) : Obj := Obj.mk (Value.type "function") none (Data.func (FuncData.mk (Str.ofString "_law_ring_right") (Str.ofString "_law_ring_right") (pa 54) (FuncBody.stmts (bo 54)) (sc 54) 3 [] Value.none Value.none Value.none (Value.str (Str.ofString "law_nu0067_01") 858) none (Value.ref 556) Value.none 0)) #[]
noncomputable def k558 (P : Params) : Obj := Obj.mk (Value.type "tuple") none (Data.seq #[]) #[]
noncomputable def k560 (P : Params) : Obj := Obj.mk (Value.type "tuple") none (Data.seq #[Value.str (Str.ofString "script") 943, Value.str (Str.ofString "source") 944, Value.str (Str.ofString "texts") 945, Value.str (Str.ofString "last") 946, Value.str (Str.ofString "many") 947, Value.str (Str.ofString "raw") 948, Value.str (Str.ofString "due") 949, Value.str (Str.ofString "size") 950, Value.str (Str.ofString "depth") 951, Value.str (Str.ofString "table") 952, Value.str (Str.ofString "growth") 953, Value.str (Str.ofString "told") 954]) #[]
noncomputable def k561 (P : Params) : Obj := Obj.mk (Value.type "tuple") none (Data.seq #[]) #[]
noncomputable def k563 (P : Params) : Obj := Obj.mk (Value.type "code") none (Data.fields #[Value.str (Str.ofString "law") 940, Value.str (Str.ofString "law") 941, Value.str (Str.ofString "/claim/cut.py") 942, Value.int 324 0, Value.int 1 0, Value.int 0 0, Value.int 0 0, Value.int 3 0, Value.ref 558, Value.bool true, Value.int 181 0, Value.ref 559, Value.none, Value.ref 560, Value.ref 561, Value.ref 562, Value.int 955 0, Value.int 324 0, Value.str (Str.ofString "/claim/cut.py") 956]) #[]
noncomputable def k564 (P : Params) : Obj := Obj.mk (Value.type "function") none (Data.func (FuncData.mk (Str.ofString "law") (Str.ofString "law") (pa 55) (FuncBody.stmts (bo 55)) (sc 55) 3 [] Value.none Value.none Value.none (Value.str (Str.ofString "law_nu0067_01") 858) none (Value.ref 563) Value.none 0)) #[]
noncomputable def heap_39 (P : Params) : Frag := (nat_lit 2, k2 P) :: (nat_lit 3, k3 P) :: (nat_lit 15, k15 P) :: (nat_lit 17, k17 P) :: (nat_lit 18, k18 P) :: (nat_lit 20, k20 P) :: (nat_lit 21, k21 P) :: (nat_lit 22, k22 P) :: (nat_lit 23, k23 P) :: (nat_lit 24, k24 P) :: (nat_lit 25, k25 P) :: (nat_lit 26, k26 P) :: (nat_lit 27, k27 P) :: (nat_lit 28, k28 P) :: (nat_lit 29, k29 P) :: (nat_lit 30, k30 P) :: (nat_lit 31, k31 P) :: (nat_lit 32, k32 P) :: (nat_lit 33, k33 P) :: (nat_lit 34, k34 P) :: (nat_lit 35, k35 P) :: (nat_lit 36, k36 P) :: (nat_lit 37, k37 P) :: (nat_lit 38, k38 P) :: (nat_lit 39, k39 P) :: (nat_lit 40, k40 P) :: (nat_lit 41, k41 P) :: (nat_lit 42, k42 P) :: (nat_lit 43, k43 P) :: (nat_lit 45, k45 P) :: (nat_lit 46, k46 P) :: (nat_lit 48, k48 P) :: (nat_lit 49, k49 P) :: (nat_lit 50, k50 P) :: (nat_lit 52, k52 P) :: (nat_lit 53, k53 P) :: (nat_lit 55, k55 P) :: (nat_lit 56, k56 P) :: (nat_lit 57, k57 P) :: (nat_lit 59, k59 P) :: (nat_lit 60, k60 P) :: (nat_lit 62, k62 P) :: (nat_lit 63, k63 P) :: (nat_lit 64, k64 P) :: (nat_lit 66, k66 P) :: (nat_lit 67, k67 P) :: (nat_lit 69, k69 P) :: (nat_lit 70, k70 P) :: (nat_lit 71, k71 P) :: (nat_lit 73, k73 P) :: (nat_lit 74, k74 P) :: (nat_lit 76, k76 P) :: (nat_lit 77, k77 P) :: (nat_lit 78, k78 P) :: (nat_lit 80, k80 P) :: (nat_lit 81, k81 P) :: (nat_lit 83, k83 P) :: (nat_lit 84, k84 P) :: (nat_lit 85, k85 P) :: (nat_lit 87, k87 P) :: (nat_lit 88, k88 P) :: (nat_lit 90, k90 P) :: (nat_lit 91, k91 P) :: (nat_lit 92, k92 P) :: (nat_lit 99, k99 P) :: (nat_lit 101, k101 P) :: (nat_lit 102, k102 P) :: (nat_lit 104, k104 P) :: (nat_lit 105, k105 P) :: (nat_lit 106, k106 P) :: (nat_lit 107, k107 P) :: (nat_lit 108, k108 P) :: (nat_lit 109, k109 P) :: (nat_lit 112, k112 P) :: (nat_lit 119, k119 P) :: (nat_lit 120, k120 P) :: (nat_lit 122, k122 P) :: (nat_lit 123, k123 P) :: (nat_lit 125, k125 P) :: (nat_lit 126, k126 P) :: (nat_lit 127, k127 P) :: (nat_lit 128, k128 P) :: (nat_lit 129, k129 P) :: (nat_lit 132, k132 P) :: (nat_lit 139, k139 P) :: (nat_lit 140, k140 P) :: (nat_lit 141, k141 P) :: (nat_lit 144, k144 P) :: (nat_lit 151, k151 P) :: (nat_lit 152, k152 P) :: (nat_lit 153, k153 P) :: (nat_lit 156, k156 P) :: (nat_lit 158, k158 P) :: (nat_lit 159, k159 P) :: (nat_lit 161, k161 P) :: (nat_lit 162, k162 P) :: (nat_lit 163, k163 P) :: (nat_lit 165, k165 P) :: (nat_lit 166, k166 P) :: (nat_lit 168, k168 P) :: (nat_lit 169, k169 P) :: (nat_lit 170, k170 P) :: (nat_lit 173, k173 P) :: (nat_lit 174, k174 P) :: (nat_lit 175, k175 P) :: (nat_lit 176, k176 P) :: (nat_lit 178, k178 P) :: (nat_lit 179, k179 P) :: (nat_lit 181, k181 P) :: (nat_lit 182, k182 P) :: (nat_lit 183, k183 P) :: (nat_lit 185, k185 P) :: (nat_lit 186, k186 P) :: (nat_lit 188, k188 P) :: (nat_lit 189, k189 P) :: (nat_lit 197, k197 P) :: (nat_lit 199, k199 P) :: (nat_lit 200, k200 P) :: (nat_lit 202, k202 P) :: (nat_lit 203, k203 P) :: (nat_lit 204, k204 P) :: (nat_lit 206, k206 P) :: (nat_lit 207, k207 P) :: (nat_lit 209, k209 P) :: (nat_lit 210, k210 P) :: (nat_lit 211, k211 P) :: (nat_lit 213, k213 P) :: (nat_lit 214, k214 P) :: (nat_lit 216, k216 P) :: (nat_lit 217, k217 P) :: (nat_lit 218, k218 P) :: (nat_lit 220, k220 P) :: (nat_lit 221, k221 P) :: (nat_lit 223, k223 P) :: (nat_lit 224, k224 P) :: (nat_lit 225, k225 P) :: (nat_lit 227, k227 P) :: (nat_lit 228, k228 P) :: (nat_lit 230, k230 P) :: (nat_lit 231, k231 P) :: (nat_lit 232, k232 P) :: (nat_lit 233, k233 P) :: (nat_lit 234, k234 P) :: (nat_lit 235, k235 P) :: (nat_lit 236, k236 P) :: (nat_lit 246, k246 P) :: (nat_lit 248, k248 P) :: (nat_lit 249, k249 P) :: (nat_lit 251, k251 P) :: (nat_lit 252, k252 P) :: (nat_lit 253, k253 P) :: (nat_lit 255, k255 P) :: (nat_lit 256, k256 P) :: (nat_lit 258, k258 P) :: (nat_lit 259, k259 P) :: (nat_lit 260, k260 P) :: (nat_lit 262, k262 P) :: (nat_lit 263, k263 P) :: (nat_lit 265, k265 P) :: (nat_lit 266, k266 P) :: (nat_lit 267, k267 P) :: (nat_lit 269, k269 P) :: (nat_lit 270, k270 P) :: (nat_lit 272, k272 P) :: (nat_lit 273, k273 P) :: (nat_lit 274, k274 P) :: (nat_lit 275, k275 P) :: (nat_lit 276, k276 P) :: (nat_lit 277, k277 P) :: (nat_lit 278, k278 P) :: (nat_lit 288, k288 P) :: (nat_lit 290, k290 P) :: (nat_lit 291, k291 P) :: (nat_lit 293, k293 P) :: (nat_lit 294, k294 P) :: (nat_lit 295, k295 P) :: (nat_lit 297, k297 P) :: (nat_lit 298, k298 P) :: (nat_lit 300, k300 P) :: (nat_lit 301, k301 P) :: (nat_lit 302, k302 P) :: (nat_lit 304, k304 P) :: (nat_lit 305, k305 P) :: (nat_lit 307, k307 P) :: (nat_lit 308, k308 P) :: (nat_lit 309, k309 P) :: (nat_lit 310, k310 P) :: (nat_lit 311, k311 P) :: (nat_lit 312, k312 P) :: (nat_lit 313, k313 P) :: (nat_lit 316, k316 P) :: (nat_lit 318, k318 P) :: (nat_lit 319, k319 P) :: (nat_lit 321, k321 P) :: (nat_lit 322, k322 P) :: (nat_lit 323, k323 P) :: (nat_lit 324, k324 P) :: (nat_lit 326, k326 P) :: (nat_lit 327, k327 P) :: (nat_lit 329, k329 P) :: (nat_lit 330, k330 P) :: (nat_lit 331, k331 P) :: (nat_lit 333, k333 P) :: (nat_lit 334, k334 P) :: (nat_lit 336, k336 P) :: (nat_lit 337, k337 P) :: (nat_lit 338, k338 P) :: (nat_lit 340, k340 P) :: (nat_lit 341, k341 P) :: (nat_lit 343, k343 P) :: (nat_lit 344, k344 P) :: (nat_lit 352, k352 P) :: (nat_lit 353, k353 P) :: (nat_lit 355, k355 P) :: (nat_lit 356, k356 P) :: (nat_lit 358, k358 P) :: (nat_lit 359, k359 P) :: (nat_lit 360, k360 P) :: (nat_lit 361, k361 P) :: (nat_lit 362, k362 P) :: (nat_lit 363, k363 P) :: (nat_lit 364, k364 P) :: (nat_lit 374, k374 P) :: (nat_lit 376, k376 P) :: (nat_lit 377, k377 P) :: (nat_lit 379, k379 P) :: (nat_lit 380, k380 P) :: (nat_lit 381, k381 P) :: (nat_lit 383, k383 P) :: (nat_lit 384, k384 P) :: (nat_lit 386, k386 P) :: (nat_lit 387, k387 P) :: (nat_lit 388, k388 P) :: (nat_lit 390, k390 P) :: (nat_lit 391, k391 P) :: (nat_lit 393, k393 P) :: (nat_lit 394, k394 P) :: (nat_lit 395, k395 P) :: (nat_lit 396, k396 P) :: (nat_lit 397, k397 P) :: (nat_lit 398, k398 P) :: (nat_lit 399, k399 P) :: (nat_lit 402, k402 P) :: (nat_lit 404, k404 P) :: (nat_lit 405, k405 P) :: (nat_lit 407, k407 P) :: (nat_lit 408, k408 P) :: (nat_lit 409, k409 P) :: (nat_lit 411, k411 P) :: (nat_lit 412, k412 P) :: (nat_lit 414, k414 P) :: (nat_lit 415, k415 P) :: (nat_lit 423, k423 P) :: (nat_lit 424, k424 P) :: (nat_lit 426, k426 P) :: (nat_lit 427, k427 P) :: (nat_lit 429, k429 P) :: (nat_lit 430, k430 P) :: (nat_lit 431, k431 P) :: (nat_lit 432, k432 P) :: (nat_lit 434, k434 P) :: (nat_lit 435, k435 P) :: (nat_lit 437, k437 P) :: (nat_lit 438, k438 P) :: (nat_lit 439, k439 P) :: (nat_lit 441, k441 P) :: (nat_lit 442, k442 P) :: (nat_lit 444, k444 P) :: (nat_lit 445, k445 P) :: (nat_lit 446, k446 P) :: (nat_lit 448, k448 P) :: (nat_lit 449, k449 P) :: (nat_lit 451, k451 P) :: (nat_lit 452, k452 P) :: (nat_lit 453, k453 P) :: (nat_lit 455, k455 P) :: (nat_lit 456, k456 P) :: (nat_lit 458, k458 P) :: (nat_lit 459, k459 P) :: (nat_lit 460, k460 P) :: (nat_lit 462, k462 P) :: (nat_lit 463, k463 P) :: (nat_lit 465, k465 P) :: (nat_lit 466, k466 P) :: (nat_lit 467, k467 P) :: (nat_lit 469, k469 P) :: (nat_lit 470, k470 P) :: (nat_lit 472, k472 P) :: (nat_lit 473, k473 P) :: (nat_lit 474, k474 P) :: (nat_lit 476, k476 P) :: (nat_lit 477, k477 P) :: (nat_lit 479, k479 P) :: (nat_lit 480, k480 P) :: (nat_lit 481, k481 P) :: (nat_lit 483, k483 P) :: (nat_lit 484, k484 P) :: (nat_lit 486, k486 P) :: (nat_lit 487, k487 P) :: (nat_lit 488, k488 P) :: (nat_lit 490, k490 P) :: (nat_lit 491, k491 P) :: (nat_lit 493, k493 P) :: (nat_lit 494, k494 P) :: (nat_lit 495, k495 P) :: (nat_lit 496, k496 P) :: (nat_lit 497, k497 P) :: (nat_lit 498, k498 P) :: (nat_lit 499, k499 P) :: (nat_lit 502, k502 P) :: (nat_lit 504, k504 P) :: (nat_lit 505, k505 P) :: (nat_lit 507, k507 P) :: (nat_lit 508, k508 P) :: (nat_lit 509, k509 P) :: (nat_lit 511, k511 P) :: (nat_lit 512, k512 P) :: (nat_lit 514, k514 P) :: (nat_lit 515, k515 P) :: (nat_lit 516, k516 P) :: (nat_lit 518, k518 P) :: (nat_lit 519, k519 P) :: (nat_lit 521, k521 P) :: (nat_lit 522, k522 P) :: (nat_lit 523, k523 P) :: (nat_lit 525, k525 P) :: (nat_lit 526, k526 P) :: (nat_lit 528, k528 P) :: (nat_lit 529, k529 P) :: (nat_lit 530, k530 P) :: (nat_lit 532, k532 P) :: (nat_lit 533, k533 P) :: (nat_lit 535, k535 P) :: (nat_lit 536, k536 P) :: (nat_lit 537, k537 P) :: (nat_lit 539, k539 P) :: (nat_lit 540, k540 P) :: (nat_lit 542, k542 P) :: (nat_lit 543, k543 P) :: (nat_lit 544, k544 P) :: (nat_lit 546, k546 P) :: (nat_lit 547, k547 P) :: (nat_lit 549, k549 P) :: (nat_lit 550, k550 P) :: (nat_lit 551, k551 P) :: (nat_lit 553, k553 P) :: (nat_lit 554, k554 P) :: (nat_lit 556, k556 P) :: (nat_lit 557, k557 P) :: (nat_lit 558, k558 P) :: (nat_lit 560, k560 P) :: (nat_lit 561, k561 P) :: (nat_lit 563, k563 P) :: (nat_lit 564, k564 P) :: []
def view_39 : Program := { PySem.Challenge.pw_nu0067_01 with main := { PySem.Challenge.pw_nu0067_01.main with body := [0, 2, 3, 4, 5, 6, 7, 8, 9, 10, 11, 12, 13, 15, 16, 17, 18, 20, 21, 22, 23, 24, 25, 27, 29, 30, 31, 32, 33, 35, 36, 38, 39, 40, 41, 42, 43, 44, 46, 47, 48, 49, 50, 51, 52, 53, 54].filterMap (PySem.Challenge.pw_nu0067_01.main.body[·]?) } }
end Mine.hd
namespace Mine
def hd2 {α β : Type} (p : α × β) : α := p.1
def tl2 {α β : Type} (p : α × β) : β := p.2
theorem ne_world : Nonempty World := ⟨{ draws := fun _ _ => 0, params := { strHash := fun _ => 0, shareClass := id, mergeTok := id, idOf := fun _ => 0, idOfShared := fun _ _ => 0, followText := fun _ => true, idOfImm := fun _ => 0 } }⟩
theorem ne_shared : Nonempty Shared := ⟨{}⟩
theorem ne_around : Nonempty Around := ⟨{}⟩
theorem ne_drawn : Nonempty Drawn := ⟨{}⟩
theorem ne_prod {α β : Type} (a : Nonempty α) (b : Nonempty β) : Nonempty (α × β) := a.elim fun a => b.elim fun b => ⟨(a, b)⟩
noncomputable def ck2 {α1 α2 : Type} {i : Nonempty (α1 × α2)} (P : α1 → α2 → Prop) : α1 × α2 := @Classical.epsilon _ i fun t => ¬ P (hd2 t) (tl2 t)
theorem pick2 {α1 α2 : Type} {P : α1 → α2 → Prop} (i : Nonempty (α1 × α2)) (h : P (hd2 (@ck2 α1 α2 i P)) (tl2 (@ck2 α1 α2 i P))) : ∀ x1 x2, P x1 x2 := fun x1 x2 => Classical.byContradiction fun hn => @Classical.epsilon_spec _ (fun t => ¬ P (hd2 t) (tl2 t)) ⟨(x1, x2), hn⟩ h
noncomputable def ck4 {α1 α2 α3 α4 : Type} {i : Nonempty (α1 × α2 × α3 × α4)} (P : α1 → α2 → α3 → α4 → Prop) : α1 × α2 × α3 × α4 := @Classical.epsilon _ i fun t => ¬ P (hd2 t) (hd2 (tl2 t)) (hd2 (tl2 (tl2 t))) (tl2 (tl2 (tl2 t)))
theorem pick4 {α1 α2 α3 α4 : Type} {P : α1 → α2 → α3 → α4 → Prop} (i : Nonempty (α1 × α2 × α3 × α4)) (h : P (hd2 (@ck4 α1 α2 α3 α4 i P)) (hd2 (tl2 (@ck4 α1 α2 α3 α4 i P))) (hd2 (tl2 (tl2 (@ck4 α1 α2 α3 α4 i P)))) (tl2 (tl2 (tl2 (@ck4 α1 α2 α3 α4 i P))))) : ∀ x1 x2 x3 x4, P x1 x2 x3 x4 := fun x1 x2 x3 x4 => Classical.byContradiction fun hn => @Classical.epsilon_spec _ (fun t => ¬ P (hd2 t) (hd2 (tl2 t)) (hd2 (tl2 (tl2 t))) (tl2 (tl2 (tl2 t)))) ⟨(x1, x2, x3, x4), hn⟩ h
noncomputable def ck6 {α1 α2 α3 α4 α5 α6 : Type} {i : Nonempty (α1 × α2 × α3 × α4 × α5 × α6)} (P : α1 → α2 → α3 → α4 → α5 → α6 → Prop) : α1 × α2 × α3 × α4 × α5 × α6 := @Classical.epsilon _ i fun t => ¬ P (hd2 t) (hd2 (tl2 t)) (hd2 (tl2 (tl2 t))) (hd2 (tl2 (tl2 (tl2 t)))) (hd2 (tl2 (tl2 (tl2 (tl2 t))))) (tl2 (tl2 (tl2 (tl2 (tl2 t)))))
theorem pick6 {α1 α2 α3 α4 α5 α6 : Type} {P : α1 → α2 → α3 → α4 → α5 → α6 → Prop} (i : Nonempty (α1 × α2 × α3 × α4 × α5 × α6)) (h : P (hd2 (@ck6 α1 α2 α3 α4 α5 α6 i P)) (hd2 (tl2 (@ck6 α1 α2 α3 α4 α5 α6 i P))) (hd2 (tl2 (tl2 (@ck6 α1 α2 α3 α4 α5 α6 i P)))) (hd2 (tl2 (tl2 (tl2 (@ck6 α1 α2 α3 α4 α5 α6 i P))))) (hd2 (tl2 (tl2 (tl2 (tl2 (@ck6 α1 α2 α3 α4 α5 α6 i P)))))) (tl2 (tl2 (tl2 (tl2 (tl2 (@ck6 α1 α2 α3 α4 α5 α6 i P))))))) : ∀ x1 x2 x3 x4 x5 x6, P x1 x2 x3 x4 x5 x6 := fun x1 x2 x3 x4 x5 x6 => Classical.byContradiction fun hn => @Classical.epsilon_spec _ (fun t => ¬ P (hd2 t) (hd2 (tl2 t)) (hd2 (tl2 (tl2 t))) (hd2 (tl2 (tl2 (tl2 t)))) (hd2 (tl2 (tl2 (tl2 (tl2 t))))) (tl2 (tl2 (tl2 (tl2 (tl2 t)))))) ⟨(x1, x2, x3, x4, x5, x6), hn⟩ h
noncomputable def ck8 {α1 α2 α3 α4 α5 α6 α7 α8 : Type} {i : Nonempty (α1 × α2 × α3 × α4 × α5 × α6 × α7 × α8)} (P : α1 → α2 → α3 → α4 → α5 → α6 → α7 → α8 → Prop) : α1 × α2 × α3 × α4 × α5 × α6 × α7 × α8 := @Classical.epsilon _ i fun t => ¬ P (hd2 t) (hd2 (tl2 t)) (hd2 (tl2 (tl2 t))) (hd2 (tl2 (tl2 (tl2 t)))) (hd2 (tl2 (tl2 (tl2 (tl2 t))))) (hd2 (tl2 (tl2 (tl2 (tl2 (tl2 t)))))) (hd2 (tl2 (tl2 (tl2 (tl2 (tl2 (tl2 t))))))) (tl2 (tl2 (tl2 (tl2 (tl2 (tl2 (tl2 t)))))))
theorem pick8 {α1 α2 α3 α4 α5 α6 α7 α8 : Type} {P : α1 → α2 → α3 → α4 → α5 → α6 → α7 → α8 → Prop} (i : Nonempty (α1 × α2 × α3 × α4 × α5 × α6 × α7 × α8)) (h : P (hd2 (@ck8 α1 α2 α3 α4 α5 α6 α7 α8 i P)) (hd2 (tl2 (@ck8 α1 α2 α3 α4 α5 α6 α7 α8 i P))) (hd2 (tl2 (tl2 (@ck8 α1 α2 α3 α4 α5 α6 α7 α8 i P)))) (hd2 (tl2 (tl2 (tl2 (@ck8 α1 α2 α3 α4 α5 α6 α7 α8 i P))))) (hd2 (tl2 (tl2 (tl2 (tl2 (@ck8 α1 α2 α3 α4 α5 α6 α7 α8 i P)))))) (hd2 (tl2 (tl2 (tl2 (tl2 (tl2 (@ck8 α1 α2 α3 α4 α5 α6 α7 α8 i P))))))) (hd2 (tl2 (tl2 (tl2 (tl2 (tl2 (tl2 (@ck8 α1 α2 α3 α4 α5 α6 α7 α8 i P)))))))) (tl2 (tl2 (tl2 (tl2 (tl2 (tl2 (tl2 (@ck8 α1 α2 α3 α4 α5 α6 α7 α8 i P))))))))) : ∀ x1 x2 x3 x4 x5 x6 x7 x8, P x1 x2 x3 x4 x5 x6 x7 x8 := fun x1 x2 x3 x4 x5 x6 x7 x8 => Classical.byContradiction fun hn => @Classical.epsilon_spec _ (fun t => ¬ P (hd2 t) (hd2 (tl2 t)) (hd2 (tl2 (tl2 t))) (hd2 (tl2 (tl2 (tl2 t)))) (hd2 (tl2 (tl2 (tl2 (tl2 t))))) (hd2 (tl2 (tl2 (tl2 (tl2 (tl2 t)))))) (hd2 (tl2 (tl2 (tl2 (tl2 (tl2 (tl2 t))))))) (tl2 (tl2 (tl2 (tl2 (tl2 (tl2 (tl2 t)))))))) ⟨(x1, x2, x3, x4, x5, x6, x7, x8), hn⟩ h
noncomputable def ck11 {α1 α2 α3 α4 α5 α6 α7 α8 α9 α10 α11 : Type} {i : Nonempty (α1 × α2 × α3 × α4 × α5 × α6 × α7 × α8 × α9 × α10 × α11)} (P : α1 → α2 → α3 → α4 → α5 → α6 → α7 → α8 → α9 → α10 → α11 → Prop) : α1 × α2 × α3 × α4 × α5 × α6 × α7 × α8 × α9 × α10 × α11 := @Classical.epsilon _ i fun t => ¬ P (hd2 t) (hd2 (tl2 t)) (hd2 (tl2 (tl2 t))) (hd2 (tl2 (tl2 (tl2 t)))) (hd2 (tl2 (tl2 (tl2 (tl2 t))))) (hd2 (tl2 (tl2 (tl2 (tl2 (tl2 t)))))) (hd2 (tl2 (tl2 (tl2 (tl2 (tl2 (tl2 t))))))) (hd2 (tl2 (tl2 (tl2 (tl2 (tl2 (tl2 (tl2 t)))))))) (hd2 (tl2 (tl2 (tl2 (tl2 (tl2 (tl2 (tl2 (tl2 t))))))))) (hd2 (tl2 (tl2 (tl2 (tl2 (tl2 (tl2 (tl2 (tl2 (tl2 t)))))))))) (tl2 (tl2 (tl2 (tl2 (tl2 (tl2 (tl2 (tl2 (tl2 (tl2 t))))))))))
theorem pick11 {α1 α2 α3 α4 α5 α6 α7 α8 α9 α10 α11 : Type} {P : α1 → α2 → α3 → α4 → α5 → α6 → α7 → α8 → α9 → α10 → α11 → Prop} (i : Nonempty (α1 × α2 × α3 × α4 × α5 × α6 × α7 × α8 × α9 × α10 × α11)) (h : P (hd2 (@ck11 α1 α2 α3 α4 α5 α6 α7 α8 α9 α10 α11 i P)) (hd2 (tl2 (@ck11 α1 α2 α3 α4 α5 α6 α7 α8 α9 α10 α11 i P))) (hd2 (tl2 (tl2 (@ck11 α1 α2 α3 α4 α5 α6 α7 α8 α9 α10 α11 i P)))) (hd2 (tl2 (tl2 (tl2 (@ck11 α1 α2 α3 α4 α5 α6 α7 α8 α9 α10 α11 i P))))) (hd2 (tl2 (tl2 (tl2 (tl2 (@ck11 α1 α2 α3 α4 α5 α6 α7 α8 α9 α10 α11 i P)))))) (hd2 (tl2 (tl2 (tl2 (tl2 (tl2 (@ck11 α1 α2 α3 α4 α5 α6 α7 α8 α9 α10 α11 i P))))))) (hd2 (tl2 (tl2 (tl2 (tl2 (tl2 (tl2 (@ck11 α1 α2 α3 α4 α5 α6 α7 α8 α9 α10 α11 i P)))))))) (hd2 (tl2 (tl2 (tl2 (tl2 (tl2 (tl2 (tl2 (@ck11 α1 α2 α3 α4 α5 α6 α7 α8 α9 α10 α11 i P))))))))) (hd2 (tl2 (tl2 (tl2 (tl2 (tl2 (tl2 (tl2 (tl2 (@ck11 α1 α2 α3 α4 α5 α6 α7 α8 α9 α10 α11 i P)))))))))) (hd2 (tl2 (tl2 (tl2 (tl2 (tl2 (tl2 (tl2 (tl2 (tl2 (@ck11 α1 α2 α3 α4 α5 α6 α7 α8 α9 α10 α11 i P))))))))))) (tl2 (tl2 (tl2 (tl2 (tl2 (tl2 (tl2 (tl2 (tl2 (tl2 (@ck11 α1 α2 α3 α4 α5 α6 α7 α8 α9 α10 α11 i P)))))))))))) : ∀ x1 x2 x3 x4 x5 x6 x7 x8 x9 x10 x11, P x1 x2 x3 x4 x5 x6 x7 x8 x9 x10 x11 := fun x1 x2 x3 x4 x5 x6 x7 x8 x9 x10 x11 => Classical.byContradiction fun hn => @Classical.epsilon_spec _ (fun t => ¬ P (hd2 t) (hd2 (tl2 t)) (hd2 (tl2 (tl2 t))) (hd2 (tl2 (tl2 (tl2 t)))) (hd2 (tl2 (tl2 (tl2 (tl2 t))))) (hd2 (tl2 (tl2 (tl2 (tl2 (tl2 t)))))) (hd2 (tl2 (tl2 (tl2 (tl2 (tl2 (tl2 t))))))) (hd2 (tl2 (tl2 (tl2 (tl2 (tl2 (tl2 (tl2 t)))))))) (hd2 (tl2 (tl2 (tl2 (tl2 (tl2 (tl2 (tl2 (tl2 t))))))))) (hd2 (tl2 (tl2 (tl2 (tl2 (tl2 (tl2 (tl2 (tl2 (tl2 t)))))))))) (tl2 (tl2 (tl2 (tl2 (tl2 (tl2 (tl2 (tl2 (tl2 (tl2 t))))))))))) ⟨(x1, x2, x3, x4, x5, x6, x7, x8, x9, x10, x11), hn⟩ h
noncomputable def ck14 {α1 α2 α3 α4 α5 α6 α7 α8 α9 α10 α11 α12 α13 α14 : Type} {i : Nonempty (α1 × α2 × α3 × α4 × α5 × α6 × α7 × α8 × α9 × α10 × α11 × α12 × α13 × α14)} (P : α1 → α2 → α3 → α4 → α5 → α6 → α7 → α8 → α9 → α10 → α11 → α12 → α13 → α14 → Prop) : α1 × α2 × α3 × α4 × α5 × α6 × α7 × α8 × α9 × α10 × α11 × α12 × α13 × α14 := @Classical.epsilon _ i fun t => ¬ P (hd2 t) (hd2 (tl2 t)) (hd2 (tl2 (tl2 t))) (hd2 (tl2 (tl2 (tl2 t)))) (hd2 (tl2 (tl2 (tl2 (tl2 t))))) (hd2 (tl2 (tl2 (tl2 (tl2 (tl2 t)))))) (hd2 (tl2 (tl2 (tl2 (tl2 (tl2 (tl2 t))))))) (hd2 (tl2 (tl2 (tl2 (tl2 (tl2 (tl2 (tl2 t)))))))) (hd2 (tl2 (tl2 (tl2 (tl2 (tl2 (tl2 (tl2 (tl2 t))))))))) (hd2 (tl2 (tl2 (tl2 (tl2 (tl2 (tl2 (tl2 (tl2 (tl2 t)))))))))) (hd2 (tl2 (tl2 (tl2 (tl2 (tl2 (tl2 (tl2 (tl2 (tl2 (tl2 t))))))))))) (hd2 (tl2 (tl2 (tl2 (tl2 (tl2 (tl2 (tl2 (tl2 (tl2 (tl2 (tl2 t)))))))))))) (hd2 (tl2 (tl2 (tl2 (tl2 (tl2 (tl2 (tl2 (tl2 (tl2 (tl2 (tl2 (tl2 t))))))))))))) (tl2 (tl2 (tl2 (tl2 (tl2 (tl2 (tl2 (tl2 (tl2 (tl2 (tl2 (tl2 (tl2 t)))))))))))))
theorem pick14 {α1 α2 α3 α4 α5 α6 α7 α8 α9 α10 α11 α12 α13 α14 : Type} {P : α1 → α2 → α3 → α4 → α5 → α6 → α7 → α8 → α9 → α10 → α11 → α12 → α13 → α14 → Prop} (i : Nonempty (α1 × α2 × α3 × α4 × α5 × α6 × α7 × α8 × α9 × α10 × α11 × α12 × α13 × α14)) (h : P (hd2 (@ck14 α1 α2 α3 α4 α5 α6 α7 α8 α9 α10 α11 α12 α13 α14 i P)) (hd2 (tl2 (@ck14 α1 α2 α3 α4 α5 α6 α7 α8 α9 α10 α11 α12 α13 α14 i P))) (hd2 (tl2 (tl2 (@ck14 α1 α2 α3 α4 α5 α6 α7 α8 α9 α10 α11 α12 α13 α14 i P)))) (hd2 (tl2 (tl2 (tl2 (@ck14 α1 α2 α3 α4 α5 α6 α7 α8 α9 α10 α11 α12 α13 α14 i P))))) (hd2 (tl2 (tl2 (tl2 (tl2 (@ck14 α1 α2 α3 α4 α5 α6 α7 α8 α9 α10 α11 α12 α13 α14 i P)))))) (hd2 (tl2 (tl2 (tl2 (tl2 (tl2 (@ck14 α1 α2 α3 α4 α5 α6 α7 α8 α9 α10 α11 α12 α13 α14 i P))))))) (hd2 (tl2 (tl2 (tl2 (tl2 (tl2 (tl2 (@ck14 α1 α2 α3 α4 α5 α6 α7 α8 α9 α10 α11 α12 α13 α14 i P)))))))) (hd2 (tl2 (tl2 (tl2 (tl2 (tl2 (tl2 (tl2 (@ck14 α1 α2 α3 α4 α5 α6 α7 α8 α9 α10 α11 α12 α13 α14 i P))))))))) (hd2 (tl2 (tl2 (tl2 (tl2 (tl2 (tl2 (tl2 (tl2 (@ck14 α1 α2 α3 α4 α5 α6 α7 α8 α9 α10 α11 α12 α13 α14 i P)))))))))) (hd2 (tl2 (tl2 (tl2 (tl2 (tl2 (tl2 (tl2 (tl2 (tl2 (@ck14 α1 α2 α3 α4 α5 α6 α7 α8 α9 α10 α11 α12 α13 α14 i P))))))))))) (hd2 (tl2 (tl2 (tl2 (tl2 (tl2 (tl2 (tl2 (tl2 (tl2 (tl2 (@ck14 α1 α2 α3 α4 α5 α6 α7 α8 α9 α10 α11 α12 α13 α14 i P)))))))))))) (hd2 (tl2 (tl2 (tl2 (tl2 (tl2 (tl2 (tl2 (tl2 (tl2 (tl2 (tl2 (@ck14 α1 α2 α3 α4 α5 α6 α7 α8 α9 α10 α11 α12 α13 α14 i P))))))))))))) (hd2 (tl2 (tl2 (tl2 (tl2 (tl2 (tl2 (tl2 (tl2 (tl2 (tl2 (tl2 (tl2 (@ck14 α1 α2 α3 α4 α5 α6 α7 α8 α9 α10 α11 α12 α13 α14 i P)))))))))))))) (tl2 (tl2 (tl2 (tl2 (tl2 (tl2 (tl2 (tl2 (tl2 (tl2 (tl2 (tl2 (tl2 (@ck14 α1 α2 α3 α4 α5 α6 α7 α8 α9 α10 α11 α12 α13 α14 i P))))))))))))))) : ∀ x1 x2 x3 x4 x5 x6 x7 x8 x9 x10 x11 x12 x13 x14, P x1 x2 x3 x4 x5 x6 x7 x8 x9 x10 x11 x12 x13 x14 := fun x1 x2 x3 x4 x5 x6 x7 x8 x9 x10 x11 x12 x13 x14 => Classical.byContradiction fun hn => @Classical.epsilon_spec _ (fun t => ¬ P (hd2 t) (hd2 (tl2 t)) (hd2 (tl2 (tl2 t))) (hd2 (tl2 (tl2 (tl2 t)))) (hd2 (tl2 (tl2 (tl2 (tl2 t))))) (hd2 (tl2 (tl2 (tl2 (tl2 (tl2 t)))))) (hd2 (tl2 (tl2 (tl2 (tl2 (tl2 (tl2 t))))))) (hd2 (tl2 (tl2 (tl2 (tl2 (tl2 (tl2 (tl2 t)))))))) (hd2 (tl2 (tl2 (tl2 (tl2 (tl2 (tl2 (tl2 (tl2 t))))))))) (hd2 (tl2 (tl2 (tl2 (tl2 (tl2 (tl2 (tl2 (tl2 (tl2 t)))))))))) (hd2 (tl2 (tl2 (tl2 (tl2 (tl2 (tl2 (tl2 (tl2 (tl2 (tl2 t))))))))))) (hd2 (tl2 (tl2 (tl2 (tl2 (tl2 (tl2 (tl2 (tl2 (tl2 (tl2 (tl2 t)))))))))))) (hd2 (tl2 (tl2 (tl2 (tl2 (tl2 (tl2 (tl2 (tl2 (tl2 (tl2 (tl2 (tl2 t))))))))))))) (tl2 (tl2 (tl2 (tl2 (tl2 (tl2 (tl2 (tl2 (tl2 (tl2 (tl2 (tl2 (tl2 t)))))))))))))) ⟨(x1, x2, x3, x4, x5, x6, x7, x8, x9, x10, x11, x12, x13, x14), hn⟩ h
noncomputable def ck18 {α1 α2 α3 α4 α5 α6 α7 α8 α9 α10 α11 α12 α13 α14 α15 α16 α17 α18 : Type} {i : Nonempty (α1 × α2 × α3 × α4 × α5 × α6 × α7 × α8 × α9 × α10 × α11 × α12 × α13 × α14 × α15 × α16 × α17 × α18)} (P : α1 → α2 → α3 → α4 → α5 → α6 → α7 → α8 → α9 → α10 → α11 → α12 → α13 → α14 → α15 → α16 → α17 → α18 → Prop) : α1 × α2 × α3 × α4 × α5 × α6 × α7 × α8 × α9 × α10 × α11 × α12 × α13 × α14 × α15 × α16 × α17 × α18 := @Classical.epsilon _ i fun t => ¬ P (hd2 t) (hd2 (tl2 t)) (hd2 (tl2 (tl2 t))) (hd2 (tl2 (tl2 (tl2 t)))) (hd2 (tl2 (tl2 (tl2 (tl2 t))))) (hd2 (tl2 (tl2 (tl2 (tl2 (tl2 t)))))) (hd2 (tl2 (tl2 (tl2 (tl2 (tl2 (tl2 t))))))) (hd2 (tl2 (tl2 (tl2 (tl2 (tl2 (tl2 (tl2 t)))))))) (hd2 (tl2 (tl2 (tl2 (tl2 (tl2 (tl2 (tl2 (tl2 t))))))))) (hd2 (tl2 (tl2 (tl2 (tl2 (tl2 (tl2 (tl2 (tl2 (tl2 t)))))))))) (hd2 (tl2 (tl2 (tl2 (tl2 (tl2 (tl2 (tl2 (tl2 (tl2 (tl2 t))))))))))) (hd2 (tl2 (tl2 (tl2 (tl2 (tl2 (tl2 (tl2 (tl2 (tl2 (tl2 (tl2 t)))))))))))) (hd2 (tl2 (tl2 (tl2 (tl2 (tl2 (tl2 (tl2 (tl2 (tl2 (tl2 (tl2 (tl2 t))))))))))))) (hd2 (tl2 (tl2 (tl2 (tl2 (tl2 (tl2 (tl2 (tl2 (tl2 (tl2 (tl2 (tl2 (tl2 t)))))))))))))) (hd2 (tl2 (tl2 (tl2 (tl2 (tl2 (tl2 (tl2 (tl2 (tl2 (tl2 (tl2 (tl2 (tl2 (tl2 t))))))))))))))) (hd2 (tl2 (tl2 (tl2 (tl2 (tl2 (tl2 (tl2 (tl2 (tl2 (tl2 (tl2 (tl2 (tl2 (tl2 (tl2 t)))))))))))))))) (hd2 (tl2 (tl2 (tl2 (tl2 (tl2 (tl2 (tl2 (tl2 (tl2 (tl2 (tl2 (tl2 (tl2 (tl2 (tl2 (tl2 t))))))))))))))))) (tl2 (tl2 (tl2 (tl2 (tl2 (tl2 (tl2 (tl2 (tl2 (tl2 (tl2 (tl2 (tl2 (tl2 (tl2 (tl2 (tl2 t)))))))))))))))))
theorem pick18 {α1 α2 α3 α4 α5 α6 α7 α8 α9 α10 α11 α12 α13 α14 α15 α16 α17 α18 : Type} {P : α1 → α2 → α3 → α4 → α5 → α6 → α7 → α8 → α9 → α10 → α11 → α12 → α13 → α14 → α15 → α16 → α17 → α18 → Prop} (i : Nonempty (α1 × α2 × α3 × α4 × α5 × α6 × α7 × α8 × α9 × α10 × α11 × α12 × α13 × α14 × α15 × α16 × α17 × α18)) (h : P (hd2 (@ck18 α1 α2 α3 α4 α5 α6 α7 α8 α9 α10 α11 α12 α13 α14 α15 α16 α17 α18 i P)) (hd2 (tl2 (@ck18 α1 α2 α3 α4 α5 α6 α7 α8 α9 α10 α11 α12 α13 α14 α15 α16 α17 α18 i P))) (hd2 (tl2 (tl2 (@ck18 α1 α2 α3 α4 α5 α6 α7 α8 α9 α10 α11 α12 α13 α14 α15 α16 α17 α18 i P)))) (hd2 (tl2 (tl2 (tl2 (@ck18 α1 α2 α3 α4 α5 α6 α7 α8 α9 α10 α11 α12 α13 α14 α15 α16 α17 α18 i P))))) (hd2 (tl2 (tl2 (tl2 (tl2 (@ck18 α1 α2 α3 α4 α5 α6 α7 α8 α9 α10 α11 α12 α13 α14 α15 α16 α17 α18 i P)))))) (hd2 (tl2 (tl2 (tl2 (tl2 (tl2 (@ck18 α1 α2 α3 α4 α5 α6 α7 α8 α9 α10 α11 α12 α13 α14 α15 α16 α17 α18 i P))))))) (hd2 (tl2 (tl2 (tl2 (tl2 (tl2 (tl2 (@ck18 α1 α2 α3 α4 α5 α6 α7 α8 α9 α10 α11 α12 α13 α14 α15 α16 α17 α18 i P)))))))) (hd2 (tl2 (tl2 (tl2 (tl2 (tl2 (tl2 (tl2 (@ck18 α1 α2 α3 α4 α5 α6 α7 α8 α9 α10 α11 α12 α13 α14 α15 α16 α17 α18 i P))))))))) (hd2 (tl2 (tl2 (tl2 (tl2 (tl2 (tl2 (tl2 (tl2 (@ck18 α1 α2 α3 α4 α5 α6 α7 α8 α9 α10 α11 α12 α13 α14 α15 α16 α17 α18 i P)))))))))) (hd2 (tl2 (tl2 (tl2 (tl2 (tl2 (tl2 (tl2 (tl2 (tl2 (@ck18 α1 α2 α3 α4 α5 α6 α7 α8 α9 α10 α11 α12 α13 α14 α15 α16 α17 α18 i P))))))))))) (hd2 (tl2 (tl2 (tl2 (tl2 (tl2 (tl2 (tl2 (tl2 (tl2 (tl2 (@ck18 α1 α2 α3 α4 α5 α6 α7 α8 α9 α10 α11 α12 α13 α14 α15 α16 α17 α18 i P)))))))))))) (hd2 (tl2 (tl2 (tl2 (tl2 (tl2 (tl2 (tl2 (tl2 (tl2 (tl2 (tl2 (@ck18 α1 α2 α3 α4 α5 α6 α7 α8 α9 α10 α11 α12 α13 α14 α15 α16 α17 α18 i P))))))))))))) (hd2 (tl2 (tl2 (tl2 (tl2 (tl2 (tl2 (tl2 (tl2 (tl2 (tl2 (tl2 (tl2 (@ck18 α1 α2 α3 α4 α5 α6 α7 α8 α9 α10 α11 α12 α13 α14 α15 α16 α17 α18 i P)))))))))))))) (hd2 (tl2 (tl2 (tl2 (tl2 (tl2 (tl2 (tl2 (tl2 (tl2 (tl2 (tl2 (tl2 (tl2 (@ck18 α1 α2 α3 α4 α5 α6 α7 α8 α9 α10 α11 α12 α13 α14 α15 α16 α17 α18 i P))))))))))))))) (hd2 (tl2 (tl2 (tl2 (tl2 (tl2 (tl2 (tl2 (tl2 (tl2 (tl2 (tl2 (tl2 (tl2 (tl2 (@ck18 α1 α2 α3 α4 α5 α6 α7 α8 α9 α10 α11 α12 α13 α14 α15 α16 α17 α18 i P)))))))))))))))) (hd2 (tl2 (tl2 (tl2 (tl2 (tl2 (tl2 (tl2 (tl2 (tl2 (tl2 (tl2 (tl2 (tl2 (tl2 (tl2 (@ck18 α1 α2 α3 α4 α5 α6 α7 α8 α9 α10 α11 α12 α13 α14 α15 α16 α17 α18 i P))))))))))))))))) (hd2 (tl2 (tl2 (tl2 (tl2 (tl2 (tl2 (tl2 (tl2 (tl2 (tl2 (tl2 (tl2 (tl2 (tl2 (tl2 (tl2 (@ck18 α1 α2 α3 α4 α5 α6 α7 α8 α9 α10 α11 α12 α13 α14 α15 α16 α17 α18 i P)))))))))))))))))) (tl2 (tl2 (tl2 (tl2 (tl2 (tl2 (tl2 (tl2 (tl2 (tl2 (tl2 (tl2 (tl2 (tl2 (tl2 (tl2 (tl2 (@ck18 α1 α2 α3 α4 α5 α6 α7 α8 α9 α10 α11 α12 α13 α14 α15 α16 α17 α18 i P))))))))))))))))))) : ∀ x1 x2 x3 x4 x5 x6 x7 x8 x9 x10 x11 x12 x13 x14 x15 x16 x17 x18, P x1 x2 x3 x4 x5 x6 x7 x8 x9 x10 x11 x12 x13 x14 x15 x16 x17 x18 := fun x1 x2 x3 x4 x5 x6 x7 x8 x9 x10 x11 x12 x13 x14 x15 x16 x17 x18 => Classical.byContradiction fun hn => @Classical.epsilon_spec _ (fun t => ¬ P (hd2 t) (hd2 (tl2 t)) (hd2 (tl2 (tl2 t))) (hd2 (tl2 (tl2 (tl2 t)))) (hd2 (tl2 (tl2 (tl2 (tl2 t))))) (hd2 (tl2 (tl2 (tl2 (tl2 (tl2 t)))))) (hd2 (tl2 (tl2 (tl2 (tl2 (tl2 (tl2 t))))))) (hd2 (tl2 (tl2 (tl2 (tl2 (tl2 (tl2 (tl2 t)))))))) (hd2 (tl2 (tl2 (tl2 (tl2 (tl2 (tl2 (tl2 (tl2 t))))))))) (hd2 (tl2 (tl2 (tl2 (tl2 (tl2 (tl2 (tl2 (tl2 (tl2 t)))))))))) (hd2 (tl2 (tl2 (tl2 (tl2 (tl2 (tl2 (tl2 (tl2 (tl2 (tl2 t))))))))))) (hd2 (tl2 (tl2 (tl2 (tl2 (tl2 (tl2 (tl2 (tl2 (tl2 (tl2 (tl2 t)))))))))))) (hd2 (tl2 (tl2 (tl2 (tl2 (tl2 (tl2 (tl2 (tl2 (tl2 (tl2 (tl2 (tl2 t))))))))))))) (hd2 (tl2 (tl2 (tl2 (tl2 (tl2 (tl2 (tl2 (tl2 (tl2 (tl2 (tl2 (tl2 (tl2 t)))))))))))))) (hd2 (tl2 (tl2 (tl2 (tl2 (tl2 (tl2 (tl2 (tl2 (tl2 (tl2 (tl2 (tl2 (tl2 (tl2 t))))))))))))))) (hd2 (tl2 (tl2 (tl2 (tl2 (tl2 (tl2 (tl2 (tl2 (tl2 (tl2 (tl2 (tl2 (tl2 (tl2 (tl2 t)))))))))))))))) (hd2 (tl2 (tl2 (tl2 (tl2 (tl2 (tl2 (tl2 (tl2 (tl2 (tl2 (tl2 (tl2 (tl2 (tl2 (tl2 (tl2 t))))))))))))))))) (tl2 (tl2 (tl2 (tl2 (tl2 (tl2 (tl2 (tl2 (tl2 (tl2 (tl2 (tl2 (tl2 (tl2 (tl2 (tl2 (tl2 t)))))))))))))))))) ⟨(x1, x2, x3, x4, x5, x6, x7, x8, x9, x10, x11, x12, x13, x14, x15, x16, x17, x18), hn⟩ h
noncomputable def ck22 {α1 α2 α3 α4 α5 α6 α7 α8 α9 α10 α11 α12 α13 α14 α15 α16 α17 α18 α19 α20 α21 α22 : Type} {i : Nonempty (α1 × α2 × α3 × α4 × α5 × α6 × α7 × α8 × α9 × α10 × α11 × α12 × α13 × α14 × α15 × α16 × α17 × α18 × α19 × α20 × α21 × α22)} (P : α1 → α2 → α3 → α4 → α5 → α6 → α7 → α8 → α9 → α10 → α11 → α12 → α13 → α14 → α15 → α16 → α17 → α18 → α19 → α20 → α21 → α22 → Prop) : α1 × α2 × α3 × α4 × α5 × α6 × α7 × α8 × α9 × α10 × α11 × α12 × α13 × α14 × α15 × α16 × α17 × α18 × α19 × α20 × α21 × α22 := @Classical.epsilon _ i fun t => ¬ P (hd2 t) (hd2 (tl2 t)) (hd2 (tl2 (tl2 t))) (hd2 (tl2 (tl2 (tl2 t)))) (hd2 (tl2 (tl2 (tl2 (tl2 t))))) (hd2 (tl2 (tl2 (tl2 (tl2 (tl2 t)))))) (hd2 (tl2 (tl2 (tl2 (tl2 (tl2 (tl2 t))))))) (hd2 (tl2 (tl2 (tl2 (tl2 (tl2 (tl2 (tl2 t)))))))) (hd2 (tl2 (tl2 (tl2 (tl2 (tl2 (tl2 (tl2 (tl2 t))))))))) (hd2 (tl2 (tl2 (tl2 (tl2 (tl2 (tl2 (tl2 (tl2 (tl2 t)))))))))) (hd2 (tl2 (tl2 (tl2 (tl2 (tl2 (tl2 (tl2 (tl2 (tl2 (tl2 t))))))))))) (hd2 (tl2 (tl2 (tl2 (tl2 (tl2 (tl2 (tl2 (tl2 (tl2 (tl2 (tl2 t)))))))))))) (hd2 (tl2 (tl2 (tl2 (tl2 (tl2 (tl2 (tl2 (tl2 (tl2 (tl2 (tl2 (tl2 t))))))))))))) (hd2 (tl2 (tl2 (tl2 (tl2 (tl2 (tl2 (tl2 (tl2 (tl2 (tl2 (tl2 (tl2 (tl2 t)))))))))))))) (hd2 (tl2 (tl2 (tl2 (tl2 (tl2 (tl2 (tl2 (tl2 (tl2 (tl2 (tl2 (tl2 (tl2 (tl2 t))))))))))))))) (hd2 (tl2 (tl2 (tl2 (tl2 (tl2 (tl2 (tl2 (tl2 (tl2 (tl2 (tl2 (tl2 (tl2 (tl2 (tl2 t)))))))))))))))) (hd2 (tl2 (tl2 (tl2 (tl2 (tl2 (tl2 (tl2 (tl2 (tl2 (tl2 (tl2 (tl2 (tl2 (tl2 (tl2 (tl2 t))))))))))))))))) (hd2 (tl2 (tl2 (tl2 (tl2 (tl2 (tl2 (tl2 (tl2 (tl2 (tl2 (tl2 (tl2 (tl2 (tl2 (tl2 (tl2 (tl2 t)))))))))))))))))) (hd2 (tl2 (tl2 (tl2 (tl2 (tl2 (tl2 (tl2 (tl2 (tl2 (tl2 (tl2 (tl2 (tl2 (tl2 (tl2 (tl2 (tl2 (tl2 t))))))))))))))))))) (hd2 (tl2 (tl2 (tl2 (tl2 (tl2 (tl2 (tl2 (tl2 (tl2 (tl2 (tl2 (tl2 (tl2 (tl2 (tl2 (tl2 (tl2 (tl2 (tl2 t)))))))))))))))))))) (hd2 (tl2 (tl2 (tl2 (tl2 (tl2 (tl2 (tl2 (tl2 (tl2 (tl2 (tl2 (tl2 (tl2 (tl2 (tl2 (tl2 (tl2 (tl2 (tl2 (tl2 t))))))))))))))))))))) (tl2 (tl2 (tl2 (tl2 (tl2 (tl2 (tl2 (tl2 (tl2 (tl2 (tl2 (tl2 (tl2 (tl2 (tl2 (tl2 (tl2 (tl2 (tl2 (tl2 (tl2 t)))))))))))))))))))))
theorem pick22 {α1 α2 α3 α4 α5 α6 α7 α8 α9 α10 α11 α12 α13 α14 α15 α16 α17 α18 α19 α20 α21 α22 : Type} {P : α1 → α2 → α3 → α4 → α5 → α6 → α7 → α8 → α9 → α10 → α11 → α12 → α13 → α14 → α15 → α16 → α17 → α18 → α19 → α20 → α21 → α22 → Prop} (i : Nonempty (α1 × α2 × α3 × α4 × α5 × α6 × α7 × α8 × α9 × α10 × α11 × α12 × α13 × α14 × α15 × α16 × α17 × α18 × α19 × α20 × α21 × α22)) (h : P (hd2 (@ck22 α1 α2 α3 α4 α5 α6 α7 α8 α9 α10 α11 α12 α13 α14 α15 α16 α17 α18 α19 α20 α21 α22 i P)) (hd2 (tl2 (@ck22 α1 α2 α3 α4 α5 α6 α7 α8 α9 α10 α11 α12 α13 α14 α15 α16 α17 α18 α19 α20 α21 α22 i P))) (hd2 (tl2 (tl2 (@ck22 α1 α2 α3 α4 α5 α6 α7 α8 α9 α10 α11 α12 α13 α14 α15 α16 α17 α18 α19 α20 α21 α22 i P)))) (hd2 (tl2 (tl2 (tl2 (@ck22 α1 α2 α3 α4 α5 α6 α7 α8 α9 α10 α11 α12 α13 α14 α15 α16 α17 α18 α19 α20 α21 α22 i P))))) (hd2 (tl2 (tl2 (tl2 (tl2 (@ck22 α1 α2 α3 α4 α5 α6 α7 α8 α9 α10 α11 α12 α13 α14 α15 α16 α17 α18 α19 α20 α21 α22 i P)))))) (hd2 (tl2 (tl2 (tl2 (tl2 (tl2 (@ck22 α1 α2 α3 α4 α5 α6 α7 α8 α9 α10 α11 α12 α13 α14 α15 α16 α17 α18 α19 α20 α21 α22 i P))))))) (hd2 (tl2 (tl2 (tl2 (tl2 (tl2 (tl2 (@ck22 α1 α2 α3 α4 α5 α6 α7 α8 α9 α10 α11 α12 α13 α14 α15 α16 α17 α18 α19 α20 α21 α22 i P)))))))) (hd2 (tl2 (tl2 (tl2 (tl2 (tl2 (tl2 (tl2 (@ck22 α1 α2 α3 α4 α5 α6 α7 α8 α9 α10 α11 α12 α13 α14 α15 α16 α17 α18 α19 α20 α21 α22 i P))))))))) (hd2 (tl2 (tl2 (tl2 (tl2 (tl2 (tl2 (tl2 (tl2 (@ck22 α1 α2 α3 α4 α5 α6 α7 α8 α9 α10 α11 α12 α13 α14 α15 α16 α17 α18 α19 α20 α21 α22 i P)))))))))) (hd2 (tl2 (tl2 (tl2 (tl2 (tl2 (tl2 (tl2 (tl2 (tl2 (@ck22 α1 α2 α3 α4 α5 α6 α7 α8 α9 α10 α11 α12 α13 α14 α15 α16 α17 α18 α19 α20 α21 α22 i P))))))))))) (hd2 (tl2 (tl2 (tl2 (tl2 (tl2 (tl2 (tl2 (tl2 (tl2 (tl2 (@ck22 α1 α2 α3 α4 α5 α6 α7 α8 α9 α10 α11 α12 α13 α14 α15 α16 α17 α18 α19 α20 α21 α22 i P)))))))))))) (hd2 (tl2 (tl2 (tl2 (tl2 (tl2 (tl2 (tl2 (tl2 (tl2 (tl2 (tl2 (@ck22 α1 α2 α3 α4 α5 α6 α7 α8 α9 α10 α11 α12 α13 α14 α15 α16 α17 α18 α19 α20 α21 α22 i P))))))))))))) (hd2 (tl2 (tl2 (tl2 (tl2 (tl2 (tl2 (tl2 (tl2 (tl2 (tl2 (tl2 (tl2 (@ck22 α1 α2 α3 α4 α5 α6 α7 α8 α9 α10 α11 α12 α13 α14 α15 α16 α17 α18 α19 α20 α21 α22 i P)))))))))))))) (hd2 (tl2 (tl2 (tl2 (tl2 (tl2 (tl2 (tl2 (tl2 (tl2 (tl2 (tl2 (tl2 (tl2 (@ck22 α1 α2 α3 α4 α5 α6 α7 α8 α9 α10 α11 α12 α13 α14 α15 α16 α17 α18 α19 α20 α21 α22 i P))))))))))))))) (hd2 (tl2 (tl2 (tl2 (tl2 (tl2 (tl2 (tl2 (tl2 (tl2 (tl2 (tl2 (tl2 (tl2 (tl2 (@ck22 α1 α2 α3 α4 α5 α6 α7 α8 α9 α10 α11 α12 α13 α14 α15 α16 α17 α18 α19 α20 α21 α22 i P)))))))))))))))) (hd2 (tl2 (tl2 (tl2 (tl2 (tl2 (tl2 (tl2 (tl2 (tl2 (tl2 (tl2 (tl2 (tl2 (tl2 (tl2 (@ck22 α1 α2 α3 α4 α5 α6 α7 α8 α9 α10 α11 α12 α13 α14 α15 α16 α17 α18 α19 α20 α21 α22 i P))))))))))))))))) (hd2 (tl2 (tl2 (tl2 (tl2 (tl2 (tl2 (tl2 (tl2 (tl2 (tl2 (tl2 (tl2 (tl2 (tl2 (tl2 (tl2 (@ck22 α1 α2 α3 α4 α5 α6 α7 α8 α9 α10 α11 α12 α13 α14 α15 α16 α17 α18 α19 α20 α21 α22 i P)))))))))))))))))) (hd2 (tl2 (tl2 (tl2 (tl2 (tl2 (tl2 (tl2 (tl2 (tl2 (tl2 (tl2 (tl2 (tl2 (tl2 (tl2 (tl2 (tl2 (@ck22 α1 α2 α3 α4 α5 α6 α7 α8 α9 α10 α11 α12 α13 α14 α15 α16 α17 α18 α19 α20 α21 α22 i P))))))))))))))))))) (hd2 (tl2 (tl2 (tl2 (tl2 (tl2 (tl2 (tl2 (tl2 (tl2 (tl2 (tl2 (tl2 (tl2 (tl2 (tl2 (tl2 (tl2 (tl2 (@ck22 α1 α2 α3 α4 α5 α6 α7 α8 α9 α10 α11 α12 α13 α14 α15 α16 α17 α18 α19 α20 α21 α22 i P)))))))))))))))))))) (hd2 (tl2 (tl2 (tl2 (tl2 (tl2 (tl2 (tl2 (tl2 (tl2 (tl2 (tl2 (tl2 (tl2 (tl2 (tl2 (tl2 (tl2 (tl2 (tl2 (@ck22 α1 α2 α3 α4 α5 α6 α7 α8 α9 α10 α11 α12 α13 α14 α15 α16 α17 α18 α19 α20 α21 α22 i P))))))))))))))))))))) (hd2 (tl2 (tl2 (tl2 (tl2 (tl2 (tl2 (tl2 (tl2 (tl2 (tl2 (tl2 (tl2 (tl2 (tl2 (tl2 (tl2 (tl2 (tl2 (tl2 (tl2 (@ck22 α1 α2 α3 α4 α5 α6 α7 α8 α9 α10 α11 α12 α13 α14 α15 α16 α17 α18 α19 α20 α21 α22 i P)))))))))))))))))))))) (tl2 (tl2 (tl2 (tl2 (tl2 (tl2 (tl2 (tl2 (tl2 (tl2 (tl2 (tl2 (tl2 (tl2 (tl2 (tl2 (tl2 (tl2 (tl2 (tl2 (tl2 (@ck22 α1 α2 α3 α4 α5 α6 α7 α8 α9 α10 α11 α12 α13 α14 α15 α16 α17 α18 α19 α20 α21 α22 i P))))))))))))))))))))))) : ∀ x1 x2 x3 x4 x5 x6 x7 x8 x9 x10 x11 x12 x13 x14 x15 x16 x17 x18 x19 x20 x21 x22, P x1 x2 x3 x4 x5 x6 x7 x8 x9 x10 x11 x12 x13 x14 x15 x16 x17 x18 x19 x20 x21 x22 := fun x1 x2 x3 x4 x5 x6 x7 x8 x9 x10 x11 x12 x13 x14 x15 x16 x17 x18 x19 x20 x21 x22 => Classical.byContradiction fun hn => @Classical.epsilon_spec _ (fun t => ¬ P (hd2 t) (hd2 (tl2 t)) (hd2 (tl2 (tl2 t))) (hd2 (tl2 (tl2 (tl2 t)))) (hd2 (tl2 (tl2 (tl2 (tl2 t))))) (hd2 (tl2 (tl2 (tl2 (tl2 (tl2 t)))))) (hd2 (tl2 (tl2 (tl2 (tl2 (tl2 (tl2 t))))))) (hd2 (tl2 (tl2 (tl2 (tl2 (tl2 (tl2 (tl2 t)))))))) (hd2 (tl2 (tl2 (tl2 (tl2 (tl2 (tl2 (tl2 (tl2 t))))))))) (hd2 (tl2 (tl2 (tl2 (tl2 (tl2 (tl2 (tl2 (tl2 (tl2 t)))))))))) (hd2 (tl2 (tl2 (tl2 (tl2 (tl2 (tl2 (tl2 (tl2 (tl2 (tl2 t))))))))))) (hd2 (tl2 (tl2 (tl2 (tl2 (tl2 (tl2 (tl2 (tl2 (tl2 (tl2 (tl2 t)))))))))))) (hd2 (tl2 (tl2 (tl2 (tl2 (tl2 (tl2 (tl2 (tl2 (tl2 (tl2 (tl2 (tl2 t))))))))))))) (hd2 (tl2 (tl2 (tl2 (tl2 (tl2 (tl2 (tl2 (tl2 (tl2 (tl2 (tl2 (tl2 (tl2 t)))))))))))))) (hd2 (tl2 (tl2 (tl2 (tl2 (tl2 (tl2 (tl2 (tl2 (tl2 (tl2 (tl2 (tl2 (tl2 (tl2 t))))))))))))))) (hd2 (tl2 (tl2 (tl2 (tl2 (tl2 (tl2 (tl2 (tl2 (tl2 (tl2 (tl2 (tl2 (tl2 (tl2 (tl2 t)))))))))))))))) (hd2 (tl2 (tl2 (tl2 (tl2 (tl2 (tl2 (tl2 (tl2 (tl2 (tl2 (tl2 (tl2 (tl2 (tl2 (tl2 (tl2 t))))))))))))))))) (hd2 (tl2 (tl2 (tl2 (tl2 (tl2 (tl2 (tl2 (tl2 (tl2 (tl2 (tl2 (tl2 (tl2 (tl2 (tl2 (tl2 (tl2 t)))))))))))))))))) (hd2 (tl2 (tl2 (tl2 (tl2 (tl2 (tl2 (tl2 (tl2 (tl2 (tl2 (tl2 (tl2 (tl2 (tl2 (tl2 (tl2 (tl2 (tl2 t))))))))))))))))))) (hd2 (tl2 (tl2 (tl2 (tl2 (tl2 (tl2 (tl2 (tl2 (tl2 (tl2 (tl2 (tl2 (tl2 (tl2 (tl2 (tl2 (tl2 (tl2 (tl2 t)))))))))))))))))))) (hd2 (tl2 (tl2 (tl2 (tl2 (tl2 (tl2 (tl2 (tl2 (tl2 (tl2 (tl2 (tl2 (tl2 (tl2 (tl2 (tl2 (tl2 (tl2 (tl2 (tl2 t))))))))))))))))))))) (tl2 (tl2 (tl2 (tl2 (tl2 (tl2 (tl2 (tl2 (tl2 (tl2 (tl2 (tl2 (tl2 (tl2 (tl2 (tl2 (tl2 (tl2 (tl2 (tl2 (tl2 t)))))))))))))))))))))) ⟨(x1, x2, x3, x4, x5, x6, x7, x8, x9, x10, x11, x12, x13, x14, x15, x16, x17, x18, x19, x20, x21, x22), hn⟩ h
noncomputable def ck27 {α1 α2 α3 α4 α5 α6 α7 α8 α9 α10 α11 α12 α13 α14 α15 α16 α17 α18 α19 α20 α21 α22 α23 α24 α25 α26 α27 : Type} {i : Nonempty (α1 × α2 × α3 × α4 × α5 × α6 × α7 × α8 × α9 × α10 × α11 × α12 × α13 × α14 × α15 × α16 × α17 × α18 × α19 × α20 × α21 × α22 × α23 × α24 × α25 × α26 × α27)} (P : α1 → α2 → α3 → α4 → α5 → α6 → α7 → α8 → α9 → α10 → α11 → α12 → α13 → α14 → α15 → α16 → α17 → α18 → α19 → α20 → α21 → α22 → α23 → α24 → α25 → α26 → α27 → Prop) : α1 × α2 × α3 × α4 × α5 × α6 × α7 × α8 × α9 × α10 × α11 × α12 × α13 × α14 × α15 × α16 × α17 × α18 × α19 × α20 × α21 × α22 × α23 × α24 × α25 × α26 × α27 := @Classical.epsilon _ i fun t => ¬ P (hd2 t) (hd2 (tl2 t)) (hd2 (tl2 (tl2 t))) (hd2 (tl2 (tl2 (tl2 t)))) (hd2 (tl2 (tl2 (tl2 (tl2 t))))) (hd2 (tl2 (tl2 (tl2 (tl2 (tl2 t)))))) (hd2 (tl2 (tl2 (tl2 (tl2 (tl2 (tl2 t))))))) (hd2 (tl2 (tl2 (tl2 (tl2 (tl2 (tl2 (tl2 t)))))))) (hd2 (tl2 (tl2 (tl2 (tl2 (tl2 (tl2 (tl2 (tl2 t))))))))) (hd2 (tl2 (tl2 (tl2 (tl2 (tl2 (tl2 (tl2 (tl2 (tl2 t)))))))))) (hd2 (tl2 (tl2 (tl2 (tl2 (tl2 (tl2 (tl2 (tl2 (tl2 (tl2 t))))))))))) (hd2 (tl2 (tl2 (tl2 (tl2 (tl2 (tl2 (tl2 (tl2 (tl2 (tl2 (tl2 t)))))))))))) (hd2 (tl2 (tl2 (tl2 (tl2 (tl2 (tl2 (tl2 (tl2 (tl2 (tl2 (tl2 (tl2 t))))))))))))) (hd2 (tl2 (tl2 (tl2 (tl2 (tl2 (tl2 (tl2 (tl2 (tl2 (tl2 (tl2 (tl2 (tl2 t)))))))))))))) (hd2 (tl2 (tl2 (tl2 (tl2 (tl2 (tl2 (tl2 (tl2 (tl2 (tl2 (tl2 (tl2 (tl2 (tl2 t))))))))))))))) (hd2 (tl2 (tl2 (tl2 (tl2 (tl2 (tl2 (tl2 (tl2 (tl2 (tl2 (tl2 (tl2 (tl2 (tl2 (tl2 t)))))))))))))))) (hd2 (tl2 (tl2 (tl2 (tl2 (tl2 (tl2 (tl2 (tl2 (tl2 (tl2 (tl2 (tl2 (tl2 (tl2 (tl2 (tl2 t))))))))))))))))) (hd2 (tl2 (tl2 (tl2 (tl2 (tl2 (tl2 (tl2 (tl2 (tl2 (tl2 (tl2 (tl2 (tl2 (tl2 (tl2 (tl2 (tl2 t)))))))))))))))))) (hd2 (tl2 (tl2 (tl2 (tl2 (tl2 (tl2 (tl2 (tl2 (tl2 (tl2 (tl2 (tl2 (tl2 (tl2 (tl2 (tl2 (tl2 (tl2 t))))))))))))))))))) (hd2 (tl2 (tl2 (tl2 (tl2 (tl2 (tl2 (tl2 (tl2 (tl2 (tl2 (tl2 (tl2 (tl2 (tl2 (tl2 (tl2 (tl2 (tl2 (tl2 t)))))))))))))))))))) (hd2 (tl2 (tl2 (tl2 (tl2 (tl2 (tl2 (tl2 (tl2 (tl2 (tl2 (tl2 (tl2 (tl2 (tl2 (tl2 (tl2 (tl2 (tl2 (tl2 (tl2 t))))))))))))))))))))) (hd2 (tl2 (tl2 (tl2 (tl2 (tl2 (tl2 (tl2 (tl2 (tl2 (tl2 (tl2 (tl2 (tl2 (tl2 (tl2 (tl2 (tl2 (tl2 (tl2 (tl2 (tl2 t)))))))))))))))))))))) (hd2 (tl2 (tl2 (tl2 (tl2 (tl2 (tl2 (tl2 (tl2 (tl2 (tl2 (tl2 (tl2 (tl2 (tl2 (tl2 (tl2 (tl2 (tl2 (tl2 (tl2 (tl2 (tl2 t))))))))))))))))))))))) (hd2 (tl2 (tl2 (tl2 (tl2 (tl2 (tl2 (tl2 (tl2 (tl2 (tl2 (tl2 (tl2 (tl2 (tl2 (tl2 (tl2 (tl2 (tl2 (tl2 (tl2 (tl2 (tl2 (tl2 t)))))))))))))))))))))))) (hd2 (tl2 (tl2 (tl2 (tl2 (tl2 (tl2 (tl2 (tl2 (tl2 (tl2 (tl2 (tl2 (tl2 (tl2 (tl2 (tl2 (tl2 (tl2 (tl2 (tl2 (tl2 (tl2 (tl2 (tl2 t))))))))))))))))))))))))) (hd2 (tl2 (tl2 (tl2 (tl2 (tl2 (tl2 (tl2 (tl2 (tl2 (tl2 (tl2 (tl2 (tl2 (tl2 (tl2 (tl2 (tl2 (tl2 (tl2 (tl2 (tl2 (tl2 (tl2 (tl2 (tl2 t)))))))))))))))))))))))))) (tl2 (tl2 (tl2 (tl2 (tl2 (tl2 (tl2 (tl2 (tl2 (tl2 (tl2 (tl2 (tl2 (tl2 (tl2 (tl2 (tl2 (tl2 (tl2 (tl2 (tl2 (tl2 (tl2 (tl2 (tl2 (tl2 t))))))))))))))))))))))))))
theorem pick27 {α1 α2 α3 α4 α5 α6 α7 α8 α9 α10 α11 α12 α13 α14 α15 α16 α17 α18 α19 α20 α21 α22 α23 α24 α25 α26 α27 : Type} {P : α1 → α2 → α3 → α4 → α5 → α6 → α7 → α8 → α9 → α10 → α11 → α12 → α13 → α14 → α15 → α16 → α17 → α18 → α19 → α20 → α21 → α22 → α23 → α24 → α25 → α26 → α27 → Prop} (i : Nonempty (α1 × α2 × α3 × α4 × α5 × α6 × α7 × α8 × α9 × α10 × α11 × α12 × α13 × α14 × α15 × α16 × α17 × α18 × α19 × α20 × α21 × α22 × α23 × α24 × α25 × α26 × α27)) (h : P (hd2 (@ck27 α1 α2 α3 α4 α5 α6 α7 α8 α9 α10 α11 α12 α13 α14 α15 α16 α17 α18 α19 α20 α21 α22 α23 α24 α25 α26 α27 i P)) (hd2 (tl2 (@ck27 α1 α2 α3 α4 α5 α6 α7 α8 α9 α10 α11 α12 α13 α14 α15 α16 α17 α18 α19 α20 α21 α22 α23 α24 α25 α26 α27 i P))) (hd2 (tl2 (tl2 (@ck27 α1 α2 α3 α4 α5 α6 α7 α8 α9 α10 α11 α12 α13 α14 α15 α16 α17 α18 α19 α20 α21 α22 α23 α24 α25 α26 α27 i P)))) (hd2 (tl2 (tl2 (tl2 (@ck27 α1 α2 α3 α4 α5 α6 α7 α8 α9 α10 α11 α12 α13 α14 α15 α16 α17 α18 α19 α20 α21 α22 α23 α24 α25 α26 α27 i P))))) (hd2 (tl2 (tl2 (tl2 (tl2 (@ck27 α1 α2 α3 α4 α5 α6 α7 α8 α9 α10 α11 α12 α13 α14 α15 α16 α17 α18 α19 α20 α21 α22 α23 α24 α25 α26 α27 i P)))))) (hd2 (tl2 (tl2 (tl2 (tl2 (tl2 (@ck27 α1 α2 α3 α4 α5 α6 α7 α8 α9 α10 α11 α12 α13 α14 α15 α16 α17 α18 α19 α20 α21 α22 α23 α24 α25 α26 α27 i P))))))) (hd2 (tl2 (tl2 (tl2 (tl2 (tl2 (tl2 (@ck27 α1 α2 α3 α4 α5 α6 α7 α8 α9 α10 α11 α12 α13 α14 α15 α16 α17 α18 α19 α20 α21 α22 α23 α24 α25 α26 α27 i P)))))))) (hd2 (tl2 (tl2 (tl2 (tl2 (tl2 (tl2 (tl2 (@ck27 α1 α2 α3 α4 α5 α6 α7 α8 α9 α10 α11 α12 α13 α14 α15 α16 α17 α18 α19 α20 α21 α22 α23 α24 α25 α26 α27 i P))))))))) (hd2 (tl2 (tl2 (tl2 (tl2 (tl2 (tl2 (tl2 (tl2 (@ck27 α1 α2 α3 α4 α5 α6 α7 α8 α9 α10 α11 α12 α13 α14 α15 α16 α17 α18 α19 α20 α21 α22 α23 α24 α25 α26 α27 i P)))))))))) (hd2 (tl2 (tl2 (tl2 (tl2 (tl2 (tl2 (tl2 (tl2 (tl2 (@ck27 α1 α2 α3 α4 α5 α6 α7 α8 α9 α10 α11 α12 α13 α14 α15 α16 α17 α18 α19 α20 α21 α22 α23 α24 α25 α26 α27 i P))))))))))) (hd2 (tl2 (tl2 (tl2 (tl2 (tl2 (tl2 (tl2 (tl2 (tl2 (tl2 (@ck27 α1 α2 α3 α4 α5 α6 α7 α8 α9 α10 α11 α12 α13 α14 α15 α16 α17 α18 α19 α20 α21 α22 α23 α24 α25 α26 α27 i P)))))))))))) (hd2 (tl2 (tl2 (tl2 (tl2 (tl2 (tl2 (tl2 (tl2 (tl2 (tl2 (tl2 (@ck27 α1 α2 α3 α4 α5 α6 α7 α8 α9 α10 α11 α12 α13 α14 α15 α16 α17 α18 α19 α20 α21 α22 α23 α24 α25 α26 α27 i P))))))))))))) (hd2 (tl2 (tl2 (tl2 (tl2 (tl2 (tl2 (tl2 (tl2 (tl2 (tl2 (tl2 (tl2 (@ck27 α1 α2 α3 α4 α5 α6 α7 α8 α9 α10 α11 α12 α13 α14 α15 α16 α17 α18 α19 α20 α21 α22 α23 α24 α25 α26 α27 i P)))))))))))))) (hd2 (tl2 (tl2 (tl2 (tl2 (tl2 (tl2 (tl2 (tl2 (tl2 (tl2 (tl2 (tl2 (tl2 (@ck27 α1 α2 α3 α4 α5 α6 α7 α8 α9 α10 α11 α12 α13 α14 α15 α16 α17 α18 α19 α20 α21 α22 α23 α24 α25 α26 α27 i P))))))))))))))) (hd2 (tl2 (tl2 (tl2 (tl2 (tl2 (tl2 (tl2 (tl2 (tl2 (tl2 (tl2 (tl2 (tl2 (tl2 (@ck27 α1 α2 α3 α4 α5 α6 α7 α8 α9 α10 α11 α12 α13 α14 α15 α16 α17 α18 α19 α20 α21 α22 α23 α24 α25 α26 α27 i P)))))))))))))))) (hd2 (tl2 (tl2 (tl2 (tl2 (tl2 (tl2 (tl2 (tl2 (tl2 (tl2 (tl2 (tl2 (tl2 (tl2 (tl2 (@ck27 α1 α2 α3 α4 α5 α6 α7 α8 α9 α10 α11 α12 α13 α14 α15 α16 α17 α18 α19 α20 α21 α22 α23 α24 α25 α26 α27 i P))))))))))))))))) (hd2 (tl2 (tl2 (tl2 (tl2 (tl2 (tl2 (tl2 (tl2 (tl2 (tl2 (tl2 (tl2 (tl2 (tl2 (tl2 (tl2 (@ck27 α1 α2 α3 α4 α5 α6 α7 α8 α9 α10 α11 α12 α13 α14 α15 α16 α17 α18 α19 α20 α21 α22 α23 α24 α25 α26 α27 i P)))))))))))))))))) (hd2 (tl2 (tl2 (tl2 (tl2 (tl2 (tl2 (tl2 (tl2 (tl2 (tl2 (tl2 (tl2 (tl2 (tl2 (tl2 (tl2 (tl2 (@ck27 α1 α2 α3 α4 α5 α6 α7 α8 α9 α10 α11 α12 α13 α14 α15 α16 α17 α18 α19 α20 α21 α22 α23 α24 α25 α26 α27 i P))))))))))))))))))) (hd2 (tl2 (tl2 (tl2 (tl2 (tl2 (tl2 (tl2 (tl2 (tl2 (tl2 (tl2 (tl2 (tl2 (tl2 (tl2 (tl2 (tl2 (tl2 (@ck27 α1 α2 α3 α4 α5 α6 α7 α8 α9 α10 α11 α12 α13 α14 α15 α16 α17 α18 α19 α20 α21 α22 α23 α24 α25 α26 α27 i P)))))))))))))))))))) (hd2 (tl2 (tl2 (tl2 (tl2 (tl2 (tl2 (tl2 (tl2 (tl2 (tl2 (tl2 (tl2 (tl2 (tl2 (tl2 (tl2 (tl2 (tl2 (tl2 (@ck27 α1 α2 α3 α4 α5 α6 α7 α8 α9 α10 α11 α12 α13 α14 α15 α16 α17 α18 α19 α20 α21 α22 α23 α24 α25 α26 α27 i P))))))))))))))))))))) (hd2 (tl2 (tl2 (tl2 (tl2 (tl2 (tl2 (tl2 (tl2 (tl2 (tl2 (tl2 (tl2 (tl2 (tl2 (tl2 (tl2 (tl2 (tl2 (tl2 (tl2 (@ck27 α1 α2 α3 α4 α5 α6 α7 α8 α9 α10 α11 α12 α13 α14 α15 α16 α17 α18 α19 α20 α21 α22 α23 α24 α25 α26 α27 i P)))))))))))))))))))))) (hd2 (tl2 (tl2 (tl2 (tl2 (tl2 (tl2 (tl2 (tl2 (tl2 (tl2 (tl2 (tl2 (tl2 (tl2 (tl2 (tl2 (tl2 (tl2 (tl2 (tl2 (tl2 (@ck27 α1 α2 α3 α4 α5 α6 α7 α8 α9 α10 α11 α12 α13 α14 α15 α16 α17 α18 α19 α20 α21 α22 α23 α24 α25 α26 α27 i P))))))))))))))))))))))) (hd2 (tl2 (tl2 (tl2 (tl2 (tl2 (tl2 (tl2 (tl2 (tl2 (tl2 (tl2 (tl2 (tl2 (tl2 (tl2 (tl2 (tl2 (tl2 (tl2 (tl2 (tl2 (tl2 (@ck27 α1 α2 α3 α4 α5 α6 α7 α8 α9 α10 α11 α12 α13 α14 α15 α16 α17 α18 α19 α20 α21 α22 α23 α24 α25 α26 α27 i P)))))))))))))))))))))))) (hd2 (tl2 (tl2 (tl2 (tl2 (tl2 (tl2 (tl2 (tl2 (tl2 (tl2 (tl2 (tl2 (tl2 (tl2 (tl2 (tl2 (tl2 (tl2 (tl2 (tl2 (tl2 (tl2 (tl2 (@ck27 α1 α2 α3 α4 α5 α6 α7 α8 α9 α10 α11 α12 α13 α14 α15 α16 α17 α18 α19 α20 α21 α22 α23 α24 α25 α26 α27 i P))))))))))))))))))))))))) (hd2 (tl2 (tl2 (tl2 (tl2 (tl2 (tl2 (tl2 (tl2 (tl2 (tl2 (tl2 (tl2 (tl2 (tl2 (tl2 (tl2 (tl2 (tl2 (tl2 (tl2 (tl2 (tl2 (tl2 (tl2 (@ck27 α1 α2 α3 α4 α5 α6 α7 α8 α9 α10 α11 α12 α13 α14 α15 α16 α17 α18 α19 α20 α21 α22 α23 α24 α25 α26 α27 i P)))))))))))))))))))))))))) (hd2 (tl2 (tl2 (tl2 (tl2 (tl2 (tl2 (tl2 (tl2 (tl2 (tl2 (tl2 (tl2 (tl2 (tl2 (tl2 (tl2 (tl2 (tl2 (tl2 (tl2 (tl2 (tl2 (tl2 (tl2 (tl2 (@ck27 α1 α2 α3 α4 α5 α6 α7 α8 α9 α10 α11 α12 α13 α14 α15 α16 α17 α18 α19 α20 α21 α22 α23 α24 α25 α26 α27 i P))))))))))))))))))))))))))) (tl2 (tl2 (tl2 (tl2 (tl2 (tl2 (tl2 (tl2 (tl2 (tl2 (tl2 (tl2 (tl2 (tl2 (tl2 (tl2 (tl2 (tl2 (tl2 (tl2 (tl2 (tl2 (tl2 (tl2 (tl2 (tl2 (@ck27 α1 α2 α3 α4 α5 α6 α7 α8 α9 α10 α11 α12 α13 α14 α15 α16 α17 α18 α19 α20 α21 α22 α23 α24 α25 α26 α27 i P)))))))))))))))))))))))))))) : ∀ x1 x2 x3 x4 x5 x6 x7 x8 x9 x10 x11 x12 x13 x14 x15 x16 x17 x18 x19 x20 x21 x22 x23 x24 x25 x26 x27, P x1 x2 x3 x4 x5 x6 x7 x8 x9 x10 x11 x12 x13 x14 x15 x16 x17 x18 x19 x20 x21 x22 x23 x24 x25 x26 x27 := fun x1 x2 x3 x4 x5 x6 x7 x8 x9 x10 x11 x12 x13 x14 x15 x16 x17 x18 x19 x20 x21 x22 x23 x24 x25 x26 x27 => Classical.byContradiction fun hn => @Classical.epsilon_spec _ (fun t => ¬ P (hd2 t) (hd2 (tl2 t)) (hd2 (tl2 (tl2 t))) (hd2 (tl2 (tl2 (tl2 t)))) (hd2 (tl2 (tl2 (tl2 (tl2 t))))) (hd2 (tl2 (tl2 (tl2 (tl2 (tl2 t)))))) (hd2 (tl2 (tl2 (tl2 (tl2 (tl2 (tl2 t))))))) (hd2 (tl2 (tl2 (tl2 (tl2 (tl2 (tl2 (tl2 t)))))))) (hd2 (tl2 (tl2 (tl2 (tl2 (tl2 (tl2 (tl2 (tl2 t))))))))) (hd2 (tl2 (tl2 (tl2 (tl2 (tl2 (tl2 (tl2 (tl2 (tl2 t)))))))))) (hd2 (tl2 (tl2 (tl2 (tl2 (tl2 (tl2 (tl2 (tl2 (tl2 (tl2 t))))))))))) (hd2 (tl2 (tl2 (tl2 (tl2 (tl2 (tl2 (tl2 (tl2 (tl2 (tl2 (tl2 t)))))))))))) (hd2 (tl2 (tl2 (tl2 (tl2 (tl2 (tl2 (tl2 (tl2 (tl2 (tl2 (tl2 (tl2 t))))))))))))) (hd2 (tl2 (tl2 (tl2 (tl2 (tl2 (tl2 (tl2 (tl2 (tl2 (tl2 (tl2 (tl2 (tl2 t)))))))))))))) (hd2 (tl2 (tl2 (tl2 (tl2 (tl2 (tl2 (tl2 (tl2 (tl2 (tl2 (tl2 (tl2 (tl2 (tl2 t))))))))))))))) (hd2 (tl2 (tl2 (tl2 (tl2 (tl2 (tl2 (tl2 (tl2 (tl2 (tl2 (tl2 (tl2 (tl2 (tl2 (tl2 t)))))))))))))))) (hd2 (tl2 (tl2 (tl2 (tl2 (tl2 (tl2 (tl2 (tl2 (tl2 (tl2 (tl2 (tl2 (tl2 (tl2 (tl2 (tl2 t))))))))))))))))) (hd2 (tl2 (tl2 (tl2 (tl2 (tl2 (tl2 (tl2 (tl2 (tl2 (tl2 (tl2 (tl2 (tl2 (tl2 (tl2 (tl2 (tl2 t)))))))))))))))))) (hd2 (tl2 (tl2 (tl2 (tl2 (tl2 (tl2 (tl2 (tl2 (tl2 (tl2 (tl2 (tl2 (tl2 (tl2 (tl2 (tl2 (tl2 (tl2 t))))))))))))))))))) (hd2 (tl2 (tl2 (tl2 (tl2 (tl2 (tl2 (tl2 (tl2 (tl2 (tl2 (tl2 (tl2 (tl2 (tl2 (tl2 (tl2 (tl2 (tl2 (tl2 t)))))))))))))))))))) (hd2 (tl2 (tl2 (tl2 (tl2 (tl2 (tl2 (tl2 (tl2 (tl2 (tl2 (tl2 (tl2 (tl2 (tl2 (tl2 (tl2 (tl2 (tl2 (tl2 (tl2 t))))))))))))))))))))) (hd2 (tl2 (tl2 (tl2 (tl2 (tl2 (tl2 (tl2 (tl2 (tl2 (tl2 (tl2 (tl2 (tl2 (tl2 (tl2 (tl2 (tl2 (tl2 (tl2 (tl2 (tl2 t)))))))))))))))))))))) (hd2 (tl2 (tl2 (tl2 (tl2 (tl2 (tl2 (tl2 (tl2 (tl2 (tl2 (tl2 (tl2 (tl2 (tl2 (tl2 (tl2 (tl2 (tl2 (tl2 (tl2 (tl2 (tl2 t))))))))))))))))))))))) (hd2 (tl2 (tl2 (tl2 (tl2 (tl2 (tl2 (tl2 (tl2 (tl2 (tl2 (tl2 (tl2 (tl2 (tl2 (tl2 (tl2 (tl2 (tl2 (tl2 (tl2 (tl2 (tl2 (tl2 t)))))))))))))))))))))))) (hd2 (tl2 (tl2 (tl2 (tl2 (tl2 (tl2 (tl2 (tl2 (tl2 (tl2 (tl2 (tl2 (tl2 (tl2 (tl2 (tl2 (tl2 (tl2 (tl2 (tl2 (tl2 (tl2 (tl2 (tl2 t))))))))))))))))))))))))) (hd2 (tl2 (tl2 (tl2 (tl2 (tl2 (tl2 (tl2 (tl2 (tl2 (tl2 (tl2 (tl2 (tl2 (tl2 (tl2 (tl2 (tl2 (tl2 (tl2 (tl2 (tl2 (tl2 (tl2 (tl2 (tl2 t)))))))))))))))))))))))))) (tl2 (tl2 (tl2 (tl2 (tl2 (tl2 (tl2 (tl2 (tl2 (tl2 (tl2 (tl2 (tl2 (tl2 (tl2 (tl2 (tl2 (tl2 (tl2 (tl2 (tl2 (tl2 (tl2 (tl2 (tl2 (tl2 t))))))))))))))))))))))))))) ⟨(x1, x2, x3, x4, x5, x6, x7, x8, x9, x10, x11, x12, x13, x14, x15, x16, x17, x18, x19, x20, x21, x22, x23, x24, x25, x26, x27), hn⟩ h
noncomputable def ck32 {α1 α2 α3 α4 α5 α6 α7 α8 α9 α10 α11 α12 α13 α14 α15 α16 α17 α18 α19 α20 α21 α22 α23 α24 α25 α26 α27 α28 α29 α30 α31 α32 : Type} {i : Nonempty (α1 × α2 × α3 × α4 × α5 × α6 × α7 × α8 × α9 × α10 × α11 × α12 × α13 × α14 × α15 × α16 × α17 × α18 × α19 × α20 × α21 × α22 × α23 × α24 × α25 × α26 × α27 × α28 × α29 × α30 × α31 × α32)} (P : α1 → α2 → α3 → α4 → α5 → α6 → α7 → α8 → α9 → α10 → α11 → α12 → α13 → α14 → α15 → α16 → α17 → α18 → α19 → α20 → α21 → α22 → α23 → α24 → α25 → α26 → α27 → α28 → α29 → α30 → α31 → α32 → Prop) : α1 × α2 × α3 × α4 × α5 × α6 × α7 × α8 × α9 × α10 × α11 × α12 × α13 × α14 × α15 × α16 × α17 × α18 × α19 × α20 × α21 × α22 × α23 × α24 × α25 × α26 × α27 × α28 × α29 × α30 × α31 × α32 := @Classical.epsilon _ i fun t => ¬ P (hd2 t) (hd2 (tl2 t)) (hd2 (tl2 (tl2 t))) (hd2 (tl2 (tl2 (tl2 t)))) (hd2 (tl2 (tl2 (tl2 (tl2 t))))) (hd2 (tl2 (tl2 (tl2 (tl2 (tl2 t)))))) (hd2 (tl2 (tl2 (tl2 (tl2 (tl2 (tl2 t))))))) (hd2 (tl2 (tl2 (tl2 (tl2 (tl2 (tl2 (tl2 t)))))))) (hd2 (tl2 (tl2 (tl2 (tl2 (tl2 (tl2 (tl2 (tl2 t))))))))) (hd2 (tl2 (tl2 (tl2 (tl2 (tl2 (tl2 (tl2 (tl2 (tl2 t)))))))))) (hd2 (tl2 (tl2 (tl2 (tl2 (tl2 (tl2 (tl2 (tl2 (tl2 (tl2 t))))))))))) (hd2 (tl2 (tl2 (tl2 (tl2 (tl2 (tl2 (tl2 (tl2 (tl2 (tl2 (tl2 t)))))))))))) (hd2 (tl2 (tl2 (tl2 (tl2 (tl2 (tl2 (tl2 (tl2 (tl2 (tl2 (tl2 (tl2 t))))))))))))) (hd2 (tl2 (tl2 (tl2 (tl2 (tl2 (tl2 (tl2 (tl2 (tl2 (tl2 (tl2 (tl2 (tl2 t)))))))))))))) (hd2 (tl2 (tl2 (tl2 (tl2 (tl2 (tl2 (tl2 (tl2 (tl2 (tl2 (tl2 (tl2 (tl2 (tl2 t))))))))))))))) (hd2 (tl2 (tl2 (tl2 (tl2 (tl2 (tl2 (tl2 (tl2 (tl2 (tl2 (tl2 (tl2 (tl2 (tl2 (tl2 t)))))))))))))))) (hd2 (tl2 (tl2 (tl2 (tl2 (tl2 (tl2 (tl2 (tl2 (tl2 (tl2 (tl2 (tl2 (tl2 (tl2 (tl2 (tl2 t))))))))))))))))) (hd2 (tl2 (tl2 (tl2 (tl2 (tl2 (tl2 (tl2 (tl2 (tl2 (tl2 (tl2 (tl2 (tl2 (tl2 (tl2 (tl2 (tl2 t)))))))))))))))))) (hd2 (tl2 (tl2 (tl2 (tl2 (tl2 (tl2 (tl2 (tl2 (tl2 (tl2 (tl2 (tl2 (tl2 (tl2 (tl2 (tl2 (tl2 (tl2 t))))))))))))))))))) (hd2 (tl2 (tl2 (tl2 (tl2 (tl2 (tl2 (tl2 (tl2 (tl2 (tl2 (tl2 (tl2 (tl2 (tl2 (tl2 (tl2 (tl2 (tl2 (tl2 t)))))))))))))))))))) (hd2 (tl2 (tl2 (tl2 (tl2 (tl2 (tl2 (tl2 (tl2 (tl2 (tl2 (tl2 (tl2 (tl2 (tl2 (tl2 (tl2 (tl2 (tl2 (tl2 (tl2 t))))))))))))))))))))) (hd2 (tl2 (tl2 (tl2 (tl2 (tl2 (tl2 (tl2 (tl2 (tl2 (tl2 (tl2 (tl2 (tl2 (tl2 (tl2 (tl2 (tl2 (tl2 (tl2 (tl2 (tl2 t)))))))))))))))))))))) (hd2 (tl2 (tl2 (tl2 (tl2 (tl2 (tl2 (tl2 (tl2 (tl2 (tl2 (tl2 (tl2 (tl2 (tl2 (tl2 (tl2 (tl2 (tl2 (tl2 (tl2 (tl2 (tl2 t))))))))))))))))))))))) (hd2 (tl2 (tl2 (tl2 (tl2 (tl2 (tl2 (tl2 (tl2 (tl2 (tl2 (tl2 (tl2 (tl2 (tl2 (tl2 (tl2 (tl2 (tl2 (tl2 (tl2 (tl2 (tl2 (tl2 t)))))))))))))))))))))))) (hd2 (tl2 (tl2 (tl2 (tl2 (tl2 (tl2 (tl2 (tl2 (tl2 (tl2 (tl2 (tl2 (tl2 (tl2 (tl2 (tl2 (tl2 (tl2 (tl2 (tl2 (tl2 (tl2 (tl2 (tl2 t))))))))))))))))))))))))) (hd2 (tl2 (tl2 (tl2 (tl2 (tl2 (tl2 (tl2 (tl2 (tl2 (tl2 (tl2 (tl2 (tl2 (tl2 (tl2 (tl2 (tl2 (tl2 (tl2 (tl2 (tl2 (tl2 (tl2 (tl2 (tl2 t)))))))))))))))))))))))))) (hd2 (tl2 (tl2 (tl2 (tl2 (tl2 (tl2 (tl2 (tl2 (tl2 (tl2 (tl2 (tl2 (tl2 (tl2 (tl2 (tl2 (tl2 (tl2 (tl2 (tl2 (tl2 (tl2 (tl2 (tl2 (tl2 (tl2 t))))))))))))))))))))))))))) (hd2 (tl2 (tl2 (tl2 (tl2 (tl2 (tl2 (tl2 (tl2 (tl2 (tl2 (tl2 (tl2 (tl2 (tl2 (tl2 (tl2 (tl2 (tl2 (tl2 (tl2 (tl2 (tl2 (tl2 (tl2 (tl2 (tl2 (tl2 t)))))))))))))))))))))))))))) (hd2 (tl2 (tl2 (tl2 (tl2 (tl2 (tl2 (tl2 (tl2 (tl2 (tl2 (tl2 (tl2 (tl2 (tl2 (tl2 (tl2 (tl2 (tl2 (tl2 (tl2 (tl2 (tl2 (tl2 (tl2 (tl2 (tl2 (tl2 (tl2 t))))))))))))))))))))))))))))) (hd2 (tl2 (tl2 (tl2 (tl2 (tl2 (tl2 (tl2 (tl2 (tl2 (tl2 (tl2 (tl2 (tl2 (tl2 (tl2 (tl2 (tl2 (tl2 (tl2 (tl2 (tl2 (tl2 (tl2 (tl2 (tl2 (tl2 (tl2 (tl2 (tl2 t)))))))))))))))))))))))))))))) (hd2 (tl2 (tl2 (tl2 (tl2 (tl2 (tl2 (tl2 (tl2 (tl2 (tl2 (tl2 (tl2 (tl2 (tl2 (tl2 (tl2 (tl2 (tl2 (tl2 (tl2 (tl2 (tl2 (tl2 (tl2 (tl2 (tl2 (tl2 (tl2 (tl2 (tl2 t))))))))))))))))))))))))))))))) (tl2 (tl2 (tl2 (tl2 (tl2 (tl2 (tl2 (tl2 (tl2 (tl2 (tl2 (tl2 (tl2 (tl2 (tl2 (tl2 (tl2 (tl2 (tl2 (tl2 (tl2 (tl2 (tl2 (tl2 (tl2 (tl2 (tl2 (tl2 (tl2 (tl2 (tl2 t)))))))))))))))))))))))))))))))
theorem pick32 {α1 α2 α3 α4 α5 α6 α7 α8 α9 α10 α11 α12 α13 α14 α15 α16 α17 α18 α19 α20 α21 α22 α23 α24 α25 α26 α27 α28 α29 α30 α31 α32 : Type} {P : α1 → α2 → α3 → α4 → α5 → α6 → α7 → α8 → α9 → α10 → α11 → α12 → α13 → α14 → α15 → α16 → α17 → α18 → α19 → α20 → α21 → α22 → α23 → α24 → α25 → α26 → α27 → α28 → α29 → α30 → α31 → α32 → Prop} (i : Nonempty (α1 × α2 × α3 × α4 × α5 × α6 × α7 × α8 × α9 × α10 × α11 × α12 × α13 × α14 × α15 × α16 × α17 × α18 × α19 × α20 × α21 × α22 × α23 × α24 × α25 × α26 × α27 × α28 × α29 × α30 × α31 × α32)) (h : P (hd2 (@ck32 α1 α2 α3 α4 α5 α6 α7 α8 α9 α10 α11 α12 α13 α14 α15 α16 α17 α18 α19 α20 α21 α22 α23 α24 α25 α26 α27 α28 α29 α30 α31 α32 i P)) (hd2 (tl2 (@ck32 α1 α2 α3 α4 α5 α6 α7 α8 α9 α10 α11 α12 α13 α14 α15 α16 α17 α18 α19 α20 α21 α22 α23 α24 α25 α26 α27 α28 α29 α30 α31 α32 i P))) (hd2 (tl2 (tl2 (@ck32 α1 α2 α3 α4 α5 α6 α7 α8 α9 α10 α11 α12 α13 α14 α15 α16 α17 α18 α19 α20 α21 α22 α23 α24 α25 α26 α27 α28 α29 α30 α31 α32 i P)))) (hd2 (tl2 (tl2 (tl2 (@ck32 α1 α2 α3 α4 α5 α6 α7 α8 α9 α10 α11 α12 α13 α14 α15 α16 α17 α18 α19 α20 α21 α22 α23 α24 α25 α26 α27 α28 α29 α30 α31 α32 i P))))) (hd2 (tl2 (tl2 (tl2 (tl2 (@ck32 α1 α2 α3 α4 α5 α6 α7 α8 α9 α10 α11 α12 α13 α14 α15 α16 α17 α18 α19 α20 α21 α22 α23 α24 α25 α26 α27 α28 α29 α30 α31 α32 i P)))))) (hd2 (tl2 (tl2 (tl2 (tl2 (tl2 (@ck32 α1 α2 α3 α4 α5 α6 α7 α8 α9 α10 α11 α12 α13 α14 α15 α16 α17 α18 α19 α20 α21 α22 α23 α24 α25 α26 α27 α28 α29 α30 α31 α32 i P))))))) (hd2 (tl2 (tl2 (tl2 (tl2 (tl2 (tl2 (@ck32 α1 α2 α3 α4 α5 α6 α7 α8 α9 α10 α11 α12 α13 α14 α15 α16 α17 α18 α19 α20 α21 α22 α23 α24 α25 α26 α27 α28 α29 α30 α31 α32 i P)))))))) (hd2 (tl2 (tl2 (tl2 (tl2 (tl2 (tl2 (tl2 (@ck32 α1 α2 α3 α4 α5 α6 α7 α8 α9 α10 α11 α12 α13 α14 α15 α16 α17 α18 α19 α20 α21 α22 α23 α24 α25 α26 α27 α28 α29 α30 α31 α32 i P))))))))) (hd2 (tl2 (tl2 (tl2 (tl2 (tl2 (tl2 (tl2 (tl2 (@ck32 α1 α2 α3 α4 α5 α6 α7 α8 α9 α10 α11 α12 α13 α14 α15 α16 α17 α18 α19 α20 α21 α22 α23 α24 α25 α26 α27 α28 α29 α30 α31 α32 i P)))))))))) (hd2 (tl2 (tl2 (tl2 (tl2 (tl2 (tl2 (tl2 (tl2 (tl2 (@ck32 α1 α2 α3 α4 α5 α6 α7 α8 α9 α10 α11 α12 α13 α14 α15 α16 α17 α18 α19 α20 α21 α22 α23 α24 α25 α26 α27 α28 α29 α30 α31 α32 i P))))))))))) (hd2 (tl2 (tl2 (tl2 (tl2 (tl2 (tl2 (tl2 (tl2 (tl2 (tl2 (@ck32 α1 α2 α3 α4 α5 α6 α7 α8 α9 α10 α11 α12 α13 α14 α15 α16 α17 α18 α19 α20 α21 α22 α23 α24 α25 α26 α27 α28 α29 α30 α31 α32 i P)))))))))))) (hd2 (tl2 (tl2 (tl2 (tl2 (tl2 (tl2 (tl2 (tl2 (tl2 (tl2 (tl2 (@ck32 α1 α2 α3 α4 α5 α6 α7 α8 α9 α10 α11 α12 α13 α14 α15 α16 α17 α18 α19 α20 α21 α22 α23 α24 α25 α26 α27 α28 α29 α30 α31 α32 i P))))))))))))) (hd2 (tl2 (tl2 (tl2 (tl2 (tl2 (tl2 (tl2 (tl2 (tl2 (tl2 (tl2 (tl2 (@ck32 α1 α2 α3 α4 α5 α6 α7 α8 α9 α10 α11 α12 α13 α14 α15 α16 α17 α18 α19 α20 α21 α22 α23 α24 α25 α26 α27 α28 α29 α30 α31 α32 i P)))))))))))))) (hd2 (tl2 (tl2 (tl2 (tl2 (tl2 (tl2 (tl2 (tl2 (tl2 (tl2 (tl2 (tl2 (tl2 (@ck32 α1 α2 α3 α4 α5 α6 α7 α8 α9 α10 α11 α12 α13 α14 α15 α16 α17 α18 α19 α20 α21 α22 α23 α24 α25 α26 α27 α28 α29 α30 α31 α32 i P))))))))))))))) (hd2 (tl2 (tl2 (tl2 (tl2 (tl2 (tl2 (tl2 (tl2 (tl2 (tl2 (tl2 (tl2 (tl2 (tl2 (@ck32 α1 α2 α3 α4 α5 α6 α7 α8 α9 α10 α11 α12 α13 α14 α15 α16 α17 α18 α19 α20 α21 α22 α23 α24 α25 α26 α27 α28 α29 α30 α31 α32 i P)))))))))))))))) (hd2 (tl2 (tl2 (tl2 (tl2 (tl2 (tl2 (tl2 (tl2 (tl2 (tl2 (tl2 (tl2 (tl2 (tl2 (tl2 (@ck32 α1 α2 α3 α4 α5 α6 α7 α8 α9 α10 α11 α12 α13 α14 α15 α16 α17 α18 α19 α20 α21 α22 α23 α24 α25 α26 α27 α28 α29 α30 α31 α32 i P))))))))))))))))) (hd2 (tl2 (tl2 (tl2 (tl2 (tl2 (tl2 (tl2 (tl2 (tl2 (tl2 (tl2 (tl2 (tl2 (tl2 (tl2 (tl2 (@ck32 α1 α2 α3 α4 α5 α6 α7 α8 α9 α10 α11 α12 α13 α14 α15 α16 α17 α18 α19 α20 α21 α22 α23 α24 α25 α26 α27 α28 α29 α30 α31 α32 i P)))))))))))))))))) (hd2 (tl2 (tl2 (tl2 (tl2 (tl2 (tl2 (tl2 (tl2 (tl2 (tl2 (tl2 (tl2 (tl2 (tl2 (tl2 (tl2 (tl2 (@ck32 α1 α2 α3 α4 α5 α6 α7 α8 α9 α10 α11 α12 α13 α14 α15 α16 α17 α18 α19 α20 α21 α22 α23 α24 α25 α26 α27 α28 α29 α30 α31 α32 i P))))))))))))))))))) (hd2 (tl2 (tl2 (tl2 (tl2 (tl2 (tl2 (tl2 (tl2 (tl2 (tl2 (tl2 (tl2 (tl2 (tl2 (tl2 (tl2 (tl2 (tl2 (@ck32 α1 α2 α3 α4 α5 α6 α7 α8 α9 α10 α11 α12 α13 α14 α15 α16 α17 α18 α19 α20 α21 α22 α23 α24 α25 α26 α27 α28 α29 α30 α31 α32 i P)))))))))))))))))))) (hd2 (tl2 (tl2 (tl2 (tl2 (tl2 (tl2 (tl2 (tl2 (tl2 (tl2 (tl2 (tl2 (tl2 (tl2 (tl2 (tl2 (tl2 (tl2 (tl2 (@ck32 α1 α2 α3 α4 α5 α6 α7 α8 α9 α10 α11 α12 α13 α14 α15 α16 α17 α18 α19 α20 α21 α22 α23 α24 α25 α26 α27 α28 α29 α30 α31 α32 i P))))))))))))))))))))) (hd2 (tl2 (tl2 (tl2 (tl2 (tl2 (tl2 (tl2 (tl2 (tl2 (tl2 (tl2 (tl2 (tl2 (tl2 (tl2 (tl2 (tl2 (tl2 (tl2 (tl2 (@ck32 α1 α2 α3 α4 α5 α6 α7 α8 α9 α10 α11 α12 α13 α14 α15 α16 α17 α18 α19 α20 α21 α22 α23 α24 α25 α26 α27 α28 α29 α30 α31 α32 i P)))))))))))))))))))))) (hd2 (tl2 (tl2 (tl2 (tl2 (tl2 (tl2 (tl2 (tl2 (tl2 (tl2 (tl2 (tl2 (tl2 (tl2 (tl2 (tl2 (tl2 (tl2 (tl2 (tl2 (tl2 (@ck32 α1 α2 α3 α4 α5 α6 α7 α8 α9 α10 α11 α12 α13 α14 α15 α16 α17 α18 α19 α20 α21 α22 α23 α24 α25 α26 α27 α28 α29 α30 α31 α32 i P))))))))))))))))))))))) (hd2 (tl2 (tl2 (tl2 (tl2 (tl2 (tl2 (tl2 (tl2 (tl2 (tl2 (tl2 (tl2 (tl2 (tl2 (tl2 (tl2 (tl2 (tl2 (tl2 (tl2 (tl2 (tl2 (@ck32 α1 α2 α3 α4 α5 α6 α7 α8 α9 α10 α11 α12 α13 α14 α15 α16 α17 α18 α19 α20 α21 α22 α23 α24 α25 α26 α27 α28 α29 α30 α31 α32 i P)))))))))))))))))))))))) (hd2 (tl2 (tl2 (tl2 (tl2 (tl2 (tl2 (tl2 (tl2 (tl2 (tl2 (tl2 (tl2 (tl2 (tl2 (tl2 (tl2 (tl2 (tl2 (tl2 (tl2 (tl2 (tl2 (tl2 (@ck32 α1 α2 α3 α4 α5 α6 α7 α8 α9 α10 α11 α12 α13 α14 α15 α16 α17 α18 α19 α20 α21 α22 α23 α24 α25 α26 α27 α28 α29 α30 α31 α32 i P))))))))))))))))))))))))) (hd2 (tl2 (tl2 (tl2 (tl2 (tl2 (tl2 (tl2 (tl2 (tl2 (tl2 (tl2 (tl2 (tl2 (tl2 (tl2 (tl2 (tl2 (tl2 (tl2 (tl2 (tl2 (tl2 (tl2 (tl2 (@ck32 α1 α2 α3 α4 α5 α6 α7 α8 α9 α10 α11 α12 α13 α14 α15 α16 α17 α18 α19 α20 α21 α22 α23 α24 α25 α26 α27 α28 α29 α30 α31 α32 i P)))))))))))))))))))))))))) (hd2 (tl2 (tl2 (tl2 (tl2 (tl2 (tl2 (tl2 (tl2 (tl2 (tl2 (tl2 (tl2 (tl2 (tl2 (tl2 (tl2 (tl2 (tl2 (tl2 (tl2 (tl2 (tl2 (tl2 (tl2 (tl2 (@ck32 α1 α2 α3 α4 α5 α6 α7 α8 α9 α10 α11 α12 α13 α14 α15 α16 α17 α18 α19 α20 α21 α22 α23 α24 α25 α26 α27 α28 α29 α30 α31 α32 i P))))))))))))))))))))))))))) (hd2 (tl2 (tl2 (tl2 (tl2 (tl2 (tl2 (tl2 (tl2 (tl2 (tl2 (tl2 (tl2 (tl2 (tl2 (tl2 (tl2 (tl2 (tl2 (tl2 (tl2 (tl2 (tl2 (tl2 (tl2 (tl2 (tl2 (@ck32 α1 α2 α3 α4 α5 α6 α7 α8 α9 α10 α11 α12 α13 α14 α15 α16 α17 α18 α19 α20 α21 α22 α23 α24 α25 α26 α27 α28 α29 α30 α31 α32 i P)))))))))))))))))))))))))))) (hd2 (tl2 (tl2 (tl2 (tl2 (tl2 (tl2 (tl2 (tl2 (tl2 (tl2 (tl2 (tl2 (tl2 (tl2 (tl2 (tl2 (tl2 (tl2 (tl2 (tl2 (tl2 (tl2 (tl2 (tl2 (tl2 (tl2 (tl2 (@ck32 α1 α2 α3 α4 α5 α6 α7 α8 α9 α10 α11 α12 α13 α14 α15 α16 α17 α18 α19 α20 α21 α22 α23 α24 α25 α26 α27 α28 α29 α30 α31 α32 i P))))))))))))))))))))))))))))) (hd2 (tl2 (tl2 (tl2 (tl2 (tl2 (tl2 (tl2 (tl2 (tl2 (tl2 (tl2 (tl2 (tl2 (tl2 (tl2 (tl2 (tl2 (tl2 (tl2 (tl2 (tl2 (tl2 (tl2 (tl2 (tl2 (tl2 (tl2 (tl2 (@ck32 α1 α2 α3 α4 α5 α6 α7 α8 α9 α10 α11 α12 α13 α14 α15 α16 α17 α18 α19 α20 α21 α22 α23 α24 α25 α26 α27 α28 α29 α30 α31 α32 i P)))))))))))))))))))))))))))))) (hd2 (tl2 (tl2 (tl2 (tl2 (tl2 (tl2 (tl2 (tl2 (tl2 (tl2 (tl2 (tl2 (tl2 (tl2 (tl2 (tl2 (tl2 (tl2 (tl2 (tl2 (tl2 (tl2 (tl2 (tl2 (tl2 (tl2 (tl2 (tl2 (tl2 (@ck32 α1 α2 α3 α4 α5 α6 α7 α8 α9 α10 α11 α12 α13 α14 α15 α16 α17 α18 α19 α20 α21 α22 α23 α24 α25 α26 α27 α28 α29 α30 α31 α32 i P))))))))))))))))))))))))))))))) (hd2 (tl2 (tl2 (tl2 (tl2 (tl2 (tl2 (tl2 (tl2 (tl2 (tl2 (tl2 (tl2 (tl2 (tl2 (tl2 (tl2 (tl2 (tl2 (tl2 (tl2 (tl2 (tl2 (tl2 (tl2 (tl2 (tl2 (tl2 (tl2 (tl2 (tl2 (@ck32 α1 α2 α3 α4 α5 α6 α7 α8 α9 α10 α11 α12 α13 α14 α15 α16 α17 α18 α19 α20 α21 α22 α23 α24 α25 α26 α27 α28 α29 α30 α31 α32 i P)))))))))))))))))))))))))))))))) (tl2 (tl2 (tl2 (tl2 (tl2 (tl2 (tl2 (tl2 (tl2 (tl2 (tl2 (tl2 (tl2 (tl2 (tl2 (tl2 (tl2 (tl2 (tl2 (tl2 (tl2 (tl2 (tl2 (tl2 (tl2 (tl2 (tl2 (tl2 (tl2 (tl2 (tl2 (@ck32 α1 α2 α3 α4 α5 α6 α7 α8 α9 α10 α11 α12 α13 α14 α15 α16 α17 α18 α19 α20 α21 α22 α23 α24 α25 α26 α27 α28 α29 α30 α31 α32 i P))))))))))))))))))))))))))))))))) : ∀ x1 x2 x3 x4 x5 x6 x7 x8 x9 x10 x11 x12 x13 x14 x15 x16 x17 x18 x19 x20 x21 x22 x23 x24 x25 x26 x27 x28 x29 x30 x31 x32, P x1 x2 x3 x4 x5 x6 x7 x8 x9 x10 x11 x12 x13 x14 x15 x16 x17 x18 x19 x20 x21 x22 x23 x24 x25 x26 x27 x28 x29 x30 x31 x32 := fun x1 x2 x3 x4 x5 x6 x7 x8 x9 x10 x11 x12 x13 x14 x15 x16 x17 x18 x19 x20 x21 x22 x23 x24 x25 x26 x27 x28 x29 x30 x31 x32 => Classical.byContradiction fun hn => @Classical.epsilon_spec _ (fun t => ¬ P (hd2 t) (hd2 (tl2 t)) (hd2 (tl2 (tl2 t))) (hd2 (tl2 (tl2 (tl2 t)))) (hd2 (tl2 (tl2 (tl2 (tl2 t))))) (hd2 (tl2 (tl2 (tl2 (tl2 (tl2 t)))))) (hd2 (tl2 (tl2 (tl2 (tl2 (tl2 (tl2 t))))))) (hd2 (tl2 (tl2 (tl2 (tl2 (tl2 (tl2 (tl2 t)))))))) (hd2 (tl2 (tl2 (tl2 (tl2 (tl2 (tl2 (tl2 (tl2 t))))))))) (hd2 (tl2 (tl2 (tl2 (tl2 (tl2 (tl2 (tl2 (tl2 (tl2 t)))))))))) (hd2 (tl2 (tl2 (tl2 (tl2 (tl2 (tl2 (tl2 (tl2 (tl2 (tl2 t))))))))))) (hd2 (tl2 (tl2 (tl2 (tl2 (tl2 (tl2 (tl2 (tl2 (tl2 (tl2 (tl2 t)))))))))))) (hd2 (tl2 (tl2 (tl2 (tl2 (tl2 (tl2 (tl2 (tl2 (tl2 (tl2 (tl2 (tl2 t))))))))))))) (hd2 (tl2 (tl2 (tl2 (tl2 (tl2 (tl2 (tl2 (tl2 (tl2 (tl2 (tl2 (tl2 (tl2 t)))))))))))))) (hd2 (tl2 (tl2 (tl2 (tl2 (tl2 (tl2 (tl2 (tl2 (tl2 (tl2 (tl2 (tl2 (tl2 (tl2 t))))))))))))))) (hd2 (tl2 (tl2 (tl2 (tl2 (tl2 (tl2 (tl2 (tl2 (tl2 (tl2 (tl2 (tl2 (tl2 (tl2 (tl2 t)))))))))))))))) (hd2 (tl2 (tl2 (tl2 (tl2 (tl2 (tl2 (tl2 (tl2 (tl2 (tl2 (tl2 (tl2 (tl2 (tl2 (tl2 (tl2 t))))))))))))))))) (hd2 (tl2 (tl2 (tl2 (tl2 (tl2 (tl2 (tl2 (tl2 (tl2 (tl2 (tl2 (tl2 (tl2 (tl2 (tl2 (tl2 (tl2 t)))))))))))))))))) (hd2 (tl2 (tl2 (tl2 (tl2 (tl2 (tl2 (tl2 (tl2 (tl2 (tl2 (tl2 (tl2 (tl2 (tl2 (tl2 (tl2 (tl2 (tl2 t))))))))))))))))))) (hd2 (tl2 (tl2 (tl2 (tl2 (tl2 (tl2 (tl2 (tl2 (tl2 (tl2 (tl2 (tl2 (tl2 (tl2 (tl2 (tl2 (tl2 (tl2 (tl2 t)))))))))))))))))))) (hd2 (tl2 (tl2 (tl2 (tl2 (tl2 (tl2 (tl2 (tl2 (tl2 (tl2 (tl2 (tl2 (tl2 (tl2 (tl2 (tl2 (tl2 (tl2 (tl2 (tl2 t))))))))))))))))))))) (hd2 (tl2 (tl2 (tl2 (tl2 (tl2 (tl2 (tl2 (tl2 (tl2 (tl2 (tl2 (tl2 (tl2 (tl2 (tl2 (tl2 (tl2 (tl2 (tl2 (tl2 (tl2 t)))))))))))))))))))))) (hd2 (tl2 (tl2 (tl2 (tl2 (tl2 (tl2 (tl2 (tl2 (tl2 (tl2 (tl2 (tl2 (tl2 (tl2 (tl2 (tl2 (tl2 (tl2 (tl2 (tl2 (tl2 (tl2 t))))))))))))))))))))))) (hd2 (tl2 (tl2 (tl2 (tl2 (tl2 (tl2 (tl2 (tl2 (tl2 (tl2 (tl2 (tl2 (tl2 (tl2 (tl2 (tl2 (tl2 (tl2 (tl2 (tl2 (tl2 (tl2 (tl2 t)))))))))))))))))))))))) (hd2 (tl2 (tl2 (tl2 (tl2 (tl2 (tl2 (tl2 (tl2 (tl2 (tl2 (tl2 (tl2 (tl2 (tl2 (tl2 (tl2 (tl2 (tl2 (tl2 (tl2 (tl2 (tl2 (tl2 (tl2 t))))))))))))))))))))))))) (hd2 (tl2 (tl2 (tl2 (tl2 (tl2 (tl2 (tl2 (tl2 (tl2 (tl2 (tl2 (tl2 (tl2 (tl2 (tl2 (tl2 (tl2 (tl2 (tl2 (tl2 (tl2 (tl2 (tl2 (tl2 (tl2 t)))))))))))))))))))))))))) (hd2 (tl2 (tl2 (tl2 (tl2 (tl2 (tl2 (tl2 (tl2 (tl2 (tl2 (tl2 (tl2 (tl2 (tl2 (tl2 (tl2 (tl2 (tl2 (tl2 (tl2 (tl2 (tl2 (tl2 (tl2 (tl2 (tl2 t))))))))))))))))))))))))))) (hd2 (tl2 (tl2 (tl2 (tl2 (tl2 (tl2 (tl2 (tl2 (tl2 (tl2 (tl2 (tl2 (tl2 (tl2 (tl2 (tl2 (tl2 (tl2 (tl2 (tl2 (tl2 (tl2 (tl2 (tl2 (tl2 (tl2 (tl2 t)))))))))))))))))))))))))))) (hd2 (tl2 (tl2 (tl2 (tl2 (tl2 (tl2 (tl2 (tl2 (tl2 (tl2 (tl2 (tl2 (tl2 (tl2 (tl2 (tl2 (tl2 (tl2 (tl2 (tl2 (tl2 (tl2 (tl2 (tl2 (tl2 (tl2 (tl2 (tl2 t))))))))))))))))))))))))))))) (hd2 (tl2 (tl2 (tl2 (tl2 (tl2 (tl2 (tl2 (tl2 (tl2 (tl2 (tl2 (tl2 (tl2 (tl2 (tl2 (tl2 (tl2 (tl2 (tl2 (tl2 (tl2 (tl2 (tl2 (tl2 (tl2 (tl2 (tl2 (tl2 (tl2 t)))))))))))))))))))))))))))))) (hd2 (tl2 (tl2 (tl2 (tl2 (tl2 (tl2 (tl2 (tl2 (tl2 (tl2 (tl2 (tl2 (tl2 (tl2 (tl2 (tl2 (tl2 (tl2 (tl2 (tl2 (tl2 (tl2 (tl2 (tl2 (tl2 (tl2 (tl2 (tl2 (tl2 (tl2 t))))))))))))))))))))))))))))))) (tl2 (tl2 (tl2 (tl2 (tl2 (tl2 (tl2 (tl2 (tl2 (tl2 (tl2 (tl2 (tl2 (tl2 (tl2 (tl2 (tl2 (tl2 (tl2 (tl2 (tl2 (tl2 (tl2 (tl2 (tl2 (tl2 (tl2 (tl2 (tl2 (tl2 (tl2 t)))))))))))))))))))))))))))))))) ⟨(x1, x2, x3, x4, x5, x6, x7, x8, x9, x10, x11, x12, x13, x14, x15, x16, x17, x18, x19, x20, x21, x22, x23, x24, x25, x26, x27, x28, x29, x30, x31, x32), hn⟩ h
noncomputable def ck38 {α1 α2 α3 α4 α5 α6 α7 α8 α9 α10 α11 α12 α13 α14 α15 α16 α17 α18 α19 α20 α21 α22 α23 α24 α25 α26 α27 α28 α29 α30 α31 α32 α33 α34 α35 α36 α37 α38 : Type} {i : Nonempty (α1 × α2 × α3 × α4 × α5 × α6 × α7 × α8 × α9 × α10 × α11 × α12 × α13 × α14 × α15 × α16 × α17 × α18 × α19 × α20 × α21 × α22 × α23 × α24 × α25 × α26 × α27 × α28 × α29 × α30 × α31 × α32 × α33 × α34 × α35 × α36 × α37 × α38)} (P : α1 → α2 → α3 → α4 → α5 → α6 → α7 → α8 → α9 → α10 → α11 → α12 → α13 → α14 → α15 → α16 → α17 → α18 → α19 → α20 → α21 → α22 → α23 → α24 → α25 → α26 → α27 → α28 → α29 → α30 → α31 → α32 → α33 → α34 → α35 → α36 → α37 → α38 → Prop) : α1 × α2 × α3 × α4 × α5 × α6 × α7 × α8 × α9 × α10 × α11 × α12 × α13 × α14 × α15 × α16 × α17 × α18 × α19 × α20 × α21 × α22 × α23 × α24 × α25 × α26 × α27 × α28 × α29 × α30 × α31 × α32 × α33 × α34 × α35 × α36 × α37 × α38 := @Classical.epsilon _ i fun t => ¬ P (hd2 t) (hd2 (tl2 t)) (hd2 (tl2 (tl2 t))) (hd2 (tl2 (tl2 (tl2 t)))) (hd2 (tl2 (tl2 (tl2 (tl2 t))))) (hd2 (tl2 (tl2 (tl2 (tl2 (tl2 t)))))) (hd2 (tl2 (tl2 (tl2 (tl2 (tl2 (tl2 t))))))) (hd2 (tl2 (tl2 (tl2 (tl2 (tl2 (tl2 (tl2 t)))))))) (hd2 (tl2 (tl2 (tl2 (tl2 (tl2 (tl2 (tl2 (tl2 t))))))))) (hd2 (tl2 (tl2 (tl2 (tl2 (tl2 (tl2 (tl2 (tl2 (tl2 t)))))))))) (hd2 (tl2 (tl2 (tl2 (tl2 (tl2 (tl2 (tl2 (tl2 (tl2 (tl2 t))))))))))) (hd2 (tl2 (tl2 (tl2 (tl2 (tl2 (tl2 (tl2 (tl2 (tl2 (tl2 (tl2 t)))))))))))) (hd2 (tl2 (tl2 (tl2 (tl2 (tl2 (tl2 (tl2 (tl2 (tl2 (tl2 (tl2 (tl2 t))))))))))))) (hd2 (tl2 (tl2 (tl2 (tl2 (tl2 (tl2 (tl2 (tl2 (tl2 (tl2 (tl2 (tl2 (tl2 t)))))))))))))) (hd2 (tl2 (tl2 (tl2 (tl2 (tl2 (tl2 (tl2 (tl2 (tl2 (tl2 (tl2 (tl2 (tl2 (tl2 t))))))))))))))) (hd2 (tl2 (tl2 (tl2 (tl2 (tl2 (tl2 (tl2 (tl2 (tl2 (tl2 (tl2 (tl2 (tl2 (tl2 (tl2 t)))))))))))))))) (hd2 (tl2 (tl2 (tl2 (tl2 (tl2 (tl2 (tl2 (tl2 (tl2 (tl2 (tl2 (tl2 (tl2 (tl2 (tl2 (tl2 t))))))))))))))))) (hd2 (tl2 (tl2 (tl2 (tl2 (tl2 (tl2 (tl2 (tl2 (tl2 (tl2 (tl2 (tl2 (tl2 (tl2 (tl2 (tl2 (tl2 t)))))))))))))))))) (hd2 (tl2 (tl2 (tl2 (tl2 (tl2 (tl2 (tl2 (tl2 (tl2 (tl2 (tl2 (tl2 (tl2 (tl2 (tl2 (tl2 (tl2 (tl2 t))))))))))))))))))) (hd2 (tl2 (tl2 (tl2 (tl2 (tl2 (tl2 (tl2 (tl2 (tl2 (tl2 (tl2 (tl2 (tl2 (tl2 (tl2 (tl2 (tl2 (tl2 (tl2 t)))))))))))))))))))) (hd2 (tl2 (tl2 (tl2 (tl2 (tl2 (tl2 (tl2 (tl2 (tl2 (tl2 (tl2 (tl2 (tl2 (tl2 (tl2 (tl2 (tl2 (tl2 (tl2 (tl2 t))))))))))))))))))))) (hd2 (tl2 (tl2 (tl2 (tl2 (tl2 (tl2 (tl2 (tl2 (tl2 (tl2 (tl2 (tl2 (tl2 (tl2 (tl2 (tl2 (tl2 (tl2 (tl2 (tl2 (tl2 t)))))))))))))))))))))) (hd2 (tl2 (tl2 (tl2 (tl2 (tl2 (tl2 (tl2 (tl2 (tl2 (tl2 (tl2 (tl2 (tl2 (tl2 (tl2 (tl2 (tl2 (tl2 (tl2 (tl2 (tl2 (tl2 t))))))))))))))))))))))) (hd2 (tl2 (tl2 (tl2 (tl2 (tl2 (tl2 (tl2 (tl2 (tl2 (tl2 (tl2 (tl2 (tl2 (tl2 (tl2 (tl2 (tl2 (tl2 (tl2 (tl2 (tl2 (tl2 (tl2 t)))))))))))))))))))))))) (hd2 (tl2 (tl2 (tl2 (tl2 (tl2 (tl2 (tl2 (tl2 (tl2 (tl2 (tl2 (tl2 (tl2 (tl2 (tl2 (tl2 (tl2 (tl2 (tl2 (tl2 (tl2 (tl2 (tl2 (tl2 t))))))))))))))))))))))))) (hd2 (tl2 (tl2 (tl2 (tl2 (tl2 (tl2 (tl2 (tl2 (tl2 (tl2 (tl2 (tl2 (tl2 (tl2 (tl2 (tl2 (tl2 (tl2 (tl2 (tl2 (tl2 (tl2 (tl2 (tl2 (tl2 t)))))))))))))))))))))))))) (hd2 (tl2 (tl2 (tl2 (tl2 (tl2 (tl2 (tl2 (tl2 (tl2 (tl2 (tl2 (tl2 (tl2 (tl2 (tl2 (tl2 (tl2 (tl2 (tl2 (tl2 (tl2 (tl2 (tl2 (tl2 (tl2 (tl2 t))))))))))))))))))))))))))) (hd2 (tl2 (tl2 (tl2 (tl2 (tl2 (tl2 (tl2 (tl2 (tl2 (tl2 (tl2 (tl2 (tl2 (tl2 (tl2 (tl2 (tl2 (tl2 (tl2 (tl2 (tl2 (tl2 (tl2 (tl2 (tl2 (tl2 (tl2 t)))))))))))))))))))))))))))) (hd2 (tl2 (tl2 (tl2 (tl2 (tl2 (tl2 (tl2 (tl2 (tl2 (tl2 (tl2 (tl2 (tl2 (tl2 (tl2 (tl2 (tl2 (tl2 (tl2 (tl2 (tl2 (tl2 (tl2 (tl2 (tl2 (tl2 (tl2 (tl2 t))))))))))))))))))))))))))))) (hd2 (tl2 (tl2 (tl2 (tl2 (tl2 (tl2 (tl2 (tl2 (tl2 (tl2 (tl2 (tl2 (tl2 (tl2 (tl2 (tl2 (tl2 (tl2 (tl2 (tl2 (tl2 (tl2 (tl2 (tl2 (tl2 (tl2 (tl2 (tl2 (tl2 t)))))))))))))))))))))))))))))) (hd2 (tl2 (tl2 (tl2 (tl2 (tl2 (tl2 (tl2 (tl2 (tl2 (tl2 (tl2 (tl2 (tl2 (tl2 (tl2 (tl2 (tl2 (tl2 (tl2 (tl2 (tl2 (tl2 (tl2 (tl2 (tl2 (tl2 (tl2 (tl2 (tl2 (tl2 t))))))))))))))))))))))))))))))) (hd2 (tl2 (tl2 (tl2 (tl2 (tl2 (tl2 (tl2 (tl2 (tl2 (tl2 (tl2 (tl2 (tl2 (tl2 (tl2 (tl2 (tl2 (tl2 (tl2 (tl2 (tl2 (tl2 (tl2 (tl2 (tl2 (tl2 (tl2 (tl2 (tl2 (tl2 (tl2 t)))))))))))))))))))))))))))))))) (hd2 (tl2 (tl2 (tl2 (tl2 (tl2 (tl2 (tl2 (tl2 (tl2 (tl2 (tl2 (tl2 (tl2 (tl2 (tl2 (tl2 (tl2 (tl2 (tl2 (tl2 (tl2 (tl2 (tl2 (tl2 (tl2 (tl2 (tl2 (tl2 (tl2 (tl2 (tl2 (tl2 t))))))))))))))))))))))))))))))))) (hd2 (tl2 (tl2 (tl2 (tl2 (tl2 (tl2 (tl2 (tl2 (tl2 (tl2 (tl2 (tl2 (tl2 (tl2 (tl2 (tl2 (tl2 (tl2 (tl2 (tl2 (tl2 (tl2 (tl2 (tl2 (tl2 (tl2 (tl2 (tl2 (tl2 (tl2 (tl2 (tl2 (tl2 t)))))))))))))))))))))))))))))))))) (hd2 (tl2 (tl2 (tl2 (tl2 (tl2 (tl2 (tl2 (tl2 (tl2 (tl2 (tl2 (tl2 (tl2 (tl2 (tl2 (tl2 (tl2 (tl2 (tl2 (tl2 (tl2 (tl2 (tl2 (tl2 (tl2 (tl2 (tl2 (tl2 (tl2 (tl2 (tl2 (tl2 (tl2 (tl2 t))))))))))))))))))))))))))))))))))) (hd2 (tl2 (tl2 (tl2 (tl2 (tl2 (tl2 (tl2 (tl2 (tl2 (tl2 (tl2 (tl2 (tl2 (tl2 (tl2 (tl2 (tl2 (tl2 (tl2 (tl2 (tl2 (tl2 (tl2 (tl2 (tl2 (tl2 (tl2 (tl2 (tl2 (tl2 (tl2 (tl2 (tl2 (tl2 (tl2 t)))))))))))))))))))))))))))))))))))) (hd2 (tl2 (tl2 (tl2 (tl2 (tl2 (tl2 (tl2 (tl2 (tl2 (tl2 (tl2 (tl2 (tl2 (tl2 (tl2 (tl2 (tl2 (tl2 (tl2 (tl2 (tl2 (tl2 (tl2 (tl2 (tl2 (tl2 (tl2 (tl2 (tl2 (tl2 (tl2 (tl2 (tl2 (tl2 (tl2 (tl2 t))))))))))))))))))))))))))))))))))))) (tl2 (tl2 (tl2 (tl2 (tl2 (tl2 (tl2 (tl2 (tl2 (tl2 (tl2 (tl2 (tl2 (tl2 (tl2 (tl2 (tl2 (tl2 (tl2 (tl2 (tl2 (tl2 (tl2 (tl2 (tl2 (tl2 (tl2 (tl2 (tl2 (tl2 (tl2 (tl2 (tl2 (tl2 (tl2 (tl2 (tl2 t)))))))))))))))))))))))))))))))))))))
theorem pick38 {α1 α2 α3 α4 α5 α6 α7 α8 α9 α10 α11 α12 α13 α14 α15 α16 α17 α18 α19 α20 α21 α22 α23 α24 α25 α26 α27 α28 α29 α30 α31 α32 α33 α34 α35 α36 α37 α38 : Type} {P : α1 → α2 → α3 → α4 → α5 → α6 → α7 → α8 → α9 → α10 → α11 → α12 → α13 → α14 → α15 → α16 → α17 → α18 → α19 → α20 → α21 → α22 → α23 → α24 → α25 → α26 → α27 → α28 → α29 → α30 → α31 → α32 → α33 → α34 → α35 → α36 → α37 → α38 → Prop} (i : Nonempty (α1 × α2 × α3 × α4 × α5 × α6 × α7 × α8 × α9 × α10 × α11 × α12 × α13 × α14 × α15 × α16 × α17 × α18 × α19 × α20 × α21 × α22 × α23 × α24 × α25 × α26 × α27 × α28 × α29 × α30 × α31 × α32 × α33 × α34 × α35 × α36 × α37 × α38)) (h : P (hd2 (@ck38 α1 α2 α3 α4 α5 α6 α7 α8 α9 α10 α11 α12 α13 α14 α15 α16 α17 α18 α19 α20 α21 α22 α23 α24 α25 α26 α27 α28 α29 α30 α31 α32 α33 α34 α35 α36 α37 α38 i P)) (hd2 (tl2 (@ck38 α1 α2 α3 α4 α5 α6 α7 α8 α9 α10 α11 α12 α13 α14 α15 α16 α17 α18 α19 α20 α21 α22 α23 α24 α25 α26 α27 α28 α29 α30 α31 α32 α33 α34 α35 α36 α37 α38 i P))) (hd2 (tl2 (tl2 (@ck38 α1 α2 α3 α4 α5 α6 α7 α8 α9 α10 α11 α12 α13 α14 α15 α16 α17 α18 α19 α20 α21 α22 α23 α24 α25 α26 α27 α28 α29 α30 α31 α32 α33 α34 α35 α36 α37 α38 i P)))) (hd2 (tl2 (tl2 (tl2 (@ck38 α1 α2 α3 α4 α5 α6 α7 α8 α9 α10 α11 α12 α13 α14 α15 α16 α17 α18 α19 α20 α21 α22 α23 α24 α25 α26 α27 α28 α29 α30 α31 α32 α33 α34 α35 α36 α37 α38 i P))))) (hd2 (tl2 (tl2 (tl2 (tl2 (@ck38 α1 α2 α3 α4 α5 α6 α7 α8 α9 α10 α11 α12 α13 α14 α15 α16 α17 α18 α19 α20 α21 α22 α23 α24 α25 α26 α27 α28 α29 α30 α31 α32 α33 α34 α35 α36 α37 α38 i P)))))) (hd2 (tl2 (tl2 (tl2 (tl2 (tl2 (@ck38 α1 α2 α3 α4 α5 α6 α7 α8 α9 α10 α11 α12 α13 α14 α15 α16 α17 α18 α19 α20 α21 α22 α23 α24 α25 α26 α27 α28 α29 α30 α31 α32 α33 α34 α35 α36 α37 α38 i P))))))) (hd2 (tl2 (tl2 (tl2 (tl2 (tl2 (tl2 (@ck38 α1 α2 α3 α4 α5 α6 α7 α8 α9 α10 α11 α12 α13 α14 α15 α16 α17 α18 α19 α20 α21 α22 α23 α24 α25 α26 α27 α28 α29 α30 α31 α32 α33 α34 α35 α36 α37 α38 i P)))))))) (hd2 (tl2 (tl2 (tl2 (tl2 (tl2 (tl2 (tl2 (@ck38 α1 α2 α3 α4 α5 α6 α7 α8 α9 α10 α11 α12 α13 α14 α15 α16 α17 α18 α19 α20 α21 α22 α23 α24 α25 α26 α27 α28 α29 α30 α31 α32 α33 α34 α35 α36 α37 α38 i P))))))))) (hd2 (tl2 (tl2 (tl2 (tl2 (tl2 (tl2 (tl2 (tl2 (@ck38 α1 α2 α3 α4 α5 α6 α7 α8 α9 α10 α11 α12 α13 α14 α15 α16 α17 α18 α19 α20 α21 α22 α23 α24 α25 α26 α27 α28 α29 α30 α31 α32 α33 α34 α35 α36 α37 α38 i P)))))))))) (hd2 (tl2 (tl2 (tl2 (tl2 (tl2 (tl2 (tl2 (tl2 (tl2 (@ck38 α1 α2 α3 α4 α5 α6 α7 α8 α9 α10 α11 α12 α13 α14 α15 α16 α17 α18 α19 α20 α21 α22 α23 α24 α25 α26 α27 α28 α29 α30 α31 α32 α33 α34 α35 α36 α37 α38 i P))))))))))) (hd2 (tl2 (tl2 (tl2 (tl2 (tl2 (tl2 (tl2 (tl2 (tl2 (tl2 (@ck38 α1 α2 α3 α4 α5 α6 α7 α8 α9 α10 α11 α12 α13 α14 α15 α16 α17 α18 α19 α20 α21 α22 α23 α24 α25 α26 α27 α28 α29 α30 α31 α32 α33 α34 α35 α36 α37 α38 i P)))))))))))) (hd2 (tl2 (tl2 (tl2 (tl2 (tl2 (tl2 (tl2 (tl2 (tl2 (tl2 (tl2 (@ck38 α1 α2 α3 α4 α5 α6 α7 α8 α9 α10 α11 α12 α13 α14 α15 α16 α17 α18 α19 α20 α21 α22 α23 α24 α25 α26 α27 α28 α29 α30 α31 α32 α33 α34 α35 α36 α37 α38 i P))))))))))))) (hd2 (tl2 (tl2 (tl2 (tl2 (tl2 (tl2 (tl2 (tl2 (tl2 (tl2 (tl2 (tl2 (@ck38 α1 α2 α3 α4 α5 α6 α7 α8 α9 α10 α11 α12 α13 α14 α15 α16 α17 α18 α19 α20 α21 α22 α23 α24 α25 α26 α27 α28 α29 α30 α31 α32 α33 α34 α35 α36 α37 α38 i P)))))))))))))) (hd2 (tl2 (tl2 (tl2 (tl2 (tl2 (tl2 (tl2 (tl2 (tl2 (tl2 (tl2 (tl2 (tl2 (@ck38 α1 α2 α3 α4 α5 α6 α7 α8 α9 α10 α11 α12 α13 α14 α15 α16 α17 α18 α19 α20 α21 α22 α23 α24 α25 α26 α27 α28 α29 α30 α31 α32 α33 α34 α35 α36 α37 α38 i P))))))))))))))) (hd2 (tl2 (tl2 (tl2 (tl2 (tl2 (tl2 (tl2 (tl2 (tl2 (tl2 (tl2 (tl2 (tl2 (tl2 (@ck38 α1 α2 α3 α4 α5 α6 α7 α8 α9 α10 α11 α12 α13 α14 α15 α16 α17 α18 α19 α20 α21 α22 α23 α24 α25 α26 α27 α28 α29 α30 α31 α32 α33 α34 α35 α36 α37 α38 i P)))))))))))))))) (hd2 (tl2 (tl2 (tl2 (tl2 (tl2 (tl2 (tl2 (tl2 (tl2 (tl2 (tl2 (tl2 (tl2 (tl2 (tl2 (@ck38 α1 α2 α3 α4 α5 α6 α7 α8 α9 α10 α11 α12 α13 α14 α15 α16 α17 α18 α19 α20 α21 α22 α23 α24 α25 α26 α27 α28 α29 α30 α31 α32 α33 α34 α35 α36 α37 α38 i P))))))))))))))))) (hd2 (tl2 (tl2 (tl2 (tl2 (tl2 (tl2 (tl2 (tl2 (tl2 (tl2 (tl2 (tl2 (tl2 (tl2 (tl2 (tl2 (@ck38 α1 α2 α3 α4 α5 α6 α7 α8 α9 α10 α11 α12 α13 α14 α15 α16 α17 α18 α19 α20 α21 α22 α23 α24 α25 α26 α27 α28 α29 α30 α31 α32 α33 α34 α35 α36 α37 α38 i P)))))))))))))))))) (hd2 (tl2 (tl2 (tl2 (tl2 (tl2 (tl2 (tl2 (tl2 (tl2 (tl2 (tl2 (tl2 (tl2 (tl2 (tl2 (tl2 (tl2 (@ck38 α1 α2 α3 α4 α5 α6 α7 α8 α9 α10 α11 α12 α13 α14 α15 α16 α17 α18 α19 α20 α21 α22 α23 α24 α25 α26 α27 α28 α29 α30 α31 α32 α33 α34 α35 α36 α37 α38 i P))))))))))))))))))) (hd2 (tl2 (tl2 (tl2 (tl2 (tl2 (tl2 (tl2 (tl2 (tl2 (tl2 (tl2 (tl2 (tl2 (tl2 (tl2 (tl2 (tl2 (tl2 (@ck38 α1 α2 α3 α4 α5 α6 α7 α8 α9 α10 α11 α12 α13 α14 α15 α16 α17 α18 α19 α20 α21 α22 α23 α24 α25 α26 α27 α28 α29 α30 α31 α32 α33 α34 α35 α36 α37 α38 i P)))))))))))))))))))) (hd2 (tl2 (tl2 (tl2 (tl2 (tl2 (tl2 (tl2 (tl2 (tl2 (tl2 (tl2 (tl2 (tl2 (tl2 (tl2 (tl2 (tl2 (tl2 (tl2 (@ck38 α1 α2 α3 α4 α5 α6 α7 α8 α9 α10 α11 α12 α13 α14 α15 α16 α17 α18 α19 α20 α21 α22 α23 α24 α25 α26 α27 α28 α29 α30 α31 α32 α33 α34 α35 α36 α37 α38 i P))))))))))))))))))))) (hd2 (tl2 (tl2 (tl2 (tl2 (tl2 (tl2 (tl2 (tl2 (tl2 (tl2 (tl2 (tl2 (tl2 (tl2 (tl2 (tl2 (tl2 (tl2 (tl2 (tl2 (@ck38 α1 α2 α3 α4 α5 α6 α7 α8 α9 α10 α11 α12 α13 α14 α15 α16 α17 α18 α19 α20 α21 α22 α23 α24 α25 α26 α27 α28 α29 α30 α31 α32 α33 α34 α35 α36 α37 α38 i P)))))))))))))))))))))) (hd2 (tl2 (tl2 (tl2 (tl2 (tl2 (tl2 (tl2 (tl2 (tl2 (tl2 (tl2 (tl2 (tl2 (tl2 (tl2 (tl2 (tl2 (tl2 (tl2 (tl2 (tl2 (@ck38 α1 α2 α3 α4 α5 α6 α7 α8 α9 α10 α11 α12 α13 α14 α15 α16 α17 α18 α19 α20 α21 α22 α23 α24 α25 α26 α27 α28 α29 α30 α31 α32 α33 α34 α35 α36 α37 α38 i P))))))))))))))))))))))) (hd2 (tl2 (tl2 (tl2 (tl2 (tl2 (tl2 (tl2 (tl2 (tl2 (tl2 (tl2 (tl2 (tl2 (tl2 (tl2 (tl2 (tl2 (tl2 (tl2 (tl2 (tl2 (tl2 (@ck38 α1 α2 α3 α4 α5 α6 α7 α8 α9 α10 α11 α12 α13 α14 α15 α16 α17 α18 α19 α20 α21 α22 α23 α24 α25 α26 α27 α28 α29 α30 α31 α32 α33 α34 α35 α36 α37 α38 i P)))))))))))))))))))))))) (hd2 (tl2 (tl2 (tl2 (tl2 (tl2 (tl2 (tl2 (tl2 (tl2 (tl2 (tl2 (tl2 (tl2 (tl2 (tl2 (tl2 (tl2 (tl2 (tl2 (tl2 (tl2 (tl2 (tl2 (@ck38 α1 α2 α3 α4 α5 α6 α7 α8 α9 α10 α11 α12 α13 α14 α15 α16 α17 α18 α19 α20 α21 α22 α23 α24 α25 α26 α27 α28 α29 α30 α31 α32 α33 α34 α35 α36 α37 α38 i P))))))))))))))))))))))))) (hd2 (tl2 (tl2 (tl2 (tl2 (tl2 (tl2 (tl2 (tl2 (tl2 (tl2 (tl2 (tl2 (tl2 (tl2 (tl2 (tl2 (tl2 (tl2 (tl2 (tl2 (tl2 (tl2 (tl2 (tl2 (@ck38 α1 α2 α3 α4 α5 α6 α7 α8 α9 α10 α11 α12 α13 α14 α15 α16 α17 α18 α19 α20 α21 α22 α23 α24 α25 α26 α27 α28 α29 α30 α31 α32 α33 α34 α35 α36 α37 α38 i P)))))))))))))))))))))))))) (hd2 (tl2 (tl2 (tl2 (tl2 (tl2 (tl2 (tl2 (tl2 (tl2 (tl2 (tl2 (tl2 (tl2 (tl2 (tl2 (tl2 (tl2 (tl2 (tl2 (tl2 (tl2 (tl2 (tl2 (tl2 (tl2 (@ck38 α1 α2 α3 α4 α5 α6 α7 α8 α9 α10 α11 α12 α13 α14 α15 α16 α17 α18 α19 α20 α21 α22 α23 α24 α25 α26 α27 α28 α29 α30 α31 α32 α33 α34 α35 α36 α37 α38 i P))))))))))))))))))))))))))) (hd2 (tl2 (tl2 (tl2 (tl2 (tl2 (tl2 (tl2 (tl2 (tl2 (tl2 (tl2 (tl2 (tl2 (tl2 (tl2 (tl2 (tl2 (tl2 (tl2 (tl2 (tl2 (tl2 (tl2 (tl2 (tl2 (tl2 (@ck38 α1 α2 α3 α4 α5 α6 α7 α8 α9 α10 α11 α12 α13 α14 α15 α16 α17 α18 α19 α20 α21 α22 α23 α24 α25 α26 α27 α28 α29 α30 α31 α32 α33 α34 α35 α36 α37 α38 i P)))))))))))))))))))))))))))) (hd2 (tl2 (tl2 (tl2 (tl2 (tl2 (tl2 (tl2 (tl2 (tl2 (tl2 (tl2 (tl2 (tl2 (tl2 (tl2 (tl2 (tl2 (tl2 (tl2 (tl2 (tl2 (tl2 (tl2 (tl2 (tl2 (tl2 (tl2 (@ck38 α1 α2 α3 α4 α5 α6 α7 α8 α9 α10 α11 α12 α13 α14 α15 α16 α17 α18 α19 α20 α21 α22 α23 α24 α25 α26 α27 α28 α29 α30 α31 α32 α33 α34 α35 α36 α37 α38 i P))))))))))))))))))))))))))))) (hd2 (tl2 (tl2 (tl2 (tl2 (tl2 (tl2 (tl2 (tl2 (tl2 (tl2 (tl2 (tl2 (tl2 (tl2 (tl2 (tl2 (tl2 (tl2 (tl2 (tl2 (tl2 (tl2 (tl2 (tl2 (tl2 (tl2 (tl2 (tl2 (@ck38 α1 α2 α3 α4 α5 α6 α7 α8 α9 α10 α11 α12 α13 α14 α15 α16 α17 α18 α19 α20 α21 α22 α23 α24 α25 α26 α27 α28 α29 α30 α31 α32 α33 α34 α35 α36 α37 α38 i P)))))))))))))))))))))))))))))) (hd2 (tl2 (tl2 (tl2 (tl2 (tl2 (tl2 (tl2 (tl2 (tl2 (tl2 (tl2 (tl2 (tl2 (tl2 (tl2 (tl2 (tl2 (tl2 (tl2 (tl2 (tl2 (tl2 (tl2 (tl2 (tl2 (tl2 (tl2 (tl2 (tl2 (@ck38 α1 α2 α3 α4 α5 α6 α7 α8 α9 α10 α11 α12 α13 α14 α15 α16 α17 α18 α19 α20 α21 α22 α23 α24 α25 α26 α27 α28 α29 α30 α31 α32 α33 α34 α35 α36 α37 α38 i P))))))))))))))))))))))))))))))) (hd2 (tl2 (tl2 (tl2 (tl2 (tl2 (tl2 (tl2 (tl2 (tl2 (tl2 (tl2 (tl2 (tl2 (tl2 (tl2 (tl2 (tl2 (tl2 (tl2 (tl2 (tl2 (tl2 (tl2 (tl2 (tl2 (tl2 (tl2 (tl2 (tl2 (tl2 (@ck38 α1 α2 α3 α4 α5 α6 α7 α8 α9 α10 α11 α12 α13 α14 α15 α16 α17 α18 α19 α20 α21 α22 α23 α24 α25 α26 α27 α28 α29 α30 α31 α32 α33 α34 α35 α36 α37 α38 i P)))))))))))))))))))))))))))))))) (hd2 (tl2 (tl2 (tl2 (tl2 (tl2 (tl2 (tl2 (tl2 (tl2 (tl2 (tl2 (tl2 (tl2 (tl2 (tl2 (tl2 (tl2 (tl2 (tl2 (tl2 (tl2 (tl2 (tl2 (tl2 (tl2 (tl2 (tl2 (tl2 (tl2 (tl2 (tl2 (@ck38 α1 α2 α3 α4 α5 α6 α7 α8 α9 α10 α11 α12 α13 α14 α15 α16 α17 α18 α19 α20 α21 α22 α23 α24 α25 α26 α27 α28 α29 α30 α31 α32 α33 α34 α35 α36 α37 α38 i P))))))))))))))))))))))))))))))))) (hd2 (tl2 (tl2 (tl2 (tl2 (tl2 (tl2 (tl2 (tl2 (tl2 (tl2 (tl2 (tl2 (tl2 (tl2 (tl2 (tl2 (tl2 (tl2 (tl2 (tl2 (tl2 (tl2 (tl2 (tl2 (tl2 (tl2 (tl2 (tl2 (tl2 (tl2 (tl2 (tl2 (@ck38 α1 α2 α3 α4 α5 α6 α7 α8 α9 α10 α11 α12 α13 α14 α15 α16 α17 α18 α19 α20 α21 α22 α23 α24 α25 α26 α27 α28 α29 α30 α31 α32 α33 α34 α35 α36 α37 α38 i P)))))))))))))))))))))))))))))))))) (hd2 (tl2 (tl2 (tl2 (tl2 (tl2 (tl2 (tl2 (tl2 (tl2 (tl2 (tl2 (tl2 (tl2 (tl2 (tl2 (tl2 (tl2 (tl2 (tl2 (tl2 (tl2 (tl2 (tl2 (tl2 (tl2 (tl2 (tl2 (tl2 (tl2 (tl2 (tl2 (tl2 (tl2 (@ck38 α1 α2 α3 α4 α5 α6 α7 α8 α9 α10 α11 α12 α13 α14 α15 α16 α17 α18 α19 α20 α21 α22 α23 α24 α25 α26 α27 α28 α29 α30 α31 α32 α33 α34 α35 α36 α37 α38 i P))))))))))))))))))))))))))))))))))) (hd2 (tl2 (tl2 (tl2 (tl2 (tl2 (tl2 (tl2 (tl2 (tl2 (tl2 (tl2 (tl2 (tl2 (tl2 (tl2 (tl2 (tl2 (tl2 (tl2 (tl2 (tl2 (tl2 (tl2 (tl2 (tl2 (tl2 (tl2 (tl2 (tl2 (tl2 (tl2 (tl2 (tl2 (tl2 (@ck38 α1 α2 α3 α4 α5 α6 α7 α8 α9 α10 α11 α12 α13 α14 α15 α16 α17 α18 α19 α20 α21 α22 α23 α24 α25 α26 α27 α28 α29 α30 α31 α32 α33 α34 α35 α36 α37 α38 i P)))))))))))))))))))))))))))))))))))) (hd2 (tl2 (tl2 (tl2 (tl2 (tl2 (tl2 (tl2 (tl2 (tl2 (tl2 (tl2 (tl2 (tl2 (tl2 (tl2 (tl2 (tl2 (tl2 (tl2 (tl2 (tl2 (tl2 (tl2 (tl2 (tl2 (tl2 (tl2 (tl2 (tl2 (tl2 (tl2 (tl2 (tl2 (tl2 (tl2 (@ck38 α1 α2 α3 α4 α5 α6 α7 α8 α9 α10 α11 α12 α13 α14 α15 α16 α17 α18 α19 α20 α21 α22 α23 α24 α25 α26 α27 α28 α29 α30 α31 α32 α33 α34 α35 α36 α37 α38 i P))))))))))))))))))))))))))))))))))))) (hd2 (tl2 (tl2 (tl2 (tl2 (tl2 (tl2 (tl2 (tl2 (tl2 (tl2 (tl2 (tl2 (tl2 (tl2 (tl2 (tl2 (tl2 (tl2 (tl2 (tl2 (tl2 (tl2 (tl2 (tl2 (tl2 (tl2 (tl2 (tl2 (tl2 (tl2 (tl2 (tl2 (tl2 (tl2 (tl2 (tl2 (@ck38 α1 α2 α3 α4 α5 α6 α7 α8 α9 α10 α11 α12 α13 α14 α15 α16 α17 α18 α19 α20 α21 α22 α23 α24 α25 α26 α27 α28 α29 α30 α31 α32 α33 α34 α35 α36 α37 α38 i P)))))))))))))))))))))))))))))))))))))) (tl2 (tl2 (tl2 (tl2 (tl2 (tl2 (tl2 (tl2 (tl2 (tl2 (tl2 (tl2 (tl2 (tl2 (tl2 (tl2 (tl2 (tl2 (tl2 (tl2 (tl2 (tl2 (tl2 (tl2 (tl2 (tl2 (tl2 (tl2 (tl2 (tl2 (tl2 (tl2 (tl2 (tl2 (tl2 (tl2 (tl2 (@ck38 α1 α2 α3 α4 α5 α6 α7 α8 α9 α10 α11 α12 α13 α14 α15 α16 α17 α18 α19 α20 α21 α22 α23 α24 α25 α26 α27 α28 α29 α30 α31 α32 α33 α34 α35 α36 α37 α38 i P))))))))))))))))))))))))))))))))))))))) : ∀ x1 x2 x3 x4 x5 x6 x7 x8 x9 x10 x11 x12 x13 x14 x15 x16 x17 x18 x19 x20 x21 x22 x23 x24 x25 x26 x27 x28 x29 x30 x31 x32 x33 x34 x35 x36 x37 x38, P x1 x2 x3 x4 x5 x6 x7 x8 x9 x10 x11 x12 x13 x14 x15 x16 x17 x18 x19 x20 x21 x22 x23 x24 x25 x26 x27 x28 x29 x30 x31 x32 x33 x34 x35 x36 x37 x38 := fun x1 x2 x3 x4 x5 x6 x7 x8 x9 x10 x11 x12 x13 x14 x15 x16 x17 x18 x19 x20 x21 x22 x23 x24 x25 x26 x27 x28 x29 x30 x31 x32 x33 x34 x35 x36 x37 x38 => Classical.byContradiction fun hn => @Classical.epsilon_spec _ (fun t => ¬ P (hd2 t) (hd2 (tl2 t)) (hd2 (tl2 (tl2 t))) (hd2 (tl2 (tl2 (tl2 t)))) (hd2 (tl2 (tl2 (tl2 (tl2 t))))) (hd2 (tl2 (tl2 (tl2 (tl2 (tl2 t)))))) (hd2 (tl2 (tl2 (tl2 (tl2 (tl2 (tl2 t))))))) (hd2 (tl2 (tl2 (tl2 (tl2 (tl2 (tl2 (tl2 t)))))))) (hd2 (tl2 (tl2 (tl2 (tl2 (tl2 (tl2 (tl2 (tl2 t))))))))) (hd2 (tl2 (tl2 (tl2 (tl2 (tl2 (tl2 (tl2 (tl2 (tl2 t)))))))))) (hd2 (tl2 (tl2 (tl2 (tl2 (tl2 (tl2 (tl2 (tl2 (tl2 (tl2 t))))))))))) (hd2 (tl2 (tl2 (tl2 (tl2 (tl2 (tl2 (tl2 (tl2 (tl2 (tl2 (tl2 t)))))))))))) (hd2 (tl2 (tl2 (tl2 (tl2 (tl2 (tl2 (tl2 (tl2 (tl2 (tl2 (tl2 (tl2 t))))))))))))) (hd2 (tl2 (tl2 (tl2 (tl2 (tl2 (tl2 (tl2 (tl2 (tl2 (tl2 (tl2 (tl2 (tl2 t)))))))))))))) (hd2 (tl2 (tl2 (tl2 (tl2 (tl2 (tl2 (tl2 (tl2 (tl2 (tl2 (tl2 (tl2 (tl2 (tl2 t))))))))))))))) (hd2 (tl2 (tl2 (tl2 (tl2 (tl2 (tl2 (tl2 (tl2 (tl2 (tl2 (tl2 (tl2 (tl2 (tl2 (tl2 t)))))))))))))))) (hd2 (tl2 (tl2 (tl2 (tl2 (tl2 (tl2 (tl2 (tl2 (tl2 (tl2 (tl2 (tl2 (tl2 (tl2 (tl2 (tl2 t))))))))))))))))) (hd2 (tl2 (tl2 (tl2 (tl2 (tl2 (tl2 (tl2 (tl2 (tl2 (tl2 (tl2 (tl2 (tl2 (tl2 (tl2 (tl2 (tl2 t)))))))))))))))))) (hd2 (tl2 (tl2 (tl2 (tl2 (tl2 (tl2 (tl2 (tl2 (tl2 (tl2 (tl2 (tl2 (tl2 (tl2 (tl2 (tl2 (tl2 (tl2 t))))))))))))))))))) (hd2 (tl2 (tl2 (tl2 (tl2 (tl2 (tl2 (tl2 (tl2 (tl2 (tl2 (tl2 (tl2 (tl2 (tl2 (tl2 (tl2 (tl2 (tl2 (tl2 t)))))))))))))))))))) (hd2 (tl2 (tl2 (tl2 (tl2 (tl2 (tl2 (tl2 (tl2 (tl2 (tl2 (tl2 (tl2 (tl2 (tl2 (tl2 (tl2 (tl2 (tl2 (tl2 (tl2 t))))))))))))))))))))) (hd2 (tl2 (tl2 (tl2 (tl2 (tl2 (tl2 (tl2 (tl2 (tl2 (tl2 (tl2 (tl2 (tl2 (tl2 (tl2 (tl2 (tl2 (tl2 (tl2 (tl2 (tl2 t)))))))))))))))))))))) (hd2 (tl2 (tl2 (tl2 (tl2 (tl2 (tl2 (tl2 (tl2 (tl2 (tl2 (tl2 (tl2 (tl2 (tl2 (tl2 (tl2 (tl2 (tl2 (tl2 (tl2 (tl2 (tl2 t))))))))))))))))))))))) (hd2 (tl2 (tl2 (tl2 (tl2 (tl2 (tl2 (tl2 (tl2 (tl2 (tl2 (tl2 (tl2 (tl2 (tl2 (tl2 (tl2 (tl2 (tl2 (tl2 (tl2 (tl2 (tl2 (tl2 t)))))))))))))))))))))))) (hd2 (tl2 (tl2 (tl2 (tl2 (tl2 (tl2 (tl2 (tl2 (tl2 (tl2 (tl2 (tl2 (tl2 (tl2 (tl2 (tl2 (tl2 (tl2 (tl2 (tl2 (tl2 (tl2 (tl2 (tl2 t))))))))))))))))))))))))) (hd2 (tl2 (tl2 (tl2 (tl2 (tl2 (tl2 (tl2 (tl2 (tl2 (tl2 (tl2 (tl2 (tl2 (tl2 (tl2 (tl2 (tl2 (tl2 (tl2 (tl2 (tl2 (tl2 (tl2 (tl2 (tl2 t)))))))))))))))))))))))))) (hd2 (tl2 (tl2 (tl2 (tl2 (tl2 (tl2 (tl2 (tl2 (tl2 (tl2 (tl2 (tl2 (tl2 (tl2 (tl2 (tl2 (tl2 (tl2 (tl2 (tl2 (tl2 (tl2 (tl2 (tl2 (tl2 (tl2 t))))))))))))))))))))))))))) (hd2 (tl2 (tl2 (tl2 (tl2 (tl2 (tl2 (tl2 (tl2 (tl2 (tl2 (tl2 (tl2 (tl2 (tl2 (tl2 (tl2 (tl2 (tl2 (tl2 (tl2 (tl2 (tl2 (tl2 (tl2 (tl2 (tl2 (tl2 t)))))))))))))))))))))))))))) (hd2 (tl2 (tl2 (tl2 (tl2 (tl2 (tl2 (tl2 (tl2 (tl2 (tl2 (tl2 (tl2 (tl2 (tl2 (tl2 (tl2 (tl2 (tl2 (tl2 (tl2 (tl2 (tl2 (tl2 (tl2 (tl2 (tl2 (tl2 (tl2 t))))))))))))))))))))))))))))) (hd2 (tl2 (tl2 (tl2 (tl2 (tl2 (tl2 (tl2 (tl2 (tl2 (tl2 (tl2 (tl2 (tl2 (tl2 (tl2 (tl2 (tl2 (tl2 (tl2 (tl2 (tl2 (tl2 (tl2 (tl2 (tl2 (tl2 (tl2 (tl2 (tl2 t)))))))))))))))))))))))))))))) (hd2 (tl2 (tl2 (tl2 (tl2 (tl2 (tl2 (tl2 (tl2 (tl2 (tl2 (tl2 (tl2 (tl2 (tl2 (tl2 (tl2 (tl2 (tl2 (tl2 (tl2 (tl2 (tl2 (tl2 (tl2 (tl2 (tl2 (tl2 (tl2 (tl2 (tl2 t))))))))))))))))))))))))))))))) (hd2 (tl2 (tl2 (tl2 (tl2 (tl2 (tl2 (tl2 (tl2 (tl2 (tl2 (tl2 (tl2 (tl2 (tl2 (tl2 (tl2 (tl2 (tl2 (tl2 (tl2 (tl2 (tl2 (tl2 (tl2 (tl2 (tl2 (tl2 (tl2 (tl2 (tl2 (tl2 t)))))))))))))))))))))))))))))))) (hd2 (tl2 (tl2 (tl2 (tl2 (tl2 (tl2 (tl2 (tl2 (tl2 (tl2 (tl2 (tl2 (tl2 (tl2 (tl2 (tl2 (tl2 (tl2 (tl2 (tl2 (tl2 (tl2 (tl2 (tl2 (tl2 (tl2 (tl2 (tl2 (tl2 (tl2 (tl2 (tl2 t))))))))))))))))))))))))))))))))) (hd2 (tl2 (tl2 (tl2 (tl2 (tl2 (tl2 (tl2 (tl2 (tl2 (tl2 (tl2 (tl2 (tl2 (tl2 (tl2 (tl2 (tl2 (tl2 (tl2 (tl2 (tl2 (tl2 (tl2 (tl2 (tl2 (tl2 (tl2 (tl2 (tl2 (tl2 (tl2 (tl2 (tl2 t)))))))))))))))))))))))))))))))))) (hd2 (tl2 (tl2 (tl2 (tl2 (tl2 (tl2 (tl2 (tl2 (tl2 (tl2 (tl2 (tl2 (tl2 (tl2 (tl2 (tl2 (tl2 (tl2 (tl2 (tl2 (tl2 (tl2 (tl2 (tl2 (tl2 (tl2 (tl2 (tl2 (tl2 (tl2 (tl2 (tl2 (tl2 (tl2 t))))))))))))))))))))))))))))))))))) (hd2 (tl2 (tl2 (tl2 (tl2 (tl2 (tl2 (tl2 (tl2 (tl2 (tl2 (tl2 (tl2 (tl2 (tl2 (tl2 (tl2 (tl2 (tl2 (tl2 (tl2 (tl2 (tl2 (tl2 (tl2 (tl2 (tl2 (tl2 (tl2 (tl2 (tl2 (tl2 (tl2 (tl2 (tl2 (tl2 t)))))))))))))))))))))))))))))))))))) (hd2 (tl2 (tl2 (tl2 (tl2 (tl2 (tl2 (tl2 (tl2 (tl2 (tl2 (tl2 (tl2 (tl2 (tl2 (tl2 (tl2 (tl2 (tl2 (tl2 (tl2 (tl2 (tl2 (tl2 (tl2 (tl2 (tl2 (tl2 (tl2 (tl2 (tl2 (tl2 (tl2 (tl2 (tl2 (tl2 (tl2 t))))))))))))))))))))))))))))))))))))) (tl2 (tl2 (tl2 (tl2 (tl2 (tl2 (tl2 (tl2 (tl2 (tl2 (tl2 (tl2 (tl2 (tl2 (tl2 (tl2 (tl2 (tl2 (tl2 (tl2 (tl2 (tl2 (tl2 (tl2 (tl2 (tl2 (tl2 (tl2 (tl2 (tl2 (tl2 (tl2 (tl2 (tl2 (tl2 (tl2 (tl2 t)))))))))))))))))))))))))))))))))))))) ⟨(x1, x2, x3, x4, x5, x6, x7, x8, x9, x10, x11, x12, x13, x14, x15, x16, x17, x18, x19, x20, x21, x22, x23, x24, x25, x26, x27, x28, x29, x30, x31, x32, x33, x34, x35, x36, x37, x38), hn⟩ h
noncomputable def ck44 {α1 α2 α3 α4 α5 α6 α7 α8 α9 α10 α11 α12 α13 α14 α15 α16 α17 α18 α19 α20 α21 α22 α23 α24 α25 α26 α27 α28 α29 α30 α31 α32 α33 α34 α35 α36 α37 α38 α39 α40 α41 α42 α43 α44 : Type} {i : Nonempty (α1 × α2 × α3 × α4 × α5 × α6 × α7 × α8 × α9 × α10 × α11 × α12 × α13 × α14 × α15 × α16 × α17 × α18 × α19 × α20 × α21 × α22 × α23 × α24 × α25 × α26 × α27 × α28 × α29 × α30 × α31 × α32 × α33 × α34 × α35 × α36 × α37 × α38 × α39 × α40 × α41 × α42 × α43 × α44)} (P : α1 → α2 → α3 → α4 → α5 → α6 → α7 → α8 → α9 → α10 → α11 → α12 → α13 → α14 → α15 → α16 → α17 → α18 → α19 → α20 → α21 → α22 → α23 → α24 → α25 → α26 → α27 → α28 → α29 → α30 → α31 → α32 → α33 → α34 → α35 → α36 → α37 → α38 → α39 → α40 → α41 → α42 → α43 → α44 → Prop) : α1 × α2 × α3 × α4 × α5 × α6 × α7 × α8 × α9 × α10 × α11 × α12 × α13 × α14 × α15 × α16 × α17 × α18 × α19 × α20 × α21 × α22 × α23 × α24 × α25 × α26 × α27 × α28 × α29 × α30 × α31 × α32 × α33 × α34 × α35 × α36 × α37 × α38 × α39 × α40 × α41 × α42 × α43 × α44 := @Classical.epsilon _ i fun t => ¬ P (hd2 t) (hd2 (tl2 t)) (hd2 (tl2 (tl2 t))) (hd2 (tl2 (tl2 (tl2 t)))) (hd2 (tl2 (tl2 (tl2 (tl2 t))))) (hd2 (tl2 (tl2 (tl2 (tl2 (tl2 t)))))) (hd2 (tl2 (tl2 (tl2 (tl2 (tl2 (tl2 t))))))) (hd2 (tl2 (tl2 (tl2 (tl2 (tl2 (tl2 (tl2 t)))))))) (hd2 (tl2 (tl2 (tl2 (tl2 (tl2 (tl2 (tl2 (tl2 t))))))))) (hd2 (tl2 (tl2 (tl2 (tl2 (tl2 (tl2 (tl2 (tl2 (tl2 t)))))))))) (hd2 (tl2 (tl2 (tl2 (tl2 (tl2 (tl2 (tl2 (tl2 (tl2 (tl2 t))))))))))) (hd2 (tl2 (tl2 (tl2 (tl2 (tl2 (tl2 (tl2 (tl2 (tl2 (tl2 (tl2 t)))))))))))) (hd2 (tl2 (tl2 (tl2 (tl2 (tl2 (tl2 (tl2 (tl2 (tl2 (tl2 (tl2 (tl2 t))))))))))))) (hd2 (tl2 (tl2 (tl2 (tl2 (tl2 (tl2 (tl2 (tl2 (tl2 (tl2 (tl2 (tl2 (tl2 t)))))))))))))) (hd2 (tl2 (tl2 (tl2 (tl2 (tl2 (tl2 (tl2 (tl2 (tl2 (tl2 (tl2 (tl2 (tl2 (tl2 t))))))))))))))) (hd2 (tl2 (tl2 (tl2 (tl2 (tl2 (tl2 (tl2 (tl2 (tl2 (tl2 (tl2 (tl2 (tl2 (tl2 (tl2 t)))))))))))))))) (hd2 (tl2 (tl2 (tl2 (tl2 (tl2 (tl2 (tl2 (tl2 (tl2 (tl2 (tl2 (tl2 (tl2 (tl2 (tl2 (tl2 t))))))))))))))))) (hd2 (tl2 (tl2 (tl2 (tl2 (tl2 (tl2 (tl2 (tl2 (tl2 (tl2 (tl2 (tl2 (tl2 (tl2 (tl2 (tl2 (tl2 t)))))))))))))))))) (hd2 (tl2 (tl2 (tl2 (tl2 (tl2 (tl2 (tl2 (tl2 (tl2 (tl2 (tl2 (tl2 (tl2 (tl2 (tl2 (tl2 (tl2 (tl2 t))))))))))))))))))) (hd2 (tl2 (tl2 (tl2 (tl2 (tl2 (tl2 (tl2 (tl2 (tl2 (tl2 (tl2 (tl2 (tl2 (tl2 (tl2 (tl2 (tl2 (tl2 (tl2 t)))))))))))))))))))) (hd2 (tl2 (tl2 (tl2 (tl2 (tl2 (tl2 (tl2 (tl2 (tl2 (tl2 (tl2 (tl2 (tl2 (tl2 (tl2 (tl2 (tl2 (tl2 (tl2 (tl2 t))))))))))))))))))))) (hd2 (tl2 (tl2 (tl2 (tl2 (tl2 (tl2 (tl2 (tl2 (tl2 (tl2 (tl2 (tl2 (tl2 (tl2 (tl2 (tl2 (tl2 (tl2 (tl2 (tl2 (tl2 t)))))))))))))))))))))) (hd2 (tl2 (tl2 (tl2 (tl2 (tl2 (tl2 (tl2 (tl2 (tl2 (tl2 (tl2 (tl2 (tl2 (tl2 (tl2 (tl2 (tl2 (tl2 (tl2 (tl2 (tl2 (tl2 t))))))))))))))))))))))) (hd2 (tl2 (tl2 (tl2 (tl2 (tl2 (tl2 (tl2 (tl2 (tl2 (tl2 (tl2 (tl2 (tl2 (tl2 (tl2 (tl2 (tl2 (tl2 (tl2 (tl2 (tl2 (tl2 (tl2 t)))))))))))))))))))))))) (hd2 (tl2 (tl2 (tl2 (tl2 (tl2 (tl2 (tl2 (tl2 (tl2 (tl2 (tl2 (tl2 (tl2 (tl2 (tl2 (tl2 (tl2 (tl2 (tl2 (tl2 (tl2 (tl2 (tl2 (tl2 t))))))))))))))))))))))))) (hd2 (tl2 (tl2 (tl2 (tl2 (tl2 (tl2 (tl2 (tl2 (tl2 (tl2 (tl2 (tl2 (tl2 (tl2 (tl2 (tl2 (tl2 (tl2 (tl2 (tl2 (tl2 (tl2 (tl2 (tl2 (tl2 t)))))))))))))))))))))))))) (hd2 (tl2 (tl2 (tl2 (tl2 (tl2 (tl2 (tl2 (tl2 (tl2 (tl2 (tl2 (tl2 (tl2 (tl2 (tl2 (tl2 (tl2 (tl2 (tl2 (tl2 (tl2 (tl2 (tl2 (tl2 (tl2 (tl2 t))))))))))))))))))))))))))) (hd2 (tl2 (tl2 (tl2 (tl2 (tl2 (tl2 (tl2 (tl2 (tl2 (tl2 (tl2 (tl2 (tl2 (tl2 (tl2 (tl2 (tl2 (tl2 (tl2 (tl2 (tl2 (tl2 (tl2 (tl2 (tl2 (tl2 (tl2 t)))))))))))))))))))))))))))) (hd2 (tl2 (tl2 (tl2 (tl2 (tl2 (tl2 (tl2 (tl2 (tl2 (tl2 (tl2 (tl2 (tl2 (tl2 (tl2 (tl2 (tl2 (tl2 (tl2 (tl2 (tl2 (tl2 (tl2 (tl2 (tl2 (tl2 (tl2 (tl2 t))))))))))))))))))))))))))))) (hd2 (tl2 (tl2 (tl2 (tl2 (tl2 (tl2 (tl2 (tl2 (tl2 (tl2 (tl2 (tl2 (tl2 (tl2 (tl2 (tl2 (tl2 (tl2 (tl2 (tl2 (tl2 (tl2 (tl2 (tl2 (tl2 (tl2 (tl2 (tl2 (tl2 t)))))))))))))))))))))))))))))) (hd2 (tl2 (tl2 (tl2 (tl2 (tl2 (tl2 (tl2 (tl2 (tl2 (tl2 (tl2 (tl2 (tl2 (tl2 (tl2 (tl2 (tl2 (tl2 (tl2 (tl2 (tl2 (tl2 (tl2 (tl2 (tl2 (tl2 (tl2 (tl2 (tl2 (tl2 t))))))))))))))))))))))))))))))) (hd2 (tl2 (tl2 (tl2 (tl2 (tl2 (tl2 (tl2 (tl2 (tl2 (tl2 (tl2 (tl2 (tl2 (tl2 (tl2 (tl2 (tl2 (tl2 (tl2 (tl2 (tl2 (tl2 (tl2 (tl2 (tl2 (tl2 (tl2 (tl2 (tl2 (tl2 (tl2 t)))))))))))))))))))))))))))))))) (hd2 (tl2 (tl2 (tl2 (tl2 (tl2 (tl2 (tl2 (tl2 (tl2 (tl2 (tl2 (tl2 (tl2 (tl2 (tl2 (tl2 (tl2 (tl2 (tl2 (tl2 (tl2 (tl2 (tl2 (tl2 (tl2 (tl2 (tl2 (tl2 (tl2 (tl2 (tl2 (tl2 t))))))))))))))))))))))))))))))))) (hd2 (tl2 (tl2 (tl2 (tl2 (tl2 (tl2 (tl2 (tl2 (tl2 (tl2 (tl2 (tl2 (tl2 (tl2 (tl2 (tl2 (tl2 (tl2 (tl2 (tl2 (tl2 (tl2 (tl2 (tl2 (tl2 (tl2 (tl2 (tl2 (tl2 (tl2 (tl2 (tl2 (tl2 t)))))))))))))))))))))))))))))))))) (hd2 (tl2 (tl2 (tl2 (tl2 (tl2 (tl2 (tl2 (tl2 (tl2 (tl2 (tl2 (tl2 (tl2 (tl2 (tl2 (tl2 (tl2 (tl2 (tl2 (tl2 (tl2 (tl2 (tl2 (tl2 (tl2 (tl2 (tl2 (tl2 (tl2 (tl2 (tl2 (tl2 (tl2 (tl2 t))))))))))))))))))))))))))))))))))) (hd2 (tl2 (tl2 (tl2 (tl2 (tl2 (tl2 (tl2 (tl2 (tl2 (tl2 (tl2 (tl2 (tl2 (tl2 (tl2 (tl2 (tl2 (tl2 (tl2 (tl2 (tl2 (tl2 (tl2 (tl2 (tl2 (tl2 (tl2 (tl2 (tl2 (tl2 (tl2 (tl2 (tl2 (tl2 (tl2 t)))))))))))))))))))))))))))))))))))) (hd2 (tl2 (tl2 (tl2 (tl2 (tl2 (tl2 (tl2 (tl2 (tl2 (tl2 (tl2 (tl2 (tl2 (tl2 (tl2 (tl2 (tl2 (tl2 (tl2 (tl2 (tl2 (tl2 (tl2 (tl2 (tl2 (tl2 (tl2 (tl2 (tl2 (tl2 (tl2 (tl2 (tl2 (tl2 (tl2 (tl2 t))))))))))))))))))))))))))))))))))))) (hd2 (tl2 (tl2 (tl2 (tl2 (tl2 (tl2 (tl2 (tl2 (tl2 (tl2 (tl2 (tl2 (tl2 (tl2 (tl2 (tl2 (tl2 (tl2 (tl2 (tl2 (tl2 (tl2 (tl2 (tl2 (tl2 (tl2 (tl2 (tl2 (tl2 (tl2 (tl2 (tl2 (tl2 (tl2 (tl2 (tl2 (tl2 t)))))))))))))))))))))))))))))))))))))) (hd2 (tl2 (tl2 (tl2 (tl2 (tl2 (tl2 (tl2 (tl2 (tl2 (tl2 (tl2 (tl2 (tl2 (tl2 (tl2 (tl2 (tl2 (tl2 (tl2 (tl2 (tl2 (tl2 (tl2 (tl2 (tl2 (tl2 (tl2 (tl2 (tl2 (tl2 (tl2 (tl2 (tl2 (tl2 (tl2 (tl2 (tl2 (tl2 t))))))))))))))))))))))))))))))))))))))) (hd2 (tl2 (tl2 (tl2 (tl2 (tl2 (tl2 (tl2 (tl2 (tl2 (tl2 (tl2 (tl2 (tl2 (tl2 (tl2 (tl2 (tl2 (tl2 (tl2 (tl2 (tl2 (tl2 (tl2 (tl2 (tl2 (tl2 (tl2 (tl2 (tl2 (tl2 (tl2 (tl2 (tl2 (tl2 (tl2 (tl2 (tl2 (tl2 (tl2 t)))))))))))))))))))))))))))))))))))))))) (hd2 (tl2 (tl2 (tl2 (tl2 (tl2 (tl2 (tl2 (tl2 (tl2 (tl2 (tl2 (tl2 (tl2 (tl2 (tl2 (tl2 (tl2 (tl2 (tl2 (tl2 (tl2 (tl2 (tl2 (tl2 (tl2 (tl2 (tl2 (tl2 (tl2 (tl2 (tl2 (tl2 (tl2 (tl2 (tl2 (tl2 (tl2 (tl2 (tl2 (tl2 t))))))))))))))))))))))))))))))))))))))))) (hd2 (tl2 (tl2 (tl2 (tl2 (tl2 (tl2 (tl2 (tl2 (tl2 (tl2 (tl2 (tl2 (tl2 (tl2 (tl2 (tl2 (tl2 (tl2 (tl2 (tl2 (tl2 (tl2 (tl2 (tl2 (tl2 (tl2 (tl2 (tl2 (tl2 (tl2 (tl2 (tl2 (tl2 (tl2 (tl2 (tl2 (tl2 (tl2 (tl2 (tl2 (tl2 t)))))))))))))))))))))))))))))))))))))))))) (hd2 (tl2 (tl2 (tl2 (tl2 (tl2 (tl2 (tl2 (tl2 (tl2 (tl2 (tl2 (tl2 (tl2 (tl2 (tl2 (tl2 (tl2 (tl2 (tl2 (tl2 (tl2 (tl2 (tl2 (tl2 (tl2 (tl2 (tl2 (tl2 (tl2 (tl2 (tl2 (tl2 (tl2 (tl2 (tl2 (tl2 (tl2 (tl2 (tl2 (tl2 (tl2 (tl2 t))))))))))))))))))))))))))))))))))))))))))) (tl2 (tl2 (tl2 (tl2 (tl2 (tl2 (tl2 (tl2 (tl2 (tl2 (tl2 (tl2 (tl2 (tl2 (tl2 (tl2 (tl2 (tl2 (tl2 (tl2 (tl2 (tl2 (tl2 (tl2 (tl2 (tl2 (tl2 (tl2 (tl2 (tl2 (tl2 (tl2 (tl2 (tl2 (tl2 (tl2 (tl2 (tl2 (tl2 (tl2 (tl2 (tl2 (tl2 t)))))))))))))))))))))))))))))))))))))))))))
theorem pick44 {α1 α2 α3 α4 α5 α6 α7 α8 α9 α10 α11 α12 α13 α14 α15 α16 α17 α18 α19 α20 α21 α22 α23 α24 α25 α26 α27 α28 α29 α30 α31 α32 α33 α34 α35 α36 α37 α38 α39 α40 α41 α42 α43 α44 : Type} {P : α1 → α2 → α3 → α4 → α5 → α6 → α7 → α8 → α9 → α10 → α11 → α12 → α13 → α14 → α15 → α16 → α17 → α18 → α19 → α20 → α21 → α22 → α23 → α24 → α25 → α26 → α27 → α28 → α29 → α30 → α31 → α32 → α33 → α34 → α35 → α36 → α37 → α38 → α39 → α40 → α41 → α42 → α43 → α44 → Prop} (i : Nonempty (α1 × α2 × α3 × α4 × α5 × α6 × α7 × α8 × α9 × α10 × α11 × α12 × α13 × α14 × α15 × α16 × α17 × α18 × α19 × α20 × α21 × α22 × α23 × α24 × α25 × α26 × α27 × α28 × α29 × α30 × α31 × α32 × α33 × α34 × α35 × α36 × α37 × α38 × α39 × α40 × α41 × α42 × α43 × α44)) (h : P (hd2 (@ck44 α1 α2 α3 α4 α5 α6 α7 α8 α9 α10 α11 α12 α13 α14 α15 α16 α17 α18 α19 α20 α21 α22 α23 α24 α25 α26 α27 α28 α29 α30 α31 α32 α33 α34 α35 α36 α37 α38 α39 α40 α41 α42 α43 α44 i P)) (hd2 (tl2 (@ck44 α1 α2 α3 α4 α5 α6 α7 α8 α9 α10 α11 α12 α13 α14 α15 α16 α17 α18 α19 α20 α21 α22 α23 α24 α25 α26 α27 α28 α29 α30 α31 α32 α33 α34 α35 α36 α37 α38 α39 α40 α41 α42 α43 α44 i P))) (hd2 (tl2 (tl2 (@ck44 α1 α2 α3 α4 α5 α6 α7 α8 α9 α10 α11 α12 α13 α14 α15 α16 α17 α18 α19 α20 α21 α22 α23 α24 α25 α26 α27 α28 α29 α30 α31 α32 α33 α34 α35 α36 α37 α38 α39 α40 α41 α42 α43 α44 i P)))) (hd2 (tl2 (tl2 (tl2 (@ck44 α1 α2 α3 α4 α5 α6 α7 α8 α9 α10 α11 α12 α13 α14 α15 α16 α17 α18 α19 α20 α21 α22 α23 α24 α25 α26 α27 α28 α29 α30 α31 α32 α33 α34 α35 α36 α37 α38 α39 α40 α41 α42 α43 α44 i P))))) (hd2 (tl2 (tl2 (tl2 (tl2 (@ck44 α1 α2 α3 α4 α5 α6 α7 α8 α9 α10 α11 α12 α13 α14 α15 α16 α17 α18 α19 α20 α21 α22 α23 α24 α25 α26 α27 α28 α29 α30 α31 α32 α33 α34 α35 α36 α37 α38 α39 α40 α41 α42 α43 α44 i P)))))) (hd2 (tl2 (tl2 (tl2 (tl2 (tl2 (@ck44 α1 α2 α3 α4 α5 α6 α7 α8 α9 α10 α11 α12 α13 α14 α15 α16 α17 α18 α19 α20 α21 α22 α23 α24 α25 α26 α27 α28 α29 α30 α31 α32 α33 α34 α35 α36 α37 α38 α39 α40 α41 α42 α43 α44 i P))))))) (hd2 (tl2 (tl2 (tl2 (tl2 (tl2 (tl2 (@ck44 α1 α2 α3 α4 α5 α6 α7 α8 α9 α10 α11 α12 α13 α14 α15 α16 α17 α18 α19 α20 α21 α22 α23 α24 α25 α26 α27 α28 α29 α30 α31 α32 α33 α34 α35 α36 α37 α38 α39 α40 α41 α42 α43 α44 i P)))))))) (hd2 (tl2 (tl2 (tl2 (tl2 (tl2 (tl2 (tl2 (@ck44 α1 α2 α3 α4 α5 α6 α7 α8 α9 α10 α11 α12 α13 α14 α15 α16 α17 α18 α19 α20 α21 α22 α23 α24 α25 α26 α27 α28 α29 α30 α31 α32 α33 α34 α35 α36 α37 α38 α39 α40 α41 α42 α43 α44 i P))))))))) (hd2 (tl2 (tl2 (tl2 (tl2 (tl2 (tl2 (tl2 (tl2 (@ck44 α1 α2 α3 α4 α5 α6 α7 α8 α9 α10 α11 α12 α13 α14 α15 α16 α17 α18 α19 α20 α21 α22 α23 α24 α25 α26 α27 α28 α29 α30 α31 α32 α33 α34 α35 α36 α37 α38 α39 α40 α41 α42 α43 α44 i P)))))))))) (hd2 (tl2 (tl2 (tl2 (tl2 (tl2 (tl2 (tl2 (tl2 (tl2 (@ck44 α1 α2 α3 α4 α5 α6 α7 α8 α9 α10 α11 α12 α13 α14 α15 α16 α17 α18 α19 α20 α21 α22 α23 α24 α25 α26 α27 α28 α29 α30 α31 α32 α33 α34 α35 α36 α37 α38 α39 α40 α41 α42 α43 α44 i P))))))))))) (hd2 (tl2 (tl2 (tl2 (tl2 (tl2 (tl2 (tl2 (tl2 (tl2 (tl2 (@ck44 α1 α2 α3 α4 α5 α6 α7 α8 α9 α10 α11 α12 α13 α14 α15 α16 α17 α18 α19 α20 α21 α22 α23 α24 α25 α26 α27 α28 α29 α30 α31 α32 α33 α34 α35 α36 α37 α38 α39 α40 α41 α42 α43 α44 i P)))))))))))) (hd2 (tl2 (tl2 (tl2 (tl2 (tl2 (tl2 (tl2 (tl2 (tl2 (tl2 (tl2 (@ck44 α1 α2 α3 α4 α5 α6 α7 α8 α9 α10 α11 α12 α13 α14 α15 α16 α17 α18 α19 α20 α21 α22 α23 α24 α25 α26 α27 α28 α29 α30 α31 α32 α33 α34 α35 α36 α37 α38 α39 α40 α41 α42 α43 α44 i P))))))))))))) (hd2 (tl2 (tl2 (tl2 (tl2 (tl2 (tl2 (tl2 (tl2 (tl2 (tl2 (tl2 (tl2 (@ck44 α1 α2 α3 α4 α5 α6 α7 α8 α9 α10 α11 α12 α13 α14 α15 α16 α17 α18 α19 α20 α21 α22 α23 α24 α25 α26 α27 α28 α29 α30 α31 α32 α33 α34 α35 α36 α37 α38 α39 α40 α41 α42 α43 α44 i P)))))))))))))) (hd2 (tl2 (tl2 (tl2 (tl2 (tl2 (tl2 (tl2 (tl2 (tl2 (tl2 (tl2 (tl2 (tl2 (@ck44 α1 α2 α3 α4 α5 α6 α7 α8 α9 α10 α11 α12 α13 α14 α15 α16 α17 α18 α19 α20 α21 α22 α23 α24 α25 α26 α27 α28 α29 α30 α31 α32 α33 α34 α35 α36 α37 α38 α39 α40 α41 α42 α43 α44 i P))))))))))))))) (hd2 (tl2 (tl2 (tl2 (tl2 (tl2 (tl2 (tl2 (tl2 (tl2 (tl2 (tl2 (tl2 (tl2 (tl2 (@ck44 α1 α2 α3 α4 α5 α6 α7 α8 α9 α10 α11 α12 α13 α14 α15 α16 α17 α18 α19 α20 α21 α22 α23 α24 α25 α26 α27 α28 α29 α30 α31 α32 α33 α34 α35 α36 α37 α38 α39 α40 α41 α42 α43 α44 i P)))))))))))))))) (hd2 (tl2 (tl2 (tl2 (tl2 (tl2 (tl2 (tl2 (tl2 (tl2 (tl2 (tl2 (tl2 (tl2 (tl2 (tl2 (@ck44 α1 α2 α3 α4 α5 α6 α7 α8 α9 α10 α11 α12 α13 α14 α15 α16 α17 α18 α19 α20 α21 α22 α23 α24 α25 α26 α27 α28 α29 α30 α31 α32 α33 α34 α35 α36 α37 α38 α39 α40 α41 α42 α43 α44 i P))))))))))))))))) (hd2 (tl2 (tl2 (tl2 (tl2 (tl2 (tl2 (tl2 (tl2 (tl2 (tl2 (tl2 (tl2 (tl2 (tl2 (tl2 (tl2 (@ck44 α1 α2 α3 α4 α5 α6 α7 α8 α9 α10 α11 α12 α13 α14 α15 α16 α17 α18 α19 α20 α21 α22 α23 α24 α25 α26 α27 α28 α29 α30 α31 α32 α33 α34 α35 α36 α37 α38 α39 α40 α41 α42 α43 α44 i P)))))))))))))))))) (hd2 (tl2 (tl2 (tl2 (tl2 (tl2 (tl2 (tl2 (tl2 (tl2 (tl2 (tl2 (tl2 (tl2 (tl2 (tl2 (tl2 (tl2 (@ck44 α1 α2 α3 α4 α5 α6 α7 α8 α9 α10 α11 α12 α13 α14 α15 α16 α17 α18 α19 α20 α21 α22 α23 α24 α25 α26 α27 α28 α29 α30 α31 α32 α33 α34 α35 α36 α37 α38 α39 α40 α41 α42 α43 α44 i P))))))))))))))))))) (hd2 (tl2 (tl2 (tl2 (tl2 (tl2 (tl2 (tl2 (tl2 (tl2 (tl2 (tl2 (tl2 (tl2 (tl2 (tl2 (tl2 (tl2 (tl2 (@ck44 α1 α2 α3 α4 α5 α6 α7 α8 α9 α10 α11 α12 α13 α14 α15 α16 α17 α18 α19 α20 α21 α22 α23 α24 α25 α26 α27 α28 α29 α30 α31 α32 α33 α34 α35 α36 α37 α38 α39 α40 α41 α42 α43 α44 i P)))))))))))))))))))) (hd2 (tl2 (tl2 (tl2 (tl2 (tl2 (tl2 (tl2 (tl2 (tl2 (tl2 (tl2 (tl2 (tl2 (tl2 (tl2 (tl2 (tl2 (tl2 (tl2 (@ck44 α1 α2 α3 α4 α5 α6 α7 α8 α9 α10 α11 α12 α13 α14 α15 α16 α17 α18 α19 α20 α21 α22 α23 α24 α25 α26 α27 α28 α29 α30 α31 α32 α33 α34 α35 α36 α37 α38 α39 α40 α41 α42 α43 α44 i P))))))))))))))))))))) (hd2 (tl2 (tl2 (tl2 (tl2 (tl2 (tl2 (tl2 (tl2 (tl2 (tl2 (tl2 (tl2 (tl2 (tl2 (tl2 (tl2 (tl2 (tl2 (tl2 (tl2 (@ck44 α1 α2 α3 α4 α5 α6 α7 α8 α9 α10 α11 α12 α13 α14 α15 α16 α17 α18 α19 α20 α21 α22 α23 α24 α25 α26 α27 α28 α29 α30 α31 α32 α33 α34 α35 α36 α37 α38 α39 α40 α41 α42 α43 α44 i P)))))))))))))))))))))) (hd2 (tl2 (tl2 (tl2 (tl2 (tl2 (tl2 (tl2 (tl2 (tl2 (tl2 (tl2 (tl2 (tl2 (tl2 (tl2 (tl2 (tl2 (tl2 (tl2 (tl2 (tl2 (@ck44 α1 α2 α3 α4 α5 α6 α7 α8 α9 α10 α11 α12 α13 α14 α15 α16 α17 α18 α19 α20 α21 α22 α23 α24 α25 α26 α27 α28 α29 α30 α31 α32 α33 α34 α35 α36 α37 α38 α39 α40 α41 α42 α43 α44 i P))))))))))))))))))))))) (hd2 (tl2 (tl2 (tl2 (tl2 (tl2 (tl2 (tl2 (tl2 (tl2 (tl2 (tl2 (tl2 (tl2 (tl2 (tl2 (tl2 (tl2 (tl2 (tl2 (tl2 (tl2 (tl2 (@ck44 α1 α2 α3 α4 α5 α6 α7 α8 α9 α10 α11 α12 α13 α14 α15 α16 α17 α18 α19 α20 α21 α22 α23 α24 α25 α26 α27 α28 α29 α30 α31 α32 α33 α34 α35 α36 α37 α38 α39 α40 α41 α42 α43 α44 i P)))))))))))))))))))))))) (hd2 (tl2 (tl2 (tl2 (tl2 (tl2 (tl2 (tl2 (tl2 (tl2 (tl2 (tl2 (tl2 (tl2 (tl2 (tl2 (tl2 (tl2 (tl2 (tl2 (tl2 (tl2 (tl2 (tl2 (@ck44 α1 α2 α3 α4 α5 α6 α7 α8 α9 α10 α11 α12 α13 α14 α15 α16 α17 α18 α19 α20 α21 α22 α23 α24 α25 α26 α27 α28 α29 α30 α31 α32 α33 α34 α35 α36 α37 α38 α39 α40 α41 α42 α43 α44 i P))))))))))))))))))))))))) (hd2 (tl2 (tl2 (tl2 (tl2 (tl2 (tl2 (tl2 (tl2 (tl2 (tl2 (tl2 (tl2 (tl2 (tl2 (tl2 (tl2 (tl2 (tl2 (tl2 (tl2 (tl2 (tl2 (tl2 (tl2 (@ck44 α1 α2 α3 α4 α5 α6 α7 α8 α9 α10 α11 α12 α13 α14 α15 α16 α17 α18 α19 α20 α21 α22 α23 α24 α25 α26 α27 α28 α29 α30 α31 α32 α33 α34 α35 α36 α37 α38 α39 α40 α41 α42 α43 α44 i P)))))))))))))))))))))))))) (hd2 (tl2 (tl2 (tl2 (tl2 (tl2 (tl2 (tl2 (tl2 (tl2 (tl2 (tl2 (tl2 (tl2 (tl2 (tl2 (tl2 (tl2 (tl2 (tl2 (tl2 (tl2 (tl2 (tl2 (tl2 (tl2 (@ck44 α1 α2 α3 α4 α5 α6 α7 α8 α9 α10 α11 α12 α13 α14 α15 α16 α17 α18 α19 α20 α21 α22 α23 α24 α25 α26 α27 α28 α29 α30 α31 α32 α33 α34 α35 α36 α37 α38 α39 α40 α41 α42 α43 α44 i P))))))))))))))))))))))))))) (hd2 (tl2 (tl2 (tl2 (tl2 (tl2 (tl2 (tl2 (tl2 (tl2 (tl2 (tl2 (tl2 (tl2 (tl2 (tl2 (tl2 (tl2 (tl2 (tl2 (tl2 (tl2 (tl2 (tl2 (tl2 (tl2 (tl2 (@ck44 α1 α2 α3 α4 α5 α6 α7 α8 α9 α10 α11 α12 α13 α14 α15 α16 α17 α18 α19 α20 α21 α22 α23 α24 α25 α26 α27 α28 α29 α30 α31 α32 α33 α34 α35 α36 α37 α38 α39 α40 α41 α42 α43 α44 i P)))))))))))))))))))))))))))) (hd2 (tl2 (tl2 (tl2 (tl2 (tl2 (tl2 (tl2 (tl2 (tl2 (tl2 (tl2 (tl2 (tl2 (tl2 (tl2 (tl2 (tl2 (tl2 (tl2 (tl2 (tl2 (tl2 (tl2 (tl2 (tl2 (tl2 (tl2 (@ck44 α1 α2 α3 α4 α5 α6 α7 α8 α9 α10 α11 α12 α13 α14 α15 α16 α17 α18 α19 α20 α21 α22 α23 α24 α25 α26 α27 α28 α29 α30 α31 α32 α33 α34 α35 α36 α37 α38 α39 α40 α41 α42 α43 α44 i P))))))))))))))))))))))))))))) (hd2 (tl2 (tl2 (tl2 (tl2 (tl2 (tl2 (tl2 (tl2 (tl2 (tl2 (tl2 (tl2 (tl2 (tl2 (tl2 (tl2 (tl2 (tl2 (tl2 (tl2 (tl2 (tl2 (tl2 (tl2 (tl2 (tl2 (tl2 (tl2 (@ck44 α1 α2 α3 α4 α5 α6 α7 α8 α9 α10 α11 α12 α13 α14 α15 α16 α17 α18 α19 α20 α21 α22 α23 α24 α25 α26 α27 α28 α29 α30 α31 α32 α33 α34 α35 α36 α37 α38 α39 α40 α41 α42 α43 α44 i P)))))))))))))))))))))))))))))) (hd2 (tl2 (tl2 (tl2 (tl2 (tl2 (tl2 (tl2 (tl2 (tl2 (tl2 (tl2 (tl2 (tl2 (tl2 (tl2 (tl2 (tl2 (tl2 (tl2 (tl2 (tl2 (tl2 (tl2 (tl2 (tl2 (tl2 (tl2 (tl2 (tl2 (@ck44 α1 α2 α3 α4 α5 α6 α7 α8 α9 α10 α11 α12 α13 α14 α15 α16 α17 α18 α19 α20 α21 α22 α23 α24 α25 α26 α27 α28 α29 α30 α31 α32 α33 α34 α35 α36 α37 α38 α39 α40 α41 α42 α43 α44 i P))))))))))))))))))))))))))))))) (hd2 (tl2 (tl2 (tl2 (tl2 (tl2 (tl2 (tl2 (tl2 (tl2 (tl2 (tl2 (tl2 (tl2 (tl2 (tl2 (tl2 (tl2 (tl2 (tl2 (tl2 (tl2 (tl2 (tl2 (tl2 (tl2 (tl2 (tl2 (tl2 (tl2 (tl2 (@ck44 α1 α2 α3 α4 α5 α6 α7 α8 α9 α10 α11 α12 α13 α14 α15 α16 α17 α18 α19 α20 α21 α22 α23 α24 α25 α26 α27 α28 α29 α30 α31 α32 α33 α34 α35 α36 α37 α38 α39 α40 α41 α42 α43 α44 i P)))))))))))))))))))))))))))))))) (hd2 (tl2 (tl2 (tl2 (tl2 (tl2 (tl2 (tl2 (tl2 (tl2 (tl2 (tl2 (tl2 (tl2 (tl2 (tl2 (tl2 (tl2 (tl2 (tl2 (tl2 (tl2 (tl2 (tl2 (tl2 (tl2 (tl2 (tl2 (tl2 (tl2 (tl2 (tl2 (@ck44 α1 α2 α3 α4 α5 α6 α7 α8 α9 α10 α11 α12 α13 α14 α15 α16 α17 α18 α19 α20 α21 α22 α23 α24 α25 α26 α27 α28 α29 α30 α31 α32 α33 α34 α35 α36 α37 α38 α39 α40 α41 α42 α43 α44 i P))))))))))))))))))))))))))))))))) (hd2 (tl2 (tl2 (tl2 (tl2 (tl2 (tl2 (tl2 (tl2 (tl2 (tl2 (tl2 (tl2 (tl2 (tl2 (tl2 (tl2 (tl2 (tl2 (tl2 (tl2 (tl2 (tl2 (tl2 (tl2 (tl2 (tl2 (tl2 (tl2 (tl2 (tl2 (tl2 (tl2 (@ck44 α1 α2 α3 α4 α5 α6 α7 α8 α9 α10 α11 α12 α13 α14 α15 α16 α17 α18 α19 α20 α21 α22 α23 α24 α25 α26 α27 α28 α29 α30 α31 α32 α33 α34 α35 α36 α37 α38 α39 α40 α41 α42 α43 α44 i P)))))))))))))))))))))))))))))))))) (hd2 (tl2 (tl2 (tl2 (tl2 (tl2 (tl2 (tl2 (tl2 (tl2 (tl2 (tl2 (tl2 (tl2 (tl2 (tl2 (tl2 (tl2 (tl2 (tl2 (tl2 (tl2 (tl2 (tl2 (tl2 (tl2 (tl2 (tl2 (tl2 (tl2 (tl2 (tl2 (tl2 (tl2 (@ck44 α1 α2 α3 α4 α5 α6 α7 α8 α9 α10 α11 α12 α13 α14 α15 α16 α17 α18 α19 α20 α21 α22 α23 α24 α25 α26 α27 α28 α29 α30 α31 α32 α33 α34 α35 α36 α37 α38 α39 α40 α41 α42 α43 α44 i P))))))))))))))))))))))))))))))))))) (hd2 (tl2 (tl2 (tl2 (tl2 (tl2 (tl2 (tl2 (tl2 (tl2 (tl2 (tl2 (tl2 (tl2 (tl2 (tl2 (tl2 (tl2 (tl2 (tl2 (tl2 (tl2 (tl2 (tl2 (tl2 (tl2 (tl2 (tl2 (tl2 (tl2 (tl2 (tl2 (tl2 (tl2 (tl2 (@ck44 α1 α2 α3 α4 α5 α6 α7 α8 α9 α10 α11 α12 α13 α14 α15 α16 α17 α18 α19 α20 α21 α22 α23 α24 α25 α26 α27 α28 α29 α30 α31 α32 α33 α34 α35 α36 α37 α38 α39 α40 α41 α42 α43 α44 i P)))))))))))))))))))))))))))))))))))) (hd2 (tl2 (tl2 (tl2 (tl2 (tl2 (tl2 (tl2 (tl2 (tl2 (tl2 (tl2 (tl2 (tl2 (tl2 (tl2 (tl2 (tl2 (tl2 (tl2 (tl2 (tl2 (tl2 (tl2 (tl2 (tl2 (tl2 (tl2 (tl2 (tl2 (tl2 (tl2 (tl2 (tl2 (tl2 (tl2 (@ck44 α1 α2 α3 α4 α5 α6 α7 α8 α9 α10 α11 α12 α13 α14 α15 α16 α17 α18 α19 α20 α21 α22 α23 α24 α25 α26 α27 α28 α29 α30 α31 α32 α33 α34 α35 α36 α37 α38 α39 α40 α41 α42 α43 α44 i P))))))))))))))))))))))))))))))))))))) (hd2 (tl2 (tl2 (tl2 (tl2 (tl2 (tl2 (tl2 (tl2 (tl2 (tl2 (tl2 (tl2 (tl2 (tl2 (tl2 (tl2 (tl2 (tl2 (tl2 (tl2 (tl2 (tl2 (tl2 (tl2 (tl2 (tl2 (tl2 (tl2 (tl2 (tl2 (tl2 (tl2 (tl2 (tl2 (tl2 (tl2 (@ck44 α1 α2 α3 α4 α5 α6 α7 α8 α9 α10 α11 α12 α13 α14 α15 α16 α17 α18 α19 α20 α21 α22 α23 α24 α25 α26 α27 α28 α29 α30 α31 α32 α33 α34 α35 α36 α37 α38 α39 α40 α41 α42 α43 α44 i P)))))))))))))))))))))))))))))))))))))) (hd2 (tl2 (tl2 (tl2 (tl2 (tl2 (tl2 (tl2 (tl2 (tl2 (tl2 (tl2 (tl2 (tl2 (tl2 (tl2 (tl2 (tl2 (tl2 (tl2 (tl2 (tl2 (tl2 (tl2 (tl2 (tl2 (tl2 (tl2 (tl2 (tl2 (tl2 (tl2 (tl2 (tl2 (tl2 (tl2 (tl2 (tl2 (@ck44 α1 α2 α3 α4 α5 α6 α7 α8 α9 α10 α11 α12 α13 α14 α15 α16 α17 α18 α19 α20 α21 α22 α23 α24 α25 α26 α27 α28 α29 α30 α31 α32 α33 α34 α35 α36 α37 α38 α39 α40 α41 α42 α43 α44 i P))))))))))))))))))))))))))))))))))))))) (hd2 (tl2 (tl2 (tl2 (tl2 (tl2 (tl2 (tl2 (tl2 (tl2 (tl2 (tl2 (tl2 (tl2 (tl2 (tl2 (tl2 (tl2 (tl2 (tl2 (tl2 (tl2 (tl2 (tl2 (tl2 (tl2 (tl2 (tl2 (tl2 (tl2 (tl2 (tl2 (tl2 (tl2 (tl2 (tl2 (tl2 (tl2 (tl2 (@ck44 α1 α2 α3 α4 α5 α6 α7 α8 α9 α10 α11 α12 α13 α14 α15 α16 α17 α18 α19 α20 α21 α22 α23 α24 α25 α26 α27 α28 α29 α30 α31 α32 α33 α34 α35 α36 α37 α38 α39 α40 α41 α42 α43 α44 i P)))))))))))))))))))))))))))))))))))))))) (hd2 (tl2 (tl2 (tl2 (tl2 (tl2 (tl2 (tl2 (tl2 (tl2 (tl2 (tl2 (tl2 (tl2 (tl2 (tl2 (tl2 (tl2 (tl2 (tl2 (tl2 (tl2 (tl2 (tl2 (tl2 (tl2 (tl2 (tl2 (tl2 (tl2 (tl2 (tl2 (tl2 (tl2 (tl2 (tl2 (tl2 (tl2 (tl2 (tl2 (@ck44 α1 α2 α3 α4 α5 α6 α7 α8 α9 α10 α11 α12 α13 α14 α15 α16 α17 α18 α19 α20 α21 α22 α23 α24 α25 α26 α27 α28 α29 α30 α31 α32 α33 α34 α35 α36 α37 α38 α39 α40 α41 α42 α43 α44 i P))))))))))))))))))))))))))))))))))))))))) (hd2 (tl2 (tl2 (tl2 (tl2 (tl2 (tl2 (tl2 (tl2 (tl2 (tl2 (tl2 (tl2 (tl2 (tl2 (tl2 (tl2 (tl2 (tl2 (tl2 (tl2 (tl2 (tl2 (tl2 (tl2 (tl2 (tl2 (tl2 (tl2 (tl2 (tl2 (tl2 (tl2 (tl2 (tl2 (tl2 (tl2 (tl2 (tl2 (tl2 (tl2 (@ck44 α1 α2 α3 α4 α5 α6 α7 α8 α9 α10 α11 α12 α13 α14 α15 α16 α17 α18 α19 α20 α21 α22 α23 α24 α25 α26 α27 α28 α29 α30 α31 α32 α33 α34 α35 α36 α37 α38 α39 α40 α41 α42 α43 α44 i P)))))))))))))))))))))))))))))))))))))))))) (hd2 (tl2 (tl2 (tl2 (tl2 (tl2 (tl2 (tl2 (tl2 (tl2 (tl2 (tl2 (tl2 (tl2 (tl2 (tl2 (tl2 (tl2 (tl2 (tl2 (tl2 (tl2 (tl2 (tl2 (tl2 (tl2 (tl2 (tl2 (tl2 (tl2 (tl2 (tl2 (tl2 (tl2 (tl2 (tl2 (tl2 (tl2 (tl2 (tl2 (tl2 (tl2 (@ck44 α1 α2 α3 α4 α5 α6 α7 α8 α9 α10 α11 α12 α13 α14 α15 α16 α17 α18 α19 α20 α21 α22 α23 α24 α25 α26 α27 α28 α29 α30 α31 α32 α33 α34 α35 α36 α37 α38 α39 α40 α41 α42 α43 α44 i P))))))))))))))))))))))))))))))))))))))))))) (hd2 (tl2 (tl2 (tl2 (tl2 (tl2 (tl2 (tl2 (tl2 (tl2 (tl2 (tl2 (tl2 (tl2 (tl2 (tl2 (tl2 (tl2 (tl2 (tl2 (tl2 (tl2 (tl2 (tl2 (tl2 (tl2 (tl2 (tl2 (tl2 (tl2 (tl2 (tl2 (tl2 (tl2 (tl2 (tl2 (tl2 (tl2 (tl2 (tl2 (tl2 (tl2 (tl2 (@ck44 α1 α2 α3 α4 α5 α6 α7 α8 α9 α10 α11 α12 α13 α14 α15 α16 α17 α18 α19 α20 α21 α22 α23 α24 α25 α26 α27 α28 α29 α30 α31 α32 α33 α34 α35 α36 α37 α38 α39 α40 α41 α42 α43 α44 i P)))))))))))))))))))))))))))))))))))))))))))) (tl2 (tl2 (tl2 (tl2 (tl2 (tl2 (tl2 (tl2 (tl2 (tl2 (tl2 (tl2 (tl2 (tl2 (tl2 (tl2 (tl2 (tl2 (tl2 (tl2 (tl2 (tl2 (tl2 (tl2 (tl2 (tl2 (tl2 (tl2 (tl2 (tl2 (tl2 (tl2 (tl2 (tl2 (tl2 (tl2 (tl2 (tl2 (tl2 (tl2 (tl2 (tl2 (tl2 (@ck44 α1 α2 α3 α4 α5 α6 α7 α8 α9 α10 α11 α12 α13 α14 α15 α16 α17 α18 α19 α20 α21 α22 α23 α24 α25 α26 α27 α28 α29 α30 α31 α32 α33 α34 α35 α36 α37 α38 α39 α40 α41 α42 α43 α44 i P))))))))))))))))))))))))))))))))))))))))))))) : ∀ x1 x2 x3 x4 x5 x6 x7 x8 x9 x10 x11 x12 x13 x14 x15 x16 x17 x18 x19 x20 x21 x22 x23 x24 x25 x26 x27 x28 x29 x30 x31 x32 x33 x34 x35 x36 x37 x38 x39 x40 x41 x42 x43 x44, P x1 x2 x3 x4 x5 x6 x7 x8 x9 x10 x11 x12 x13 x14 x15 x16 x17 x18 x19 x20 x21 x22 x23 x24 x25 x26 x27 x28 x29 x30 x31 x32 x33 x34 x35 x36 x37 x38 x39 x40 x41 x42 x43 x44 := fun x1 x2 x3 x4 x5 x6 x7 x8 x9 x10 x11 x12 x13 x14 x15 x16 x17 x18 x19 x20 x21 x22 x23 x24 x25 x26 x27 x28 x29 x30 x31 x32 x33 x34 x35 x36 x37 x38 x39 x40 x41 x42 x43 x44 => Classical.byContradiction fun hn => @Classical.epsilon_spec _ (fun t => ¬ P (hd2 t) (hd2 (tl2 t)) (hd2 (tl2 (tl2 t))) (hd2 (tl2 (tl2 (tl2 t)))) (hd2 (tl2 (tl2 (tl2 (tl2 t))))) (hd2 (tl2 (tl2 (tl2 (tl2 (tl2 t)))))) (hd2 (tl2 (tl2 (tl2 (tl2 (tl2 (tl2 t))))))) (hd2 (tl2 (tl2 (tl2 (tl2 (tl2 (tl2 (tl2 t)))))))) (hd2 (tl2 (tl2 (tl2 (tl2 (tl2 (tl2 (tl2 (tl2 t))))))))) (hd2 (tl2 (tl2 (tl2 (tl2 (tl2 (tl2 (tl2 (tl2 (tl2 t)))))))))) (hd2 (tl2 (tl2 (tl2 (tl2 (tl2 (tl2 (tl2 (tl2 (tl2 (tl2 t))))))))))) (hd2 (tl2 (tl2 (tl2 (tl2 (tl2 (tl2 (tl2 (tl2 (tl2 (tl2 (tl2 t)))))))))))) (hd2 (tl2 (tl2 (tl2 (tl2 (tl2 (tl2 (tl2 (tl2 (tl2 (tl2 (tl2 (tl2 t))))))))))))) (hd2 (tl2 (tl2 (tl2 (tl2 (tl2 (tl2 (tl2 (tl2 (tl2 (tl2 (tl2 (tl2 (tl2 t)))))))))))))) (hd2 (tl2 (tl2 (tl2 (tl2 (tl2 (tl2 (tl2 (tl2 (tl2 (tl2 (tl2 (tl2 (tl2 (tl2 t))))))))))))))) (hd2 (tl2 (tl2 (tl2 (tl2 (tl2 (tl2 (tl2 (tl2 (tl2 (tl2 (tl2 (tl2 (tl2 (tl2 (tl2 t)))))))))))))))) (hd2 (tl2 (tl2 (tl2 (tl2 (tl2 (tl2 (tl2 (tl2 (tl2 (tl2 (tl2 (tl2 (tl2 (tl2 (tl2 (tl2 t))))))))))))))))) (hd2 (tl2 (tl2 (tl2 (tl2 (tl2 (tl2 (tl2 (tl2 (tl2 (tl2 (tl2 (tl2 (tl2 (tl2 (tl2 (tl2 (tl2 t)))))))))))))))))) (hd2 (tl2 (tl2 (tl2 (tl2 (tl2 (tl2 (tl2 (tl2 (tl2 (tl2 (tl2 (tl2 (tl2 (tl2 (tl2 (tl2 (tl2 (tl2 t))))))))))))))))))) (hd2 (tl2 (tl2 (tl2 (tl2 (tl2 (tl2 (tl2 (tl2 (tl2 (tl2 (tl2 (tl2 (tl2 (tl2 (tl2 (tl2 (tl2 (tl2 (tl2 t)))))))))))))))))))) (hd2 (tl2 (tl2 (tl2 (tl2 (tl2 (tl2 (tl2 (tl2 (tl2 (tl2 (tl2 (tl2 (tl2 (tl2 (tl2 (tl2 (tl2 (tl2 (tl2 (tl2 t))))))))))))))))))))) (hd2 (tl2 (tl2 (tl2 (tl2 (tl2 (tl2 (tl2 (tl2 (tl2 (tl2 (tl2 (tl2 (tl2 (tl2 (tl2 (tl2 (tl2 (tl2 (tl2 (tl2 (tl2 t)))))))))))))))))))))) (hd2 (tl2 (tl2 (tl2 (tl2 (tl2 (tl2 (tl2 (tl2 (tl2 (tl2 (tl2 (tl2 (tl2 (tl2 (tl2 (tl2 (tl2 (tl2 (tl2 (tl2 (tl2 (tl2 t))))))))))))))))))))))) (hd2 (tl2 (tl2 (tl2 (tl2 (tl2 (tl2 (tl2 (tl2 (tl2 (tl2 (tl2 (tl2 (tl2 (tl2 (tl2 (tl2 (tl2 (tl2 (tl2 (tl2 (tl2 (tl2 (tl2 t)))))))))))))))))))))))) (hd2 (tl2 (tl2 (tl2 (tl2 (tl2 (tl2 (tl2 (tl2 (tl2 (tl2 (tl2 (tl2 (tl2 (tl2 (tl2 (tl2 (tl2 (tl2 (tl2 (tl2 (tl2 (tl2 (tl2 (tl2 t))))))))))))))))))))))))) (hd2 (tl2 (tl2 (tl2 (tl2 (tl2 (tl2 (tl2 (tl2 (tl2 (tl2 (tl2 (tl2 (tl2 (tl2 (tl2 (tl2 (tl2 (tl2 (tl2 (tl2 (tl2 (tl2 (tl2 (tl2 (tl2 t)))))))))))))))))))))))))) (hd2 (tl2 (tl2 (tl2 (tl2 (tl2 (tl2 (tl2 (tl2 (tl2 (tl2 (tl2 (tl2 (tl2 (tl2 (tl2 (tl2 (tl2 (tl2 (tl2 (tl2 (tl2 (tl2 (tl2 (tl2 (tl2 (tl2 t))))))))))))))))))))))))))) (hd2 (tl2 (tl2 (tl2 (tl2 (tl2 (tl2 (tl2 (tl2 (tl2 (tl2 (tl2 (tl2 (tl2 (tl2 (tl2 (tl2 (tl2 (tl2 (tl2 (tl2 (tl2 (tl2 (tl2 (tl2 (tl2 (tl2 (tl2 t)))))))))))))))))))))))))))) (hd2 (tl2 (tl2 (tl2 (tl2 (tl2 (tl2 (tl2 (tl2 (tl2 (tl2 (tl2 (tl2 (tl2 (tl2 (tl2 (tl2 (tl2 (tl2 (tl2 (tl2 (tl2 (tl2 (tl2 (tl2 (tl2 (tl2 (tl2 (tl2 t))))))))))))))))))))))))))))) (hd2 (tl2 (tl2 (tl2 (tl2 (tl2 (tl2 (tl2 (tl2 (tl2 (tl2 (tl2 (tl2 (tl2 (tl2 (tl2 (tl2 (tl2 (tl2 (tl2 (tl2 (tl2 (tl2 (tl2 (tl2 (tl2 (tl2 (tl2 (tl2 (tl2 t)))))))))))))))))))))))))))))) (hd2 (tl2 (tl2 (tl2 (tl2 (tl2 (tl2 (tl2 (tl2 (tl2 (tl2 (tl2 (tl2 (tl2 (tl2 (tl2 (tl2 (tl2 (tl2 (tl2 (tl2 (tl2 (tl2 (tl2 (tl2 (tl2 (tl2 (tl2 (tl2 (tl2 (tl2 t))))))))))))))))))))))))))))))) (hd2 (tl2 (tl2 (tl2 (tl2 (tl2 (tl2 (tl2 (tl2 (tl2 (tl2 (tl2 (tl2 (tl2 (tl2 (tl2 (tl2 (tl2 (tl2 (tl2 (tl2 (tl2 (tl2 (tl2 (tl2 (tl2 (tl2 (tl2 (tl2 (tl2 (tl2 (tl2 t)))))))))))))))))))))))))))))))) (hd2 (tl2 (tl2 (tl2 (tl2 (tl2 (tl2 (tl2 (tl2 (tl2 (tl2 (tl2 (tl2 (tl2 (tl2 (tl2 (tl2 (tl2 (tl2 (tl2 (tl2 (tl2 (tl2 (tl2 (tl2 (tl2 (tl2 (tl2 (tl2 (tl2 (tl2 (tl2 (tl2 t))))))))))))))))))))))))))))))))) (hd2 (tl2 (tl2 (tl2 (tl2 (tl2 (tl2 (tl2 (tl2 (tl2 (tl2 (tl2 (tl2 (tl2 (tl2 (tl2 (tl2 (tl2 (tl2 (tl2 (tl2 (tl2 (tl2 (tl2 (tl2 (tl2 (tl2 (tl2 (tl2 (tl2 (tl2 (tl2 (tl2 (tl2 t)))))))))))))))))))))))))))))))))) (hd2 (tl2 (tl2 (tl2 (tl2 (tl2 (tl2 (tl2 (tl2 (tl2 (tl2 (tl2 (tl2 (tl2 (tl2 (tl2 (tl2 (tl2 (tl2 (tl2 (tl2 (tl2 (tl2 (tl2 (tl2 (tl2 (tl2 (tl2 (tl2 (tl2 (tl2 (tl2 (tl2 (tl2 (tl2 t))))))))))))))))))))))))))))))))))) (hd2 (tl2 (tl2 (tl2 (tl2 (tl2 (tl2 (tl2 (tl2 (tl2 (tl2 (tl2 (tl2 (tl2 (tl2 (tl2 (tl2 (tl2 (tl2 (tl2 (tl2 (tl2 (tl2 (tl2 (tl2 (tl2 (tl2 (tl2 (tl2 (tl2 (tl2 (tl2 (tl2 (tl2 (tl2 (tl2 t)))))))))))))))))))))))))))))))))))) (hd2 (tl2 (tl2 (tl2 (tl2 (tl2 (tl2 (tl2 (tl2 (tl2 (tl2 (tl2 (tl2 (tl2 (tl2 (tl2 (tl2 (tl2 (tl2 (tl2 (tl2 (tl2 (tl2 (tl2 (tl2 (tl2 (tl2 (tl2 (tl2 (tl2 (tl2 (tl2 (tl2 (tl2 (tl2 (tl2 (tl2 t))))))))))))))))))))))))))))))))))))) (hd2 (tl2 (tl2 (tl2 (tl2 (tl2 (tl2 (tl2 (tl2 (tl2 (tl2 (tl2 (tl2 (tl2 (tl2 (tl2 (tl2 (tl2 (tl2 (tl2 (tl2 (tl2 (tl2 (tl2 (tl2 (tl2 (tl2 (tl2 (tl2 (tl2 (tl2 (tl2 (tl2 (tl2 (tl2 (tl2 (tl2 (tl2 t)))))))))))))))))))))))))))))))))))))) (hd2 (tl2 (tl2 (tl2 (tl2 (tl2 (tl2 (tl2 (tl2 (tl2 (tl2 (tl2 (tl2 (tl2 (tl2 (tl2 (tl2 (tl2 (tl2 (tl2 (tl2 (tl2 (tl2 (tl2 (tl2 (tl2 (tl2 (tl2 (tl2 (tl2 (tl2 (tl2 (tl2 (tl2 (tl2 (tl2 (tl2 (tl2 (tl2 t))))))))))))))))))))))))))))))))))))))) (hd2 (tl2 (tl2 (tl2 (tl2 (tl2 (tl2 (tl2 (tl2 (tl2 (tl2 (tl2 (tl2 (tl2 (tl2 (tl2 (tl2 (tl2 (tl2 (tl2 (tl2 (tl2 (tl2 (tl2 (tl2 (tl2 (tl2 (tl2 (tl2 (tl2 (tl2 (tl2 (tl2 (tl2 (tl2 (tl2 (tl2 (tl2 (tl2 (tl2 t)))))))))))))))))))))))))))))))))))))))) (hd2 (tl2 (tl2 (tl2 (tl2 (tl2 (tl2 (tl2 (tl2 (tl2 (tl2 (tl2 (tl2 (tl2 (tl2 (tl2 (tl2 (tl2 (tl2 (tl2 (tl2 (tl2 (tl2 (tl2 (tl2 (tl2 (tl2 (tl2 (tl2 (tl2 (tl2 (tl2 (tl2 (tl2 (tl2 (tl2 (tl2 (tl2 (tl2 (tl2 (tl2 t))))))))))))))))))))))))))))))))))))))))) (hd2 (tl2 (tl2 (tl2 (tl2 (tl2 (tl2 (tl2 (tl2 (tl2 (tl2 (tl2 (tl2 (tl2 (tl2 (tl2 (tl2 (tl2 (tl2 (tl2 (tl2 (tl2 (tl2 (tl2 (tl2 (tl2 (tl2 (tl2 (tl2 (tl2 (tl2 (tl2 (tl2 (tl2 (tl2 (tl2 (tl2 (tl2 (tl2 (tl2 (tl2 (tl2 t)))))))))))))))))))))))))))))))))))))))))) (hd2 (tl2 (tl2 (tl2 (tl2 (tl2 (tl2 (tl2 (tl2 (tl2 (tl2 (tl2 (tl2 (tl2 (tl2 (tl2 (tl2 (tl2 (tl2 (tl2 (tl2 (tl2 (tl2 (tl2 (tl2 (tl2 (tl2 (tl2 (tl2 (tl2 (tl2 (tl2 (tl2 (tl2 (tl2 (tl2 (tl2 (tl2 (tl2 (tl2 (tl2 (tl2 (tl2 t))))))))))))))))))))))))))))))))))))))))))) (tl2 (tl2 (tl2 (tl2 (tl2 (tl2 (tl2 (tl2 (tl2 (tl2 (tl2 (tl2 (tl2 (tl2 (tl2 (tl2 (tl2 (tl2 (tl2 (tl2 (tl2 (tl2 (tl2 (tl2 (tl2 (tl2 (tl2 (tl2 (tl2 (tl2 (tl2 (tl2 (tl2 (tl2 (tl2 (tl2 (tl2 (tl2 (tl2 (tl2 (tl2 (tl2 (tl2 t)))))))))))))))))))))))))))))))))))))))))))) ⟨(x1, x2, x3, x4, x5, x6, x7, x8, x9, x10, x11, x12, x13, x14, x15, x16, x17, x18, x19, x20, x21, x22, x23, x24, x25, x26, x27, x28, x29, x30, x31, x32, x33, x34, x35, x36, x37, x38, x39, x40, x41, x42, x43, x44), hn⟩ h
noncomputable def ck50 {α1 α2 α3 α4 α5 α6 α7 α8 α9 α10 α11 α12 α13 α14 α15 α16 α17 α18 α19 α20 α21 α22 α23 α24 α25 α26 α27 α28 α29 α30 α31 α32 α33 α34 α35 α36 α37 α38 α39 α40 α41 α42 α43 α44 α45 α46 α47 α48 α49 α50 : Type} {i : Nonempty (α1 × α2 × α3 × α4 × α5 × α6 × α7 × α8 × α9 × α10 × α11 × α12 × α13 × α14 × α15 × α16 × α17 × α18 × α19 × α20 × α21 × α22 × α23 × α24 × α25 × α26 × α27 × α28 × α29 × α30 × α31 × α32 × α33 × α34 × α35 × α36 × α37 × α38 × α39 × α40 × α41 × α42 × α43 × α44 × α45 × α46 × α47 × α48 × α49 × α50)} (P : α1 → α2 → α3 → α4 → α5 → α6 → α7 → α8 → α9 → α10 → α11 → α12 → α13 → α14 → α15 → α16 → α17 → α18 → α19 → α20 → α21 → α22 → α23 → α24 → α25 → α26 → α27 → α28 → α29 → α30 → α31 → α32 → α33 → α34 → α35 → α36 → α37 → α38 → α39 → α40 → α41 → α42 → α43 → α44 → α45 → α46 → α47 → α48 → α49 → α50 → Prop) : α1 × α2 × α3 × α4 × α5 × α6 × α7 × α8 × α9 × α10 × α11 × α12 × α13 × α14 × α15 × α16 × α17 × α18 × α19 × α20 × α21 × α22 × α23 × α24 × α25 × α26 × α27 × α28 × α29 × α30 × α31 × α32 × α33 × α34 × α35 × α36 × α37 × α38 × α39 × α40 × α41 × α42 × α43 × α44 × α45 × α46 × α47 × α48 × α49 × α50 := @Classical.epsilon _ i fun t => ¬ P (hd2 t) (hd2 (tl2 t)) (hd2 (tl2 (tl2 t))) (hd2 (tl2 (tl2 (tl2 t)))) (hd2 (tl2 (tl2 (tl2 (tl2 t))))) (hd2 (tl2 (tl2 (tl2 (tl2 (tl2 t)))))) (hd2 (tl2 (tl2 (tl2 (tl2 (tl2 (tl2 t))))))) (hd2 (tl2 (tl2 (tl2 (tl2 (tl2 (tl2 (tl2 t)))))))) (hd2 (tl2 (tl2 (tl2 (tl2 (tl2 (tl2 (tl2 (tl2 t))))))))) (hd2 (tl2 (tl2 (tl2 (tl2 (tl2 (tl2 (tl2 (tl2 (tl2 t)))))))))) (hd2 (tl2 (tl2 (tl2 (tl2 (tl2 (tl2 (tl2 (tl2 (tl2 (tl2 t))))))))))) (hd2 (tl2 (tl2 (tl2 (tl2 (tl2 (tl2 (tl2 (tl2 (tl2 (tl2 (tl2 t)))))))))))) (hd2 (tl2 (tl2 (tl2 (tl2 (tl2 (tl2 (tl2 (tl2 (tl2 (tl2 (tl2 (tl2 t))))))))))))) (hd2 (tl2 (tl2 (tl2 (tl2 (tl2 (tl2 (tl2 (tl2 (tl2 (tl2 (tl2 (tl2 (tl2 t)))))))))))))) (hd2 (tl2 (tl2 (tl2 (tl2 (tl2 (tl2 (tl2 (tl2 (tl2 (tl2 (tl2 (tl2 (tl2 (tl2 t))))))))))))))) (hd2 (tl2 (tl2 (tl2 (tl2 (tl2 (tl2 (tl2 (tl2 (tl2 (tl2 (tl2 (tl2 (tl2 (tl2 (tl2 t)))))))))))))))) (hd2 (tl2 (tl2 (tl2 (tl2 (tl2 (tl2 (tl2 (tl2 (tl2 (tl2 (tl2 (tl2 (tl2 (tl2 (tl2 (tl2 t))))))))))))))))) (hd2 (tl2 (tl2 (tl2 (tl2 (tl2 (tl2 (tl2 (tl2 (tl2 (tl2 (tl2 (tl2 (tl2 (tl2 (tl2 (tl2 (tl2 t)))))))))))))))))) (hd2 (tl2 (tl2 (tl2 (tl2 (tl2 (tl2 (tl2 (tl2 (tl2 (tl2 (tl2 (tl2 (tl2 (tl2 (tl2 (tl2 (tl2 (tl2 t))))))))))))))))))) (hd2 (tl2 (tl2 (tl2 (tl2 (tl2 (tl2 (tl2 (tl2 (tl2 (tl2 (tl2 (tl2 (tl2 (tl2 (tl2 (tl2 (tl2 (tl2 (tl2 t)))))))))))))))))))) (hd2 (tl2 (tl2 (tl2 (tl2 (tl2 (tl2 (tl2 (tl2 (tl2 (tl2 (tl2 (tl2 (tl2 (tl2 (tl2 (tl2 (tl2 (tl2 (tl2 (tl2 t))))))))))))))))))))) (hd2 (tl2 (tl2 (tl2 (tl2 (tl2 (tl2 (tl2 (tl2 (tl2 (tl2 (tl2 (tl2 (tl2 (tl2 (tl2 (tl2 (tl2 (tl2 (tl2 (tl2 (tl2 t)))))))))))))))))))))) (hd2 (tl2 (tl2 (tl2 (tl2 (tl2 (tl2 (tl2 (tl2 (tl2 (tl2 (tl2 (tl2 (tl2 (tl2 (tl2 (tl2 (tl2 (tl2 (tl2 (tl2 (tl2 (tl2 t))))))))))))))))))))))) (hd2 (tl2 (tl2 (tl2 (tl2 (tl2 (tl2 (tl2 (tl2 (tl2 (tl2 (tl2 (tl2 (tl2 (tl2 (tl2 (tl2 (tl2 (tl2 (tl2 (tl2 (tl2 (tl2 (tl2 t)))))))))))))))))))))))) (hd2 (tl2 (tl2 (tl2 (tl2 (tl2 (tl2 (tl2 (tl2 (tl2 (tl2 (tl2 (tl2 (tl2 (tl2 (tl2 (tl2 (tl2 (tl2 (tl2 (tl2 (tl2 (tl2 (tl2 (tl2 t))))))))))))))))))))))))) (hd2 (tl2 (tl2 (tl2 (tl2 (tl2 (tl2 (tl2 (tl2 (tl2 (tl2 (tl2 (tl2 (tl2 (tl2 (tl2 (tl2 (tl2 (tl2 (tl2 (tl2 (tl2 (tl2 (tl2 (tl2 (tl2 t)))))))))))))))))))))))))) (hd2 (tl2 (tl2 (tl2 (tl2 (tl2 (tl2 (tl2 (tl2 (tl2 (tl2 (tl2 (tl2 (tl2 (tl2 (tl2 (tl2 (tl2 (tl2 (tl2 (tl2 (tl2 (tl2 (tl2 (tl2 (tl2 (tl2 t))))))))))))))))))))))))))) (hd2 (tl2 (tl2 (tl2 (tl2 (tl2 (tl2 (tl2 (tl2 (tl2 (tl2 (tl2 (tl2 (tl2 (tl2 (tl2 (tl2 (tl2 (tl2 (tl2 (tl2 (tl2 (tl2 (tl2 (tl2 (tl2 (tl2 (tl2 t)))))))))))))))))))))))))))) (hd2 (tl2 (tl2 (tl2 (tl2 (tl2 (tl2 (tl2 (tl2 (tl2 (tl2 (tl2 (tl2 (tl2 (tl2 (tl2 (tl2 (tl2 (tl2 (tl2 (tl2 (tl2 (tl2 (tl2 (tl2 (tl2 (tl2 (tl2 (tl2 t))))))))))))))))))))))))))))) (hd2 (tl2 (tl2 (tl2 (tl2 (tl2 (tl2 (tl2 (tl2 (tl2 (tl2 (tl2 (tl2 (tl2 (tl2 (tl2 (tl2 (tl2 (tl2 (tl2 (tl2 (tl2 (tl2 (tl2 (tl2 (tl2 (tl2 (tl2 (tl2 (tl2 t)))))))))))))))))))))))))))))) (hd2 (tl2 (tl2 (tl2 (tl2 (tl2 (tl2 (tl2 (tl2 (tl2 (tl2 (tl2 (tl2 (tl2 (tl2 (tl2 (tl2 (tl2 (tl2 (tl2 (tl2 (tl2 (tl2 (tl2 (tl2 (tl2 (tl2 (tl2 (tl2 (tl2 (tl2 t))))))))))))))))))))))))))))))) (hd2 (tl2 (tl2 (tl2 (tl2 (tl2 (tl2 (tl2 (tl2 (tl2 (tl2 (tl2 (tl2 (tl2 (tl2 (tl2 (tl2 (tl2 (tl2 (tl2 (tl2 (tl2 (tl2 (tl2 (tl2 (tl2 (tl2 (tl2 (tl2 (tl2 (tl2 (tl2 t)))))))))))))))))))))))))))))))) (hd2 (tl2 (tl2 (tl2 (tl2 (tl2 (tl2 (tl2 (tl2 (tl2 (tl2 (tl2 (tl2 (tl2 (tl2 (tl2 (tl2 (tl2 (tl2 (tl2 (tl2 (tl2 (tl2 (tl2 (tl2 (tl2 (tl2 (tl2 (tl2 (tl2 (tl2 (tl2 (tl2 t))))))))))))))))))))))))))))))))) (hd2 (tl2 (tl2 (tl2 (tl2 (tl2 (tl2 (tl2 (tl2 (tl2 (tl2 (tl2 (tl2 (tl2 (tl2 (tl2 (tl2 (tl2 (tl2 (tl2 (tl2 (tl2 (tl2 (tl2 (tl2 (tl2 (tl2 (tl2 (tl2 (tl2 (tl2 (tl2 (tl2 (tl2 t)))))))))))))))))))))))))))))))))) (hd2 (tl2 (tl2 (tl2 (tl2 (tl2 (tl2 (tl2 (tl2 (tl2 (tl2 (tl2 (tl2 (tl2 (tl2 (tl2 (tl2 (tl2 (tl2 (tl2 (tl2 (tl2 (tl2 (tl2 (tl2 (tl2 (tl2 (tl2 (tl2 (tl2 (tl2 (tl2 (tl2 (tl2 (tl2 t))))))))))))))))))))))))))))))))))) (hd2 (tl2 (tl2 (tl2 (tl2 (tl2 (tl2 (tl2 (tl2 (tl2 (tl2 (tl2 (tl2 (tl2 (tl2 (tl2 (tl2 (tl2 (tl2 (tl2 (tl2 (tl2 (tl2 (tl2 (tl2 (tl2 (tl2 (tl2 (tl2 (tl2 (tl2 (tl2 (tl2 (tl2 (tl2 (tl2 t)))))))))))))))))))))))))))))))))))) (hd2 (tl2 (tl2 (tl2 (tl2 (tl2 (tl2 (tl2 (tl2 (tl2 (tl2 (tl2 (tl2 (tl2 (tl2 (tl2 (tl2 (tl2 (tl2 (tl2 (tl2 (tl2 (tl2 (tl2 (tl2 (tl2 (tl2 (tl2 (tl2 (tl2 (tl2 (tl2 (tl2 (tl2 (tl2 (tl2 (tl2 t))))))))))))))))))))))))))))))))))))) (hd2 (tl2 (tl2 (tl2 (tl2 (tl2 (tl2 (tl2 (tl2 (tl2 (tl2 (tl2 (tl2 (tl2 (tl2 (tl2 (tl2 (tl2 (tl2 (tl2 (tl2 (tl2 (tl2 (tl2 (tl2 (tl2 (tl2 (tl2 (tl2 (tl2 (tl2 (tl2 (tl2 (tl2 (tl2 (tl2 (tl2 (tl2 t)))))))))))))))))))))))))))))))))))))) (hd2 (tl2 (tl2 (tl2 (tl2 (tl2 (tl2 (tl2 (tl2 (tl2 (tl2 (tl2 (tl2 (tl2 (tl2 (tl2 (tl2 (tl2 (tl2 (tl2 (tl2 (tl2 (tl2 (tl2 (tl2 (tl2 (tl2 (tl2 (tl2 (tl2 (tl2 (tl2 (tl2 (tl2 (tl2 (tl2 (tl2 (tl2 (tl2 t))))))))))))))))))))))))))))))))))))))) (hd2 (tl2 (tl2 (tl2 (tl2 (tl2 (tl2 (tl2 (tl2 (tl2 (tl2 (tl2 (tl2 (tl2 (tl2 (tl2 (tl2 (tl2 (tl2 (tl2 (tl2 (tl2 (tl2 (tl2 (tl2 (tl2 (tl2 (tl2 (tl2 (tl2 (tl2 (tl2 (tl2 (tl2 (tl2 (tl2 (tl2 (tl2 (tl2 (tl2 t)))))))))))))))))))))))))))))))))))))))) (hd2 (tl2 (tl2 (tl2 (tl2 (tl2 (tl2 (tl2 (tl2 (tl2 (tl2 (tl2 (tl2 (tl2 (tl2 (tl2 (tl2 (tl2 (tl2 (tl2 (tl2 (tl2 (tl2 (tl2 (tl2 (tl2 (tl2 (tl2 (tl2 (tl2 (tl2 (tl2 (tl2 (tl2 (tl2 (tl2 (tl2 (tl2 (tl2 (tl2 (tl2 t))))))))))))))))))))))))))))))))))))))))) (hd2 (tl2 (tl2 (tl2 (tl2 (tl2 (tl2 (tl2 (tl2 (tl2 (tl2 (tl2 (tl2 (tl2 (tl2 (tl2 (tl2 (tl2 (tl2 (tl2 (tl2 (tl2 (tl2 (tl2 (tl2 (tl2 (tl2 (tl2 (tl2 (tl2 (tl2 (tl2 (tl2 (tl2 (tl2 (tl2 (tl2 (tl2 (tl2 (tl2 (tl2 (tl2 t)))))))))))))))))))))))))))))))))))))))))) (hd2 (tl2 (tl2 (tl2 (tl2 (tl2 (tl2 (tl2 (tl2 (tl2 (tl2 (tl2 (tl2 (tl2 (tl2 (tl2 (tl2 (tl2 (tl2 (tl2 (tl2 (tl2 (tl2 (tl2 (tl2 (tl2 (tl2 (tl2 (tl2 (tl2 (tl2 (tl2 (tl2 (tl2 (tl2 (tl2 (tl2 (tl2 (tl2 (tl2 (tl2 (tl2 (tl2 t))))))))))))))))))))))))))))))))))))))))))) (hd2 (tl2 (tl2 (tl2 (tl2 (tl2 (tl2 (tl2 (tl2 (tl2 (tl2 (tl2 (tl2 (tl2 (tl2 (tl2 (tl2 (tl2 (tl2 (tl2 (tl2 (tl2 (tl2 (tl2 (tl2 (tl2 (tl2 (tl2 (tl2 (tl2 (tl2 (tl2 (tl2 (tl2 (tl2 (tl2 (tl2 (tl2 (tl2 (tl2 (tl2 (tl2 (tl2 (tl2 t)))))))))))))))))))))))))))))))))))))))))))) (hd2 (tl2 (tl2 (tl2 (tl2 (tl2 (tl2 (tl2 (tl2 (tl2 (tl2 (tl2 (tl2 (tl2 (tl2 (tl2 (tl2 (tl2 (tl2 (tl2 (tl2 (tl2 (tl2 (tl2 (tl2 (tl2 (tl2 (tl2 (tl2 (tl2 (tl2 (tl2 (tl2 (tl2 (tl2 (tl2 (tl2 (tl2 (tl2 (tl2 (tl2 (tl2 (tl2 (tl2 (tl2 t))))))))))))))))))))))))))))))))))))))))))))) (hd2 (tl2 (tl2 (tl2 (tl2 (tl2 (tl2 (tl2 (tl2 (tl2 (tl2 (tl2 (tl2 (tl2 (tl2 (tl2 (tl2 (tl2 (tl2 (tl2 (tl2 (tl2 (tl2 (tl2 (tl2 (tl2 (tl2 (tl2 (tl2 (tl2 (tl2 (tl2 (tl2 (tl2 (tl2 (tl2 (tl2 (tl2 (tl2 (tl2 (tl2 (tl2 (tl2 (tl2 (tl2 (tl2 t)))))))))))))))))))))))))))))))))))))))))))))) (hd2 (tl2 (tl2 (tl2 (tl2 (tl2 (tl2 (tl2 (tl2 (tl2 (tl2 (tl2 (tl2 (tl2 (tl2 (tl2 (tl2 (tl2 (tl2 (tl2 (tl2 (tl2 (tl2 (tl2 (tl2 (tl2 (tl2 (tl2 (tl2 (tl2 (tl2 (tl2 (tl2 (tl2 (tl2 (tl2 (tl2 (tl2 (tl2 (tl2 (tl2 (tl2 (tl2 (tl2 (tl2 (tl2 (tl2 t))))))))))))))))))))))))))))))))))))))))))))))) (hd2 (tl2 (tl2 (tl2 (tl2 (tl2 (tl2 (tl2 (tl2 (tl2 (tl2 (tl2 (tl2 (tl2 (tl2 (tl2 (tl2 (tl2 (tl2 (tl2 (tl2 (tl2 (tl2 (tl2 (tl2 (tl2 (tl2 (tl2 (tl2 (tl2 (tl2 (tl2 (tl2 (tl2 (tl2 (tl2 (tl2 (tl2 (tl2 (tl2 (tl2 (tl2 (tl2 (tl2 (tl2 (tl2 (tl2 (tl2 t)))))))))))))))))))))))))))))))))))))))))))))))) (hd2 (tl2 (tl2 (tl2 (tl2 (tl2 (tl2 (tl2 (tl2 (tl2 (tl2 (tl2 (tl2 (tl2 (tl2 (tl2 (tl2 (tl2 (tl2 (tl2 (tl2 (tl2 (tl2 (tl2 (tl2 (tl2 (tl2 (tl2 (tl2 (tl2 (tl2 (tl2 (tl2 (tl2 (tl2 (tl2 (tl2 (tl2 (tl2 (tl2 (tl2 (tl2 (tl2 (tl2 (tl2 (tl2 (tl2 (tl2 (tl2 t))))))))))))))))))))))))))))))))))))))))))))))))) (tl2 (tl2 (tl2 (tl2 (tl2 (tl2 (tl2 (tl2 (tl2 (tl2 (tl2 (tl2 (tl2 (tl2 (tl2 (tl2 (tl2 (tl2 (tl2 (tl2 (tl2 (tl2 (tl2 (tl2 (tl2 (tl2 (tl2 (tl2 (tl2 (tl2 (tl2 (tl2 (tl2 (tl2 (tl2 (tl2 (tl2 (tl2 (tl2 (tl2 (tl2 (tl2 (tl2 (tl2 (tl2 (tl2 (tl2 (tl2 (tl2 t)))))))))))))))))))))))))))))))))))))))))))))))))
theorem pick50 {α1 α2 α3 α4 α5 α6 α7 α8 α9 α10 α11 α12 α13 α14 α15 α16 α17 α18 α19 α20 α21 α22 α23 α24 α25 α26 α27 α28 α29 α30 α31 α32 α33 α34 α35 α36 α37 α38 α39 α40 α41 α42 α43 α44 α45 α46 α47 α48 α49 α50 : Type} {P : α1 → α2 → α3 → α4 → α5 → α6 → α7 → α8 → α9 → α10 → α11 → α12 → α13 → α14 → α15 → α16 → α17 → α18 → α19 → α20 → α21 → α22 → α23 → α24 → α25 → α26 → α27 → α28 → α29 → α30 → α31 → α32 → α33 → α34 → α35 → α36 → α37 → α38 → α39 → α40 → α41 → α42 → α43 → α44 → α45 → α46 → α47 → α48 → α49 → α50 → Prop} (i : Nonempty (α1 × α2 × α3 × α4 × α5 × α6 × α7 × α8 × α9 × α10 × α11 × α12 × α13 × α14 × α15 × α16 × α17 × α18 × α19 × α20 × α21 × α22 × α23 × α24 × α25 × α26 × α27 × α28 × α29 × α30 × α31 × α32 × α33 × α34 × α35 × α36 × α37 × α38 × α39 × α40 × α41 × α42 × α43 × α44 × α45 × α46 × α47 × α48 × α49 × α50)) (h : P (hd2 (@ck50 α1 α2 α3 α4 α5 α6 α7 α8 α9 α10 α11 α12 α13 α14 α15 α16 α17 α18 α19 α20 α21 α22 α23 α24 α25 α26 α27 α28 α29 α30 α31 α32 α33 α34 α35 α36 α37 α38 α39 α40 α41 α42 α43 α44 α45 α46 α47 α48 α49 α50 i P)) (hd2 (tl2 (@ck50 α1 α2 α3 α4 α5 α6 α7 α8 α9 α10 α11 α12 α13 α14 α15 α16 α17 α18 α19 α20 α21 α22 α23 α24 α25 α26 α27 α28 α29 α30 α31 α32 α33 α34 α35 α36 α37 α38 α39 α40 α41 α42 α43 α44 α45 α46 α47 α48 α49 α50 i P))) (hd2 (tl2 (tl2 (@ck50 α1 α2 α3 α4 α5 α6 α7 α8 α9 α10 α11 α12 α13 α14 α15 α16 α17 α18 α19 α20 α21 α22 α23 α24 α25 α26 α27 α28 α29 α30 α31 α32 α33 α34 α35 α36 α37 α38 α39 α40 α41 α42 α43 α44 α45 α46 α47 α48 α49 α50 i P)))) (hd2 (tl2 (tl2 (tl2 (@ck50 α1 α2 α3 α4 α5 α6 α7 α8 α9 α10 α11 α12 α13 α14 α15 α16 α17 α18 α19 α20 α21 α22 α23 α24 α25 α26 α27 α28 α29 α30 α31 α32 α33 α34 α35 α36 α37 α38 α39 α40 α41 α42 α43 α44 α45 α46 α47 α48 α49 α50 i P))))) (hd2 (tl2 (tl2 (tl2 (tl2 (@ck50 α1 α2 α3 α4 α5 α6 α7 α8 α9 α10 α11 α12 α13 α14 α15 α16 α17 α18 α19 α20 α21 α22 α23 α24 α25 α26 α27 α28 α29 α30 α31 α32 α33 α34 α35 α36 α37 α38 α39 α40 α41 α42 α43 α44 α45 α46 α47 α48 α49 α50 i P)))))) (hd2 (tl2 (tl2 (tl2 (tl2 (tl2 (@ck50 α1 α2 α3 α4 α5 α6 α7 α8 α9 α10 α11 α12 α13 α14 α15 α16 α17 α18 α19 α20 α21 α22 α23 α24 α25 α26 α27 α28 α29 α30 α31 α32 α33 α34 α35 α36 α37 α38 α39 α40 α41 α42 α43 α44 α45 α46 α47 α48 α49 α50 i P))))))) (hd2 (tl2 (tl2 (tl2 (tl2 (tl2 (tl2 (@ck50 α1 α2 α3 α4 α5 α6 α7 α8 α9 α10 α11 α12 α13 α14 α15 α16 α17 α18 α19 α20 α21 α22 α23 α24 α25 α26 α27 α28 α29 α30 α31 α32 α33 α34 α35 α36 α37 α38 α39 α40 α41 α42 α43 α44 α45 α46 α47 α48 α49 α50 i P)))))))) (hd2 (tl2 (tl2 (tl2 (tl2 (tl2 (tl2 (tl2 (@ck50 α1 α2 α3 α4 α5 α6 α7 α8 α9 α10 α11 α12 α13 α14 α15 α16 α17 α18 α19 α20 α21 α22 α23 α24 α25 α26 α27 α28 α29 α30 α31 α32 α33 α34 α35 α36 α37 α38 α39 α40 α41 α42 α43 α44 α45 α46 α47 α48 α49 α50 i P))))))))) (hd2 (tl2 (tl2 (tl2 (tl2 (tl2 (tl2 (tl2 (tl2 (@ck50 α1 α2 α3 α4 α5 α6 α7 α8 α9 α10 α11 α12 α13 α14 α15 α16 α17 α18 α19 α20 α21 α22 α23 α24 α25 α26 α27 α28 α29 α30 α31 α32 α33 α34 α35 α36 α37 α38 α39 α40 α41 α42 α43 α44 α45 α46 α47 α48 α49 α50 i P)))))))))) (hd2 (tl2 (tl2 (tl2 (tl2 (tl2 (tl2 (tl2 (tl2 (tl2 (@ck50 α1 α2 α3 α4 α5 α6 α7 α8 α9 α10 α11 α12 α13 α14 α15 α16 α17 α18 α19 α20 α21 α22 α23 α24 α25 α26 α27 α28 α29 α30 α31 α32 α33 α34 α35 α36 α37 α38 α39 α40 α41 α42 α43 α44 α45 α46 α47 α48 α49 α50 i P))))))))))) (hd2 (tl2 (tl2 (tl2 (tl2 (tl2 (tl2 (tl2 (tl2 (tl2 (tl2 (@ck50 α1 α2 α3 α4 α5 α6 α7 α8 α9 α10 α11 α12 α13 α14 α15 α16 α17 α18 α19 α20 α21 α22 α23 α24 α25 α26 α27 α28 α29 α30 α31 α32 α33 α34 α35 α36 α37 α38 α39 α40 α41 α42 α43 α44 α45 α46 α47 α48 α49 α50 i P)))))))))))) (hd2 (tl2 (tl2 (tl2 (tl2 (tl2 (tl2 (tl2 (tl2 (tl2 (tl2 (tl2 (@ck50 α1 α2 α3 α4 α5 α6 α7 α8 α9 α10 α11 α12 α13 α14 α15 α16 α17 α18 α19 α20 α21 α22 α23 α24 α25 α26 α27 α28 α29 α30 α31 α32 α33 α34 α35 α36 α37 α38 α39 α40 α41 α42 α43 α44 α45 α46 α47 α48 α49 α50 i P))))))))))))) (hd2 (tl2 (tl2 (tl2 (tl2 (tl2 (tl2 (tl2 (tl2 (tl2 (tl2 (tl2 (tl2 (@ck50 α1 α2 α3 α4 α5 α6 α7 α8 α9 α10 α11 α12 α13 α14 α15 α16 α17 α18 α19 α20 α21 α22 α23 α24 α25 α26 α27 α28 α29 α30 α31 α32 α33 α34 α35 α36 α37 α38 α39 α40 α41 α42 α43 α44 α45 α46 α47 α48 α49 α50 i P)))))))))))))) (hd2 (tl2 (tl2 (tl2 (tl2 (tl2 (tl2 (tl2 (tl2 (tl2 (tl2 (tl2 (tl2 (tl2 (@ck50 α1 α2 α3 α4 α5 α6 α7 α8 α9 α10 α11 α12 α13 α14 α15 α16 α17 α18 α19 α20 α21 α22 α23 α24 α25 α26 α27 α28 α29 α30 α31 α32 α33 α34 α35 α36 α37 α38 α39 α40 α41 α42 α43 α44 α45 α46 α47 α48 α49 α50 i P))))))))))))))) (hd2 (tl2 (tl2 (tl2 (tl2 (tl2 (tl2 (tl2 (tl2 (tl2 (tl2 (tl2 (tl2 (tl2 (tl2 (@ck50 α1 α2 α3 α4 α5 α6 α7 α8 α9 α10 α11 α12 α13 α14 α15 α16 α17 α18 α19 α20 α21 α22 α23 α24 α25 α26 α27 α28 α29 α30 α31 α32 α33 α34 α35 α36 α37 α38 α39 α40 α41 α42 α43 α44 α45 α46 α47 α48 α49 α50 i P)))))))))))))))) (hd2 (tl2 (tl2 (tl2 (tl2 (tl2 (tl2 (tl2 (tl2 (tl2 (tl2 (tl2 (tl2 (tl2 (tl2 (tl2 (@ck50 α1 α2 α3 α4 α5 α6 α7 α8 α9 α10 α11 α12 α13 α14 α15 α16 α17 α18 α19 α20 α21 α22 α23 α24 α25 α26 α27 α28 α29 α30 α31 α32 α33 α34 α35 α36 α37 α38 α39 α40 α41 α42 α43 α44 α45 α46 α47 α48 α49 α50 i P))))))))))))))))) (hd2 (tl2 (tl2 (tl2 (tl2 (tl2 (tl2 (tl2 (tl2 (tl2 (tl2 (tl2 (tl2 (tl2 (tl2 (tl2 (tl2 (@ck50 α1 α2 α3 α4 α5 α6 α7 α8 α9 α10 α11 α12 α13 α14 α15 α16 α17 α18 α19 α20 α21 α22 α23 α24 α25 α26 α27 α28 α29 α30 α31 α32 α33 α34 α35 α36 α37 α38 α39 α40 α41 α42 α43 α44 α45 α46 α47 α48 α49 α50 i P)))))))))))))))))) (hd2 (tl2 (tl2 (tl2 (tl2 (tl2 (tl2 (tl2 (tl2 (tl2 (tl2 (tl2 (tl2 (tl2 (tl2 (tl2 (tl2 (tl2 (@ck50 α1 α2 α3 α4 α5 α6 α7 α8 α9 α10 α11 α12 α13 α14 α15 α16 α17 α18 α19 α20 α21 α22 α23 α24 α25 α26 α27 α28 α29 α30 α31 α32 α33 α34 α35 α36 α37 α38 α39 α40 α41 α42 α43 α44 α45 α46 α47 α48 α49 α50 i P))))))))))))))))))) (hd2 (tl2 (tl2 (tl2 (tl2 (tl2 (tl2 (tl2 (tl2 (tl2 (tl2 (tl2 (tl2 (tl2 (tl2 (tl2 (tl2 (tl2 (tl2 (@ck50 α1 α2 α3 α4 α5 α6 α7 α8 α9 α10 α11 α12 α13 α14 α15 α16 α17 α18 α19 α20 α21 α22 α23 α24 α25 α26 α27 α28 α29 α30 α31 α32 α33 α34 α35 α36 α37 α38 α39 α40 α41 α42 α43 α44 α45 α46 α47 α48 α49 α50 i P)))))))))))))))))))) (hd2 (tl2 (tl2 (tl2 (tl2 (tl2 (tl2 (tl2 (tl2 (tl2 (tl2 (tl2 (tl2 (tl2 (tl2 (tl2 (tl2 (tl2 (tl2 (tl2 (@ck50 α1 α2 α3 α4 α5 α6 α7 α8 α9 α10 α11 α12 α13 α14 α15 α16 α17 α18 α19 α20 α21 α22 α23 α24 α25 α26 α27 α28 α29 α30 α31 α32 α33 α34 α35 α36 α37 α38 α39 α40 α41 α42 α43 α44 α45 α46 α47 α48 α49 α50 i P))))))))))))))))))))) (hd2 (tl2 (tl2 (tl2 (tl2 (tl2 (tl2 (tl2 (tl2 (tl2 (tl2 (tl2 (tl2 (tl2 (tl2 (tl2 (tl2 (tl2 (tl2 (tl2 (tl2 (@ck50 α1 α2 α3 α4 α5 α6 α7 α8 α9 α10 α11 α12 α13 α14 α15 α16 α17 α18 α19 α20 α21 α22 α23 α24 α25 α26 α27 α28 α29 α30 α31 α32 α33 α34 α35 α36 α37 α38 α39 α40 α41 α42 α43 α44 α45 α46 α47 α48 α49 α50 i P)))))))))))))))))))))) (hd2 (tl2 (tl2 (tl2 (tl2 (tl2 (tl2 (tl2 (tl2 (tl2 (tl2 (tl2 (tl2 (tl2 (tl2 (tl2 (tl2 (tl2 (tl2 (tl2 (tl2 (tl2 (@ck50 α1 α2 α3 α4 α5 α6 α7 α8 α9 α10 α11 α12 α13 α14 α15 α16 α17 α18 α19 α20 α21 α22 α23 α24 α25 α26 α27 α28 α29 α30 α31 α32 α33 α34 α35 α36 α37 α38 α39 α40 α41 α42 α43 α44 α45 α46 α47 α48 α49 α50 i P))))))))))))))))))))))) (hd2 (tl2 (tl2 (tl2 (tl2 (tl2 (tl2 (tl2 (tl2 (tl2 (tl2 (tl2 (tl2 (tl2 (tl2 (tl2 (tl2 (tl2 (tl2 (tl2 (tl2 (tl2 (tl2 (@ck50 α1 α2 α3 α4 α5 α6 α7 α8 α9 α10 α11 α12 α13 α14 α15 α16 α17 α18 α19 α20 α21 α22 α23 α24 α25 α26 α27 α28 α29 α30 α31 α32 α33 α34 α35 α36 α37 α38 α39 α40 α41 α42 α43 α44 α45 α46 α47 α48 α49 α50 i P)))))))))))))))))))))))) (hd2 (tl2 (tl2 (tl2 (tl2 (tl2 (tl2 (tl2 (tl2 (tl2 (tl2 (tl2 (tl2 (tl2 (tl2 (tl2 (tl2 (tl2 (tl2 (tl2 (tl2 (tl2 (tl2 (tl2 (@ck50 α1 α2 α3 α4 α5 α6 α7 α8 α9 α10 α11 α12 α13 α14 α15 α16 α17 α18 α19 α20 α21 α22 α23 α24 α25 α26 α27 α28 α29 α30 α31 α32 α33 α34 α35 α36 α37 α38 α39 α40 α41 α42 α43 α44 α45 α46 α47 α48 α49 α50 i P))))))))))))))))))))))))) (hd2 (tl2 (tl2 (tl2 (tl2 (tl2 (tl2 (tl2 (tl2 (tl2 (tl2 (tl2 (tl2 (tl2 (tl2 (tl2 (tl2 (tl2 (tl2 (tl2 (tl2 (tl2 (tl2 (tl2 (tl2 (@ck50 α1 α2 α3 α4 α5 α6 α7 α8 α9 α10 α11 α12 α13 α14 α15 α16 α17 α18 α19 α20 α21 α22 α23 α24 α25 α26 α27 α28 α29 α30 α31 α32 α33 α34 α35 α36 α37 α38 α39 α40 α41 α42 α43 α44 α45 α46 α47 α48 α49 α50 i P)))))))))))))))))))))))))) (hd2 (tl2 (tl2 (tl2 (tl2 (tl2 (tl2 (tl2 (tl2 (tl2 (tl2 (tl2 (tl2 (tl2 (tl2 (tl2 (tl2 (tl2 (tl2 (tl2 (tl2 (tl2 (tl2 (tl2 (tl2 (tl2 (@ck50 α1 α2 α3 α4 α5 α6 α7 α8 α9 α10 α11 α12 α13 α14 α15 α16 α17 α18 α19 α20 α21 α22 α23 α24 α25 α26 α27 α28 α29 α30 α31 α32 α33 α34 α35 α36 α37 α38 α39 α40 α41 α42 α43 α44 α45 α46 α47 α48 α49 α50 i P))))))))))))))))))))))))))) (hd2 (tl2 (tl2 (tl2 (tl2 (tl2 (tl2 (tl2 (tl2 (tl2 (tl2 (tl2 (tl2 (tl2 (tl2 (tl2 (tl2 (tl2 (tl2 (tl2 (tl2 (tl2 (tl2 (tl2 (tl2 (tl2 (tl2 (@ck50 α1 α2 α3 α4 α5 α6 α7 α8 α9 α10 α11 α12 α13 α14 α15 α16 α17 α18 α19 α20 α21 α22 α23 α24 α25 α26 α27 α28 α29 α30 α31 α32 α33 α34 α35 α36 α37 α38 α39 α40 α41 α42 α43 α44 α45 α46 α47 α48 α49 α50 i P)))))))))))))))))))))))))))) (hd2 (tl2 (tl2 (tl2 (tl2 (tl2 (tl2 (tl2 (tl2 (tl2 (tl2 (tl2 (tl2 (tl2 (tl2 (tl2 (tl2 (tl2 (tl2 (tl2 (tl2 (tl2 (tl2 (tl2 (tl2 (tl2 (tl2 (tl2 (@ck50 α1 α2 α3 α4 α5 α6 α7 α8 α9 α10 α11 α12 α13 α14 α15 α16 α17 α18 α19 α20 α21 α22 α23 α24 α25 α26 α27 α28 α29 α30 α31 α32 α33 α34 α35 α36 α37 α38 α39 α40 α41 α42 α43 α44 α45 α46 α47 α48 α49 α50 i P))))))))))))))))))))))))))))) (hd2 (tl2 (tl2 (tl2 (tl2 (tl2 (tl2 (tl2 (tl2 (tl2 (tl2 (tl2 (tl2 (tl2 (tl2 (tl2 (tl2 (tl2 (tl2 (tl2 (tl2 (tl2 (tl2 (tl2 (tl2 (tl2 (tl2 (tl2 (tl2 (@ck50 α1 α2 α3 α4 α5 α6 α7 α8 α9 α10 α11 α12 α13 α14 α15 α16 α17 α18 α19 α20 α21 α22 α23 α24 α25 α26 α27 α28 α29 α30 α31 α32 α33 α34 α35 α36 α37 α38 α39 α40 α41 α42 α43 α44 α45 α46 α47 α48 α49 α50 i P)))))))))))))))))))))))))))))) (hd2 (tl2 (tl2 (tl2 (tl2 (tl2 (tl2 (tl2 (tl2 (tl2 (tl2 (tl2 (tl2 (tl2 (tl2 (tl2 (tl2 (tl2 (tl2 (tl2 (tl2 (tl2 (tl2 (tl2 (tl2 (tl2 (tl2 (tl2 (tl2 (tl2 (@ck50 α1 α2 α3 α4 α5 α6 α7 α8 α9 α10 α11 α12 α13 α14 α15 α16 α17 α18 α19 α20 α21 α22 α23 α24 α25 α26 α27 α28 α29 α30 α31 α32 α33 α34 α35 α36 α37 α38 α39 α40 α41 α42 α43 α44 α45 α46 α47 α48 α49 α50 i P))))))))))))))))))))))))))))))) (hd2 (tl2 (tl2 (tl2 (tl2 (tl2 (tl2 (tl2 (tl2 (tl2 (tl2 (tl2 (tl2 (tl2 (tl2 (tl2 (tl2 (tl2 (tl2 (tl2 (tl2 (tl2 (tl2 (tl2 (tl2 (tl2 (tl2 (tl2 (tl2 (tl2 (tl2 (@ck50 α1 α2 α3 α4 α5 α6 α7 α8 α9 α10 α11 α12 α13 α14 α15 α16 α17 α18 α19 α20 α21 α22 α23 α24 α25 α26 α27 α28 α29 α30 α31 α32 α33 α34 α35 α36 α37 α38 α39 α40 α41 α42 α43 α44 α45 α46 α47 α48 α49 α50 i P)))))))))))))))))))))))))))))))) (hd2 (tl2 (tl2 (tl2 (tl2 (tl2 (tl2 (tl2 (tl2 (tl2 (tl2 (tl2 (tl2 (tl2 (tl2 (tl2 (tl2 (tl2 (tl2 (tl2 (tl2 (tl2 (tl2 (tl2 (tl2 (tl2 (tl2 (tl2 (tl2 (tl2 (tl2 (tl2 (@ck50 α1 α2 α3 α4 α5 α6 α7 α8 α9 α10 α11 α12 α13 α14 α15 α16 α17 α18 α19 α20 α21 α22 α23 α24 α25 α26 α27 α28 α29 α30 α31 α32 α33 α34 α35 α36 α37 α38 α39 α40 α41 α42 α43 α44 α45 α46 α47 α48 α49 α50 i P))))))))))))))))))))))))))))))))) (hd2 (tl2 (tl2 (tl2 (tl2 (tl2 (tl2 (tl2 (tl2 (tl2 (tl2 (tl2 (tl2 (tl2 (tl2 (tl2 (tl2 (tl2 (tl2 (tl2 (tl2 (tl2 (tl2 (tl2 (tl2 (tl2 (tl2 (tl2 (tl2 (tl2 (tl2 (tl2 (tl2 (@ck50 α1 α2 α3 α4 α5 α6 α7 α8 α9 α10 α11 α12 α13 α14 α15 α16 α17 α18 α19 α20 α21 α22 α23 α24 α25 α26 α27 α28 α29 α30 α31 α32 α33 α34 α35 α36 α37 α38 α39 α40 α41 α42 α43 α44 α45 α46 α47 α48 α49 α50 i P)))))))))))))))))))))))))))))))))) (hd2 (tl2 (tl2 (tl2 (tl2 (tl2 (tl2 (tl2 (tl2 (tl2 (tl2 (tl2 (tl2 (tl2 (tl2 (tl2 (tl2 (tl2 (tl2 (tl2 (tl2 (tl2 (tl2 (tl2 (tl2 (tl2 (tl2 (tl2 (tl2 (tl2 (tl2 (tl2 (tl2 (tl2 (@ck50 α1 α2 α3 α4 α5 α6 α7 α8 α9 α10 α11 α12 α13 α14 α15 α16 α17 α18 α19 α20 α21 α22 α23 α24 α25 α26 α27 α28 α29 α30 α31 α32 α33 α34 α35 α36 α37 α38 α39 α40 α41 α42 α43 α44 α45 α46 α47 α48 α49 α50 i P))))))))))))))))))))))))))))))))))) (hd2 (tl2 (tl2 (tl2 (tl2 (tl2 (tl2 (tl2 (tl2 (tl2 (tl2 (tl2 (tl2 (tl2 (tl2 (tl2 (tl2 (tl2 (tl2 (tl2 (tl2 (tl2 (tl2 (tl2 (tl2 (tl2 (tl2 (tl2 (tl2 (tl2 (tl2 (tl2 (tl2 (tl2 (tl2 (@ck50 α1 α2 α3 α4 α5 α6 α7 α8 α9 α10 α11 α12 α13 α14 α15 α16 α17 α18 α19 α20 α21 α22 α23 α24 α25 α26 α27 α28 α29 α30 α31 α32 α33 α34 α35 α36 α37 α38 α39 α40 α41 α42 α43 α44 α45 α46 α47 α48 α49 α50 i P)))))))))))))))))))))))))))))))))))) (hd2 (tl2 (tl2 (tl2 (tl2 (tl2 (tl2 (tl2 (tl2 (tl2 (tl2 (tl2 (tl2 (tl2 (tl2 (tl2 (tl2 (tl2 (tl2 (tl2 (tl2 (tl2 (tl2 (tl2 (tl2 (tl2 (tl2 (tl2 (tl2 (tl2 (tl2 (tl2 (tl2 (tl2 (tl2 (tl2 (@ck50 α1 α2 α3 α4 α5 α6 α7 α8 α9 α10 α11 α12 α13 α14 α15 α16 α17 α18 α19 α20 α21 α22 α23 α24 α25 α26 α27 α28 α29 α30 α31 α32 α33 α34 α35 α36 α37 α38 α39 α40 α41 α42 α43 α44 α45 α46 α47 α48 α49 α50 i P))))))))))))))))))))))))))))))))))))) (hd2 (tl2 (tl2 (tl2 (tl2 (tl2 (tl2 (tl2 (tl2 (tl2 (tl2 (tl2 (tl2 (tl2 (tl2 (tl2 (tl2 (tl2 (tl2 (tl2 (tl2 (tl2 (tl2 (tl2 (tl2 (tl2 (tl2 (tl2 (tl2 (tl2 (tl2 (tl2 (tl2 (tl2 (tl2 (tl2 (tl2 (@ck50 α1 α2 α3 α4 α5 α6 α7 α8 α9 α10 α11 α12 α13 α14 α15 α16 α17 α18 α19 α20 α21 α22 α23 α24 α25 α26 α27 α28 α29 α30 α31 α32 α33 α34 α35 α36 α37 α38 α39 α40 α41 α42 α43 α44 α45 α46 α47 α48 α49 α50 i P)))))))))))))))))))))))))))))))))))))) (hd2 (tl2 (tl2 (tl2 (tl2 (tl2 (tl2 (tl2 (tl2 (tl2 (tl2 (tl2 (tl2 (tl2 (tl2 (tl2 (tl2 (tl2 (tl2 (tl2 (tl2 (tl2 (tl2 (tl2 (tl2 (tl2 (tl2 (tl2 (tl2 (tl2 (tl2 (tl2 (tl2 (tl2 (tl2 (tl2 (tl2 (tl2 (@ck50 α1 α2 α3 α4 α5 α6 α7 α8 α9 α10 α11 α12 α13 α14 α15 α16 α17 α18 α19 α20 α21 α22 α23 α24 α25 α26 α27 α28 α29 α30 α31 α32 α33 α34 α35 α36 α37 α38 α39 α40 α41 α42 α43 α44 α45 α46 α47 α48 α49 α50 i P))))))))))))))))))))))))))))))))))))))) (hd2 (tl2 (tl2 (tl2 (tl2 (tl2 (tl2 (tl2 (tl2 (tl2 (tl2 (tl2 (tl2 (tl2 (tl2 (tl2 (tl2 (tl2 (tl2 (tl2 (tl2 (tl2 (tl2 (tl2 (tl2 (tl2 (tl2 (tl2 (tl2 (tl2 (tl2 (tl2 (tl2 (tl2 (tl2 (tl2 (tl2 (tl2 (tl2 (@ck50 α1 α2 α3 α4 α5 α6 α7 α8 α9 α10 α11 α12 α13 α14 α15 α16 α17 α18 α19 α20 α21 α22 α23 α24 α25 α26 α27 α28 α29 α30 α31 α32 α33 α34 α35 α36 α37 α38 α39 α40 α41 α42 α43 α44 α45 α46 α47 α48 α49 α50 i P)))))))))))))))))))))))))))))))))))))))) (hd2 (tl2 (tl2 (tl2 (tl2 (tl2 (tl2 (tl2 (tl2 (tl2 (tl2 (tl2 (tl2 (tl2 (tl2 (tl2 (tl2 (tl2 (tl2 (tl2 (tl2 (tl2 (tl2 (tl2 (tl2 (tl2 (tl2 (tl2 (tl2 (tl2 (tl2 (tl2 (tl2 (tl2 (tl2 (tl2 (tl2 (tl2 (tl2 (tl2 (@ck50 α1 α2 α3 α4 α5 α6 α7 α8 α9 α10 α11 α12 α13 α14 α15 α16 α17 α18 α19 α20 α21 α22 α23 α24 α25 α26 α27 α28 α29 α30 α31 α32 α33 α34 α35 α36 α37 α38 α39 α40 α41 α42 α43 α44 α45 α46 α47 α48 α49 α50 i P))))))))))))))))))))))))))))))))))))))))) (hd2 (tl2 (tl2 (tl2 (tl2 (tl2 (tl2 (tl2 (tl2 (tl2 (tl2 (tl2 (tl2 (tl2 (tl2 (tl2 (tl2 (tl2 (tl2 (tl2 (tl2 (tl2 (tl2 (tl2 (tl2 (tl2 (tl2 (tl2 (tl2 (tl2 (tl2 (tl2 (tl2 (tl2 (tl2 (tl2 (tl2 (tl2 (tl2 (tl2 (tl2 (@ck50 α1 α2 α3 α4 α5 α6 α7 α8 α9 α10 α11 α12 α13 α14 α15 α16 α17 α18 α19 α20 α21 α22 α23 α24 α25 α26 α27 α28 α29 α30 α31 α32 α33 α34 α35 α36 α37 α38 α39 α40 α41 α42 α43 α44 α45 α46 α47 α48 α49 α50 i P)))))))))))))))))))))))))))))))))))))))))) (hd2 (tl2 (tl2 (tl2 (tl2 (tl2 (tl2 (tl2 (tl2 (tl2 (tl2 (tl2 (tl2 (tl2 (tl2 (tl2 (tl2 (tl2 (tl2 (tl2 (tl2 (tl2 (tl2 (tl2 (tl2 (tl2 (tl2 (tl2 (tl2 (tl2 (tl2 (tl2 (tl2 (tl2 (tl2 (tl2 (tl2 (tl2 (tl2 (tl2 (tl2 (tl2 (@ck50 α1 α2 α3 α4 α5 α6 α7 α8 α9 α10 α11 α12 α13 α14 α15 α16 α17 α18 α19 α20 α21 α22 α23 α24 α25 α26 α27 α28 α29 α30 α31 α32 α33 α34 α35 α36 α37 α38 α39 α40 α41 α42 α43 α44 α45 α46 α47 α48 α49 α50 i P))))))))))))))))))))))))))))))))))))))))))) (hd2 (tl2 (tl2 (tl2 (tl2 (tl2 (tl2 (tl2 (tl2 (tl2 (tl2 (tl2 (tl2 (tl2 (tl2 (tl2 (tl2 (tl2 (tl2 (tl2 (tl2 (tl2 (tl2 (tl2 (tl2 (tl2 (tl2 (tl2 (tl2 (tl2 (tl2 (tl2 (tl2 (tl2 (tl2 (tl2 (tl2 (tl2 (tl2 (tl2 (tl2 (tl2 (tl2 (@ck50 α1 α2 α3 α4 α5 α6 α7 α8 α9 α10 α11 α12 α13 α14 α15 α16 α17 α18 α19 α20 α21 α22 α23 α24 α25 α26 α27 α28 α29 α30 α31 α32 α33 α34 α35 α36 α37 α38 α39 α40 α41 α42 α43 α44 α45 α46 α47 α48 α49 α50 i P)))))))))))))))))))))))))))))))))))))))))))) (hd2 (tl2 (tl2 (tl2 (tl2 (tl2 (tl2 (tl2 (tl2 (tl2 (tl2 (tl2 (tl2 (tl2 (tl2 (tl2 (tl2 (tl2 (tl2 (tl2 (tl2 (tl2 (tl2 (tl2 (tl2 (tl2 (tl2 (tl2 (tl2 (tl2 (tl2 (tl2 (tl2 (tl2 (tl2 (tl2 (tl2 (tl2 (tl2 (tl2 (tl2 (tl2 (tl2 (tl2 (@ck50 α1 α2 α3 α4 α5 α6 α7 α8 α9 α10 α11 α12 α13 α14 α15 α16 α17 α18 α19 α20 α21 α22 α23 α24 α25 α26 α27 α28 α29 α30 α31 α32 α33 α34 α35 α36 α37 α38 α39 α40 α41 α42 α43 α44 α45 α46 α47 α48 α49 α50 i P))))))))))))))))))))))))))))))))))))))))))))) (hd2 (tl2 (tl2 (tl2 (tl2 (tl2 (tl2 (tl2 (tl2 (tl2 (tl2 (tl2 (tl2 (tl2 (tl2 (tl2 (tl2 (tl2 (tl2 (tl2 (tl2 (tl2 (tl2 (tl2 (tl2 (tl2 (tl2 (tl2 (tl2 (tl2 (tl2 (tl2 (tl2 (tl2 (tl2 (tl2 (tl2 (tl2 (tl2 (tl2 (tl2 (tl2 (tl2 (tl2 (tl2 (@ck50 α1 α2 α3 α4 α5 α6 α7 α8 α9 α10 α11 α12 α13 α14 α15 α16 α17 α18 α19 α20 α21 α22 α23 α24 α25 α26 α27 α28 α29 α30 α31 α32 α33 α34 α35 α36 α37 α38 α39 α40 α41 α42 α43 α44 α45 α46 α47 α48 α49 α50 i P)))))))))))))))))))))))))))))))))))))))))))))) (hd2 (tl2 (tl2 (tl2 (tl2 (tl2 (tl2 (tl2 (tl2 (tl2 (tl2 (tl2 (tl2 (tl2 (tl2 (tl2 (tl2 (tl2 (tl2 (tl2 (tl2 (tl2 (tl2 (tl2 (tl2 (tl2 (tl2 (tl2 (tl2 (tl2 (tl2 (tl2 (tl2 (tl2 (tl2 (tl2 (tl2 (tl2 (tl2 (tl2 (tl2 (tl2 (tl2 (tl2 (tl2 (tl2 (@ck50 α1 α2 α3 α4 α5 α6 α7 α8 α9 α10 α11 α12 α13 α14 α15 α16 α17 α18 α19 α20 α21 α22 α23 α24 α25 α26 α27 α28 α29 α30 α31 α32 α33 α34 α35 α36 α37 α38 α39 α40 α41 α42 α43 α44 α45 α46 α47 α48 α49 α50 i P))))))))))))))))))))))))))))))))))))))))))))))) (hd2 (tl2 (tl2 (tl2 (tl2 (tl2 (tl2 (tl2 (tl2 (tl2 (tl2 (tl2 (tl2 (tl2 (tl2 (tl2 (tl2 (tl2 (tl2 (tl2 (tl2 (tl2 (tl2 (tl2 (tl2 (tl2 (tl2 (tl2 (tl2 (tl2 (tl2 (tl2 (tl2 (tl2 (tl2 (tl2 (tl2 (tl2 (tl2 (tl2 (tl2 (tl2 (tl2 (tl2 (tl2 (tl2 (tl2 (@ck50 α1 α2 α3 α4 α5 α6 α7 α8 α9 α10 α11 α12 α13 α14 α15 α16 α17 α18 α19 α20 α21 α22 α23 α24 α25 α26 α27 α28 α29 α30 α31 α32 α33 α34 α35 α36 α37 α38 α39 α40 α41 α42 α43 α44 α45 α46 α47 α48 α49 α50 i P)))))))))))))))))))))))))))))))))))))))))))))))) (hd2 (tl2 (tl2 (tl2 (tl2 (tl2 (tl2 (tl2 (tl2 (tl2 (tl2 (tl2 (tl2 (tl2 (tl2 (tl2 (tl2 (tl2 (tl2 (tl2 (tl2 (tl2 (tl2 (tl2 (tl2 (tl2 (tl2 (tl2 (tl2 (tl2 (tl2 (tl2 (tl2 (tl2 (tl2 (tl2 (tl2 (tl2 (tl2 (tl2 (tl2 (tl2 (tl2 (tl2 (tl2 (tl2 (tl2 (tl2 (@ck50 α1 α2 α3 α4 α5 α6 α7 α8 α9 α10 α11 α12 α13 α14 α15 α16 α17 α18 α19 α20 α21 α22 α23 α24 α25 α26 α27 α28 α29 α30 α31 α32 α33 α34 α35 α36 α37 α38 α39 α40 α41 α42 α43 α44 α45 α46 α47 α48 α49 α50 i P))))))))))))))))))))))))))))))))))))))))))))))))) (hd2 (tl2 (tl2 (tl2 (tl2 (tl2 (tl2 (tl2 (tl2 (tl2 (tl2 (tl2 (tl2 (tl2 (tl2 (tl2 (tl2 (tl2 (tl2 (tl2 (tl2 (tl2 (tl2 (tl2 (tl2 (tl2 (tl2 (tl2 (tl2 (tl2 (tl2 (tl2 (tl2 (tl2 (tl2 (tl2 (tl2 (tl2 (tl2 (tl2 (tl2 (tl2 (tl2 (tl2 (tl2 (tl2 (tl2 (tl2 (tl2 (@ck50 α1 α2 α3 α4 α5 α6 α7 α8 α9 α10 α11 α12 α13 α14 α15 α16 α17 α18 α19 α20 α21 α22 α23 α24 α25 α26 α27 α28 α29 α30 α31 α32 α33 α34 α35 α36 α37 α38 α39 α40 α41 α42 α43 α44 α45 α46 α47 α48 α49 α50 i P)))))))))))))))))))))))))))))))))))))))))))))))))) (tl2 (tl2 (tl2 (tl2 (tl2 (tl2 (tl2 (tl2 (tl2 (tl2 (tl2 (tl2 (tl2 (tl2 (tl2 (tl2 (tl2 (tl2 (tl2 (tl2 (tl2 (tl2 (tl2 (tl2 (tl2 (tl2 (tl2 (tl2 (tl2 (tl2 (tl2 (tl2 (tl2 (tl2 (tl2 (tl2 (tl2 (tl2 (tl2 (tl2 (tl2 (tl2 (tl2 (tl2 (tl2 (tl2 (tl2 (tl2 (tl2 (@ck50 α1 α2 α3 α4 α5 α6 α7 α8 α9 α10 α11 α12 α13 α14 α15 α16 α17 α18 α19 α20 α21 α22 α23 α24 α25 α26 α27 α28 α29 α30 α31 α32 α33 α34 α35 α36 α37 α38 α39 α40 α41 α42 α43 α44 α45 α46 α47 α48 α49 α50 i P))))))))))))))))))))))))))))))))))))))))))))))))))) : ∀ x1 x2 x3 x4 x5 x6 x7 x8 x9 x10 x11 x12 x13 x14 x15 x16 x17 x18 x19 x20 x21 x22 x23 x24 x25 x26 x27 x28 x29 x30 x31 x32 x33 x34 x35 x36 x37 x38 x39 x40 x41 x42 x43 x44 x45 x46 x47 x48 x49 x50, P x1 x2 x3 x4 x5 x6 x7 x8 x9 x10 x11 x12 x13 x14 x15 x16 x17 x18 x19 x20 x21 x22 x23 x24 x25 x26 x27 x28 x29 x30 x31 x32 x33 x34 x35 x36 x37 x38 x39 x40 x41 x42 x43 x44 x45 x46 x47 x48 x49 x50 := fun x1 x2 x3 x4 x5 x6 x7 x8 x9 x10 x11 x12 x13 x14 x15 x16 x17 x18 x19 x20 x21 x22 x23 x24 x25 x26 x27 x28 x29 x30 x31 x32 x33 x34 x35 x36 x37 x38 x39 x40 x41 x42 x43 x44 x45 x46 x47 x48 x49 x50 => Classical.byContradiction fun hn => @Classical.epsilon_spec _ (fun t => ¬ P (hd2 t) (hd2 (tl2 t)) (hd2 (tl2 (tl2 t))) (hd2 (tl2 (tl2 (tl2 t)))) (hd2 (tl2 (tl2 (tl2 (tl2 t))))) (hd2 (tl2 (tl2 (tl2 (tl2 (tl2 t)))))) (hd2 (tl2 (tl2 (tl2 (tl2 (tl2 (tl2 t))))))) (hd2 (tl2 (tl2 (tl2 (tl2 (tl2 (tl2 (tl2 t)))))))) (hd2 (tl2 (tl2 (tl2 (tl2 (tl2 (tl2 (tl2 (tl2 t))))))))) (hd2 (tl2 (tl2 (tl2 (tl2 (tl2 (tl2 (tl2 (tl2 (tl2 t)))))))))) (hd2 (tl2 (tl2 (tl2 (tl2 (tl2 (tl2 (tl2 (tl2 (tl2 (tl2 t))))))))))) (hd2 (tl2 (tl2 (tl2 (tl2 (tl2 (tl2 (tl2 (tl2 (tl2 (tl2 (tl2 t)))))))))))) (hd2 (tl2 (tl2 (tl2 (tl2 (tl2 (tl2 (tl2 (tl2 (tl2 (tl2 (tl2 (tl2 t))))))))))))) (hd2 (tl2 (tl2 (tl2 (tl2 (tl2 (tl2 (tl2 (tl2 (tl2 (tl2 (tl2 (tl2 (tl2 t)))))))))))))) (hd2 (tl2 (tl2 (tl2 (tl2 (tl2 (tl2 (tl2 (tl2 (tl2 (tl2 (tl2 (tl2 (tl2 (tl2 t))))))))))))))) (hd2 (tl2 (tl2 (tl2 (tl2 (tl2 (tl2 (tl2 (tl2 (tl2 (tl2 (tl2 (tl2 (tl2 (tl2 (tl2 t)))))))))))))))) (hd2 (tl2 (tl2 (tl2 (tl2 (tl2 (tl2 (tl2 (tl2 (tl2 (tl2 (tl2 (tl2 (tl2 (tl2 (tl2 (tl2 t))))))))))))))))) (hd2 (tl2 (tl2 (tl2 (tl2 (tl2 (tl2 (tl2 (tl2 (tl2 (tl2 (tl2 (tl2 (tl2 (tl2 (tl2 (tl2 (tl2 t)))))))))))))))))) (hd2 (tl2 (tl2 (tl2 (tl2 (tl2 (tl2 (tl2 (tl2 (tl2 (tl2 (tl2 (tl2 (tl2 (tl2 (tl2 (tl2 (tl2 (tl2 t))))))))))))))))))) (hd2 (tl2 (tl2 (tl2 (tl2 (tl2 (tl2 (tl2 (tl2 (tl2 (tl2 (tl2 (tl2 (tl2 (tl2 (tl2 (tl2 (tl2 (tl2 (tl2 t)))))))))))))))))))) (hd2 (tl2 (tl2 (tl2 (tl2 (tl2 (tl2 (tl2 (tl2 (tl2 (tl2 (tl2 (tl2 (tl2 (tl2 (tl2 (tl2 (tl2 (tl2 (tl2 (tl2 t))))))))))))))))))))) (hd2 (tl2 (tl2 (tl2 (tl2 (tl2 (tl2 (tl2 (tl2 (tl2 (tl2 (tl2 (tl2 (tl2 (tl2 (tl2 (tl2 (tl2 (tl2 (tl2 (tl2 (tl2 t)))))))))))))))))))))) (hd2 (tl2 (tl2 (tl2 (tl2 (tl2 (tl2 (tl2 (tl2 (tl2 (tl2 (tl2 (tl2 (tl2 (tl2 (tl2 (tl2 (tl2 (tl2 (tl2 (tl2 (tl2 (tl2 t))))))))))))))))))))))) (hd2 (tl2 (tl2 (tl2 (tl2 (tl2 (tl2 (tl2 (tl2 (tl2 (tl2 (tl2 (tl2 (tl2 (tl2 (tl2 (tl2 (tl2 (tl2 (tl2 (tl2 (tl2 (tl2 (tl2 t)))))))))))))))))))))))) (hd2 (tl2 (tl2 (tl2 (tl2 (tl2 (tl2 (tl2 (tl2 (tl2 (tl2 (tl2 (tl2 (tl2 (tl2 (tl2 (tl2 (tl2 (tl2 (tl2 (tl2 (tl2 (tl2 (tl2 (tl2 t))))))))))))))))))))))))) (hd2 (tl2 (tl2 (tl2 (tl2 (tl2 (tl2 (tl2 (tl2 (tl2 (tl2 (tl2 (tl2 (tl2 (tl2 (tl2 (tl2 (tl2 (tl2 (tl2 (tl2 (tl2 (tl2 (tl2 (tl2 (tl2 t)))))))))))))))))))))))))) (hd2 (tl2 (tl2 (tl2 (tl2 (tl2 (tl2 (tl2 (tl2 (tl2 (tl2 (tl2 (tl2 (tl2 (tl2 (tl2 (tl2 (tl2 (tl2 (tl2 (tl2 (tl2 (tl2 (tl2 (tl2 (tl2 (tl2 t))))))))))))))))))))))))))) (hd2 (tl2 (tl2 (tl2 (tl2 (tl2 (tl2 (tl2 (tl2 (tl2 (tl2 (tl2 (tl2 (tl2 (tl2 (tl2 (tl2 (tl2 (tl2 (tl2 (tl2 (tl2 (tl2 (tl2 (tl2 (tl2 (tl2 (tl2 t)))))))))))))))))))))))))))) (hd2 (tl2 (tl2 (tl2 (tl2 (tl2 (tl2 (tl2 (tl2 (tl2 (tl2 (tl2 (tl2 (tl2 (tl2 (tl2 (tl2 (tl2 (tl2 (tl2 (tl2 (tl2 (tl2 (tl2 (tl2 (tl2 (tl2 (tl2 (tl2 t))))))))))))))))))))))))))))) (hd2 (tl2 (tl2 (tl2 (tl2 (tl2 (tl2 (tl2 (tl2 (tl2 (tl2 (tl2 (tl2 (tl2 (tl2 (tl2 (tl2 (tl2 (tl2 (tl2 (tl2 (tl2 (tl2 (tl2 (tl2 (tl2 (tl2 (tl2 (tl2 (tl2 t)))))))))))))))))))))))))))))) (hd2 (tl2 (tl2 (tl2 (tl2 (tl2 (tl2 (tl2 (tl2 (tl2 (tl2 (tl2 (tl2 (tl2 (tl2 (tl2 (tl2 (tl2 (tl2 (tl2 (tl2 (tl2 (tl2 (tl2 (tl2 (tl2 (tl2 (tl2 (tl2 (tl2 (tl2 t))))))))))))))))))))))))))))))) (hd2 (tl2 (tl2 (tl2 (tl2 (tl2 (tl2 (tl2 (tl2 (tl2 (tl2 (tl2 (tl2 (tl2 (tl2 (tl2 (tl2 (tl2 (tl2 (tl2 (tl2 (tl2 (tl2 (tl2 (tl2 (tl2 (tl2 (tl2 (tl2 (tl2 (tl2 (tl2 t)))))))))))))))))))))))))))))))) (hd2 (tl2 (tl2 (tl2 (tl2 (tl2 (tl2 (tl2 (tl2 (tl2 (tl2 (tl2 (tl2 (tl2 (tl2 (tl2 (tl2 (tl2 (tl2 (tl2 (tl2 (tl2 (tl2 (tl2 (tl2 (tl2 (tl2 (tl2 (tl2 (tl2 (tl2 (tl2 (tl2 t))))))))))))))))))))))))))))))))) (hd2 (tl2 (tl2 (tl2 (tl2 (tl2 (tl2 (tl2 (tl2 (tl2 (tl2 (tl2 (tl2 (tl2 (tl2 (tl2 (tl2 (tl2 (tl2 (tl2 (tl2 (tl2 (tl2 (tl2 (tl2 (tl2 (tl2 (tl2 (tl2 (tl2 (tl2 (tl2 (tl2 (tl2 t)))))))))))))))))))))))))))))))))) (hd2 (tl2 (tl2 (tl2 (tl2 (tl2 (tl2 (tl2 (tl2 (tl2 (tl2 (tl2 (tl2 (tl2 (tl2 (tl2 (tl2 (tl2 (tl2 (tl2 (tl2 (tl2 (tl2 (tl2 (tl2 (tl2 (tl2 (tl2 (tl2 (tl2 (tl2 (tl2 (tl2 (tl2 (tl2 t))))))))))))))))))))))))))))))))))) (hd2 (tl2 (tl2 (tl2 (tl2 (tl2 (tl2 (tl2 (tl2 (tl2 (tl2 (tl2 (tl2 (tl2 (tl2 (tl2 (tl2 (tl2 (tl2 (tl2 (tl2 (tl2 (tl2 (tl2 (tl2 (tl2 (tl2 (tl2 (tl2 (tl2 (tl2 (tl2 (tl2 (tl2 (tl2 (tl2 t)))))))))))))))))))))))))))))))))))) (hd2 (tl2 (tl2 (tl2 (tl2 (tl2 (tl2 (tl2 (tl2 (tl2 (tl2 (tl2 (tl2 (tl2 (tl2 (tl2 (tl2 (tl2 (tl2 (tl2 (tl2 (tl2 (tl2 (tl2 (tl2 (tl2 (tl2 (tl2 (tl2 (tl2 (tl2 (tl2 (tl2 (tl2 (tl2 (tl2 (tl2 t))))))))))))))))))))))))))))))))))))) (hd2 (tl2 (tl2 (tl2 (tl2 (tl2 (tl2 (tl2 (tl2 (tl2 (tl2 (tl2 (tl2 (tl2 (tl2 (tl2 (tl2 (tl2 (tl2 (tl2 (tl2 (tl2 (tl2 (tl2 (tl2 (tl2 (tl2 (tl2 (tl2 (tl2 (tl2 (tl2 (tl2 (tl2 (tl2 (tl2 (tl2 (tl2 t)))))))))))))))))))))))))))))))))))))) (hd2 (tl2 (tl2 (tl2 (tl2 (tl2 (tl2 (tl2 (tl2 (tl2 (tl2 (tl2 (tl2 (tl2 (tl2 (tl2 (tl2 (tl2 (tl2 (tl2 (tl2 (tl2 (tl2 (tl2 (tl2 (tl2 (tl2 (tl2 (tl2 (tl2 (tl2 (tl2 (tl2 (tl2 (tl2 (tl2 (tl2 (tl2 (tl2 t))))))))))))))))))))))))))))))))))))))) (hd2 (tl2 (tl2 (tl2 (tl2 (tl2 (tl2 (tl2 (tl2 (tl2 (tl2 (tl2 (tl2 (tl2 (tl2 (tl2 (tl2 (tl2 (tl2 (tl2 (tl2 (tl2 (tl2 (tl2 (tl2 (tl2 (tl2 (tl2 (tl2 (tl2 (tl2 (tl2 (tl2 (tl2 (tl2 (tl2 (tl2 (tl2 (tl2 (tl2 t)))))))))))))))))))))))))))))))))))))))) (hd2 (tl2 (tl2 (tl2 (tl2 (tl2 (tl2 (tl2 (tl2 (tl2 (tl2 (tl2 (tl2 (tl2 (tl2 (tl2 (tl2 (tl2 (tl2 (tl2 (tl2 (tl2 (tl2 (tl2 (tl2 (tl2 (tl2 (tl2 (tl2 (tl2 (tl2 (tl2 (tl2 (tl2 (tl2 (tl2 (tl2 (tl2 (tl2 (tl2 (tl2 t))))))))))))))))))))))))))))))))))))))))) (hd2 (tl2 (tl2 (tl2 (tl2 (tl2 (tl2 (tl2 (tl2 (tl2 (tl2 (tl2 (tl2 (tl2 (tl2 (tl2 (tl2 (tl2 (tl2 (tl2 (tl2 (tl2 (tl2 (tl2 (tl2 (tl2 (tl2 (tl2 (tl2 (tl2 (tl2 (tl2 (tl2 (tl2 (tl2 (tl2 (tl2 (tl2 (tl2 (tl2 (tl2 (tl2 t)))))))))))))))))))))))))))))))))))))))))) (hd2 (tl2 (tl2 (tl2 (tl2 (tl2 (tl2 (tl2 (tl2 (tl2 (tl2 (tl2 (tl2 (tl2 (tl2 (tl2 (tl2 (tl2 (tl2 (tl2 (tl2 (tl2 (tl2 (tl2 (tl2 (tl2 (tl2 (tl2 (tl2 (tl2 (tl2 (tl2 (tl2 (tl2 (tl2 (tl2 (tl2 (tl2 (tl2 (tl2 (tl2 (tl2 (tl2 t))))))))))))))))))))))))))))))))))))))))))) (hd2 (tl2 (tl2 (tl2 (tl2 (tl2 (tl2 (tl2 (tl2 (tl2 (tl2 (tl2 (tl2 (tl2 (tl2 (tl2 (tl2 (tl2 (tl2 (tl2 (tl2 (tl2 (tl2 (tl2 (tl2 (tl2 (tl2 (tl2 (tl2 (tl2 (tl2 (tl2 (tl2 (tl2 (tl2 (tl2 (tl2 (tl2 (tl2 (tl2 (tl2 (tl2 (tl2 (tl2 t)))))))))))))))))))))))))))))))))))))))))))) (hd2 (tl2 (tl2 (tl2 (tl2 (tl2 (tl2 (tl2 (tl2 (tl2 (tl2 (tl2 (tl2 (tl2 (tl2 (tl2 (tl2 (tl2 (tl2 (tl2 (tl2 (tl2 (tl2 (tl2 (tl2 (tl2 (tl2 (tl2 (tl2 (tl2 (tl2 (tl2 (tl2 (tl2 (tl2 (tl2 (tl2 (tl2 (tl2 (tl2 (tl2 (tl2 (tl2 (tl2 (tl2 t))))))))))))))))))))))))))))))))))))))))))))) (hd2 (tl2 (tl2 (tl2 (tl2 (tl2 (tl2 (tl2 (tl2 (tl2 (tl2 (tl2 (tl2 (tl2 (tl2 (tl2 (tl2 (tl2 (tl2 (tl2 (tl2 (tl2 (tl2 (tl2 (tl2 (tl2 (tl2 (tl2 (tl2 (tl2 (tl2 (tl2 (tl2 (tl2 (tl2 (tl2 (tl2 (tl2 (tl2 (tl2 (tl2 (tl2 (tl2 (tl2 (tl2 (tl2 t)))))))))))))))))))))))))))))))))))))))))))))) (hd2 (tl2 (tl2 (tl2 (tl2 (tl2 (tl2 (tl2 (tl2 (tl2 (tl2 (tl2 (tl2 (tl2 (tl2 (tl2 (tl2 (tl2 (tl2 (tl2 (tl2 (tl2 (tl2 (tl2 (tl2 (tl2 (tl2 (tl2 (tl2 (tl2 (tl2 (tl2 (tl2 (tl2 (tl2 (tl2 (tl2 (tl2 (tl2 (tl2 (tl2 (tl2 (tl2 (tl2 (tl2 (tl2 (tl2 t))))))))))))))))))))))))))))))))))))))))))))))) (hd2 (tl2 (tl2 (tl2 (tl2 (tl2 (tl2 (tl2 (tl2 (tl2 (tl2 (tl2 (tl2 (tl2 (tl2 (tl2 (tl2 (tl2 (tl2 (tl2 (tl2 (tl2 (tl2 (tl2 (tl2 (tl2 (tl2 (tl2 (tl2 (tl2 (tl2 (tl2 (tl2 (tl2 (tl2 (tl2 (tl2 (tl2 (tl2 (tl2 (tl2 (tl2 (tl2 (tl2 (tl2 (tl2 (tl2 (tl2 t)))))))))))))))))))))))))))))))))))))))))))))))) (hd2 (tl2 (tl2 (tl2 (tl2 (tl2 (tl2 (tl2 (tl2 (tl2 (tl2 (tl2 (tl2 (tl2 (tl2 (tl2 (tl2 (tl2 (tl2 (tl2 (tl2 (tl2 (tl2 (tl2 (tl2 (tl2 (tl2 (tl2 (tl2 (tl2 (tl2 (tl2 (tl2 (tl2 (tl2 (tl2 (tl2 (tl2 (tl2 (tl2 (tl2 (tl2 (tl2 (tl2 (tl2 (tl2 (tl2 (tl2 (tl2 t))))))))))))))))))))))))))))))))))))))))))))))))) (tl2 (tl2 (tl2 (tl2 (tl2 (tl2 (tl2 (tl2 (tl2 (tl2 (tl2 (tl2 (tl2 (tl2 (tl2 (tl2 (tl2 (tl2 (tl2 (tl2 (tl2 (tl2 (tl2 (tl2 (tl2 (tl2 (tl2 (tl2 (tl2 (tl2 (tl2 (tl2 (tl2 (tl2 (tl2 (tl2 (tl2 (tl2 (tl2 (tl2 (tl2 (tl2 (tl2 (tl2 (tl2 (tl2 (tl2 (tl2 (tl2 t)))))))))))))))))))))))))))))))))))))))))))))))))) ⟨(x1, x2, x3, x4, x5, x6, x7, x8, x9, x10, x11, x12, x13, x14, x15, x16, x17, x18, x19, x20, x21, x22, x23, x24, x25, x26, x27, x28, x29, x30, x31, x32, x33, x34, x35, x36, x37, x38, x39, x40, x41, x42, x43, x44, x45, x46, x47, x48, x49, x50), hn⟩ h
theorem rtg_oEvcEEn {α1 α2 α3 : Type} {R : Value → List (Addr × Obj) → Heap → Nat → Heap → Prop} {V : α1 → Value} {L : α2 → α3 → List (Addr × Obj)} (k : ∀ a1 a2 a3, ∀ h' tk' g, R (V a1) (L a2 a3) h' tk' g) : ∀ v n h' tk' g, ((∃ a1, v = V a1) ∧ ∃ a2, ∃ a3, n = L a2 a3) → R v n h' tk' g := by
  rintro _ _ h' tk' g ⟨⟨a1, rfl⟩, a2, a3, rfl⟩
  exact k a1 a2 a3 h' tk' g
theorem rtg_oEvcn {α1 : Type} {R : Value → List (Addr × Obj) → Heap → Nat → Heap → Prop} {V : α1 → Value} {L : List (Addr × Obj)} (k : ∀ a1, ∀ h' tk' g, R (V a1) L h' tk' g) : ∀ v n h' tk' g, ((∃ a1, v = V a1) ∧ n = L) → R v n h' tk' g := by
  rintro _ _ h' tk' g ⟨⟨a1, rfl⟩, rfl⟩
  exact k a1 h' tk' g
theorem rtl_EEEEEEEvpppppn {α1 α2 α3 α4 α5 α6 α7 : Type} {R : Value → List (Addr × Obj) → Heap → Nat → Prop} {T : Nat → Prop} {p1 : α1 → α2 → α3 → α4 → α5 → α6 → α7 → Prop} {p2 : α1 → α2 → α3 → α4 → α5 → α6 → α7 → Prop} {p3 : α1 → α2 → α3 → α4 → α5 → α6 → α7 → Prop} {p4 : α1 → α2 → α3 → α4 → α5 → α6 → α7 → Prop} {p5 : α1 → α2 → α3 → α4 → α5 → α6 → α7 → Prop} {V : α1 → α2 → α3 → α4 → α5 → α6 → α7 → Value} {L : α1 → α2 → α3 → α4 → α5 → α6 → α7 → List (Addr × Obj)} (k : ∀ a1 a2 a3 a4 a5 a6 a7, p1 a1 a2 a3 a4 a5 a6 a7 → p2 a1 a2 a3 a4 a5 a6 a7 → p3 a1 a2 a3 a4 a5 a6 a7 → p4 a1 a2 a3 a4 a5 a6 a7 → p5 a1 a2 a3 a4 a5 a6 a7 → ∀ h' tk', T tk' → R (V a1 a2 a3 a4 a5 a6 a7) (L a1 a2 a3 a4 a5 a6 a7) h' tk') : ∀ v n h' tk', T tk' → (∃ a1, ∃ a2, ∃ a3, ∃ a4, ∃ a5, ∃ a6, ∃ a7, v = V a1 a2 a3 a4 a5 a6 a7 ∧ p1 a1 a2 a3 a4 a5 a6 a7 ∧ p2 a1 a2 a3 a4 a5 a6 a7 ∧ p3 a1 a2 a3 a4 a5 a6 a7 ∧ p4 a1 a2 a3 a4 a5 a6 a7 ∧ p5 a1 a2 a3 a4 a5 a6 a7 ∧ n = L a1 a2 a3 a4 a5 a6 a7) → R v n h' tk' := by
  rintro _ _ h' tk' hl ⟨a1, a2, a3, a4, a5, a6, a7, rfl, hp1, hp2, hp3, hp4, hp5, rfl⟩
  exact k a1 a2 a3 a4 a5 a6 a7 hp1 hp2 hp3 hp4 hp5 h' tk' hl
theorem rts_EEEEEEEEEEEEEEvpppn {α1 α2 α3 α4 α5 α6 α7 α8 α9 α10 α11 α12 α13 α14 : Type} {R : Value → List (Addr × Obj) → Heap → Nat → Prop} {p1 : α1 → α2 → α3 → α4 → α5 → α6 → α7 → α8 → α9 → α10 → α11 → α12 → α13 → α14 → Prop} {p2 : α1 → α2 → α3 → α4 → α5 → α6 → α7 → α8 → α9 → α10 → α11 → α12 → α13 → α14 → Prop} {p3 : α1 → α2 → α3 → α4 → α5 → α6 → α7 → α8 → α9 → α10 → α11 → α12 → α13 → α14 → Prop} {V : α1 → α2 → α3 → α4 → α5 → α6 → α7 → α8 → α9 → α10 → α11 → α12 → α13 → α14 → Value} {L : α1 → α2 → α3 → α4 → α5 → α6 → α7 → α8 → α9 → α10 → α11 → α12 → α13 → α14 → List (Addr × Obj)} (k : ∀ a1 a2 a3 a4 a5 a6 a7 a8 a9 a10 a11 a12 a13 a14, p1 a1 a2 a3 a4 a5 a6 a7 a8 a9 a10 a11 a12 a13 a14 → p2 a1 a2 a3 a4 a5 a6 a7 a8 a9 a10 a11 a12 a13 a14 → p3 a1 a2 a3 a4 a5 a6 a7 a8 a9 a10 a11 a12 a13 a14 → ∀ h' tk', R (V a1 a2 a3 a4 a5 a6 a7 a8 a9 a10 a11 a12 a13 a14) (L a1 a2 a3 a4 a5 a6 a7 a8 a9 a10 a11 a12 a13 a14) h' tk') : ∀ v n h' tk', (∃ a1, ∃ a2, ∃ a3, ∃ a4, ∃ a5, ∃ a6, ∃ a7, ∃ a8, ∃ a9, ∃ a10, ∃ a11, ∃ a12, ∃ a13, ∃ a14, v = V a1 a2 a3 a4 a5 a6 a7 a8 a9 a10 a11 a12 a13 a14 ∧ p1 a1 a2 a3 a4 a5 a6 a7 a8 a9 a10 a11 a12 a13 a14 ∧ p2 a1 a2 a3 a4 a5 a6 a7 a8 a9 a10 a11 a12 a13 a14 ∧ p3 a1 a2 a3 a4 a5 a6 a7 a8 a9 a10 a11 a12 a13 a14 ∧ n = L a1 a2 a3 a4 a5 a6 a7 a8 a9 a10 a11 a12 a13 a14) → R v n h' tk' := by
  rintro _ _ h' tk' ⟨a1, a2, a3, a4, a5, a6, a7, a8, a9, a10, a11, a12, a13, a14, rfl, hp1, hp2, hp3, rfl⟩
  exact k a1 a2 a3 a4 a5 a6 a7 a8 a9 a10 a11 a12 a13 a14 hp1 hp2 hp3 h' tk'
theorem rts_EEEEEEEvpppppn {α1 α2 α3 α4 α5 α6 α7 : Type} {R : Value → List (Addr × Obj) → Heap → Nat → Prop} {p1 : α1 → α2 → α3 → α4 → α5 → α6 → α7 → Prop} {p2 : α1 → α2 → α3 → α4 → α5 → α6 → α7 → Prop} {p3 : α1 → α2 → α3 → α4 → α5 → α6 → α7 → Prop} {p4 : α1 → α2 → α3 → α4 → α5 → α6 → α7 → Prop} {p5 : α1 → α2 → α3 → α4 → α5 → α6 → α7 → Prop} {V : α1 → α2 → α3 → α4 → α5 → α6 → α7 → Value} {L : α1 → α2 → α3 → α4 → α5 → α6 → α7 → List (Addr × Obj)} (k : ∀ a1 a2 a3 a4 a5 a6 a7, p1 a1 a2 a3 a4 a5 a6 a7 → p2 a1 a2 a3 a4 a5 a6 a7 → p3 a1 a2 a3 a4 a5 a6 a7 → p4 a1 a2 a3 a4 a5 a6 a7 → p5 a1 a2 a3 a4 a5 a6 a7 → ∀ h' tk', R (V a1 a2 a3 a4 a5 a6 a7) (L a1 a2 a3 a4 a5 a6 a7) h' tk') : ∀ v n h' tk', (∃ a1, ∃ a2, ∃ a3, ∃ a4, ∃ a5, ∃ a6, ∃ a7, v = V a1 a2 a3 a4 a5 a6 a7 ∧ p1 a1 a2 a3 a4 a5 a6 a7 ∧ p2 a1 a2 a3 a4 a5 a6 a7 ∧ p3 a1 a2 a3 a4 a5 a6 a7 ∧ p4 a1 a2 a3 a4 a5 a6 a7 ∧ p5 a1 a2 a3 a4 a5 a6 a7 ∧ n = L a1 a2 a3 a4 a5 a6 a7) → R v n h' tk' := by
  rintro _ _ h' tk' ⟨a1, a2, a3, a4, a5, a6, a7, rfl, hp1, hp2, hp3, hp4, hp5, rfl⟩
  exact k a1 a2 a3 a4 a5 a6 a7 hp1 hp2 hp3 hp4 hp5 h' tk'
theorem rts_EEEEEEvppn {α1 α2 α3 α4 α5 α6 : Type} {R : Value → List (Addr × Obj) → Heap → Nat → Prop} {p1 : α1 → α2 → α3 → α4 → α5 → α6 → Prop} {p2 : α1 → α2 → α3 → α4 → α5 → α6 → Prop} {V : α1 → α2 → α3 → α4 → α5 → α6 → Value} {L : α1 → α2 → α3 → α4 → α5 → α6 → List (Addr × Obj)} (k : ∀ a1 a2 a3 a4 a5 a6, p1 a1 a2 a3 a4 a5 a6 → p2 a1 a2 a3 a4 a5 a6 → ∀ h' tk', R (V a1 a2 a3 a4 a5 a6) (L a1 a2 a3 a4 a5 a6) h' tk') : ∀ v n h' tk', (∃ a1, ∃ a2, ∃ a3, ∃ a4, ∃ a5, ∃ a6, v = V a1 a2 a3 a4 a5 a6 ∧ p1 a1 a2 a3 a4 a5 a6 ∧ p2 a1 a2 a3 a4 a5 a6 ∧ n = L a1 a2 a3 a4 a5 a6) → R v n h' tk' := by
  rintro _ _ h' tk' ⟨a1, a2, a3, a4, a5, a6, rfl, hp1, hp2, rfl⟩
  exact k a1 a2 a3 a4 a5 a6 hp1 hp2 h' tk'
theorem rts_EEEEvpppn {α1 α2 α3 α4 : Type} {R : Value → List (Addr × Obj) → Heap → Nat → Prop} {p1 : α1 → α2 → α3 → α4 → Prop} {p2 : α1 → α2 → α3 → α4 → Prop} {p3 : α1 → α2 → α3 → α4 → Prop} {V : α1 → α2 → α3 → α4 → Value} {L : α1 → α2 → α3 → α4 → List (Addr × Obj)} (k : ∀ a1 a2 a3 a4, p1 a1 a2 a3 a4 → p2 a1 a2 a3 a4 → p3 a1 a2 a3 a4 → ∀ h' tk', R (V a1 a2 a3 a4) (L a1 a2 a3 a4) h' tk') : ∀ v n h' tk', (∃ a1, ∃ a2, ∃ a3, ∃ a4, v = V a1 a2 a3 a4 ∧ p1 a1 a2 a3 a4 ∧ p2 a1 a2 a3 a4 ∧ p3 a1 a2 a3 a4 ∧ n = L a1 a2 a3 a4) → R v n h' tk' := by
  rintro _ _ h' tk' ⟨a1, a2, a3, a4, rfl, hp1, hp2, hp3, rfl⟩
  exact k a1 a2 a3 a4 hp1 hp2 hp3 h' tk'
theorem rts_EEEEvppppppn {α1 α2 α3 α4 : Type} {R : Value → List (Addr × Obj) → Heap → Nat → Prop} {p1 : α1 → α2 → α3 → α4 → Prop} {p2 : α1 → α2 → α3 → α4 → Prop} {p3 : α1 → α2 → α3 → α4 → Prop} {p4 : α1 → α2 → α3 → α4 → Prop} {p5 : α1 → α2 → α3 → α4 → Prop} {p6 : α1 → α2 → α3 → α4 → Prop} {V : α1 → α2 → α3 → α4 → Value} {L : α1 → α2 → α3 → α4 → List (Addr × Obj)} (k : ∀ a1 a2 a3 a4, p1 a1 a2 a3 a4 → p2 a1 a2 a3 a4 → p3 a1 a2 a3 a4 → p4 a1 a2 a3 a4 → p5 a1 a2 a3 a4 → p6 a1 a2 a3 a4 → ∀ h' tk', R (V a1 a2 a3 a4) (L a1 a2 a3 a4) h' tk') : ∀ v n h' tk', (∃ a1, ∃ a2, ∃ a3, ∃ a4, v = V a1 a2 a3 a4 ∧ p1 a1 a2 a3 a4 ∧ p2 a1 a2 a3 a4 ∧ p3 a1 a2 a3 a4 ∧ p4 a1 a2 a3 a4 ∧ p5 a1 a2 a3 a4 ∧ p6 a1 a2 a3 a4 ∧ n = L a1 a2 a3 a4) → R v n h' tk' := by
  rintro _ _ h' tk' ⟨a1, a2, a3, a4, rfl, hp1, hp2, hp3, hp4, hp5, hp6, rfl⟩
  exact k a1 a2 a3 a4 hp1 hp2 hp3 hp4 hp5 hp6 h' tk'
theorem rts_EEvn {α1 α2 : Type} {R : Value → List (Addr × Obj) → Heap → Nat → Prop} {V : α1 → α2 → Value} {L : α1 → α2 → List (Addr × Obj)} (k : ∀ a1 a2, ∀ h' tk', R (V a1 a2) (L a1 a2) h' tk') : ∀ v n h' tk', (∃ a1, ∃ a2, v = V a1 a2 ∧ n = L a1 a2) → R v n h' tk' := by
  rintro _ _ h' tk' ⟨a1, a2, rfl, rfl⟩
  exact k a1 a2 h' tk'
theorem rts_Evn {α1 : Type} {R : Value → List (Addr × Obj) → Heap → Nat → Prop} {V : α1 → Value} {L : α1 → List (Addr × Obj)} (k : ∀ a1, ∀ h' tk', R (V a1) (L a1) h' tk') : ∀ v n h' tk', (∃ a1, v = V a1 ∧ n = L a1) → R v n h' tk' := by
  rintro _ _ h' tk' ⟨a1, rfl, rfl⟩
  exact k a1 h' tk'
theorem rts_oEvcEEn {α1 α2 α3 : Type} {R : Value → List (Addr × Obj) → Heap → Nat → Prop} {V : α1 → Value} {L : α2 → α3 → List (Addr × Obj)} (k : ∀ a1 a2 a3, ∀ h' tk', R (V a1) (L a2 a3) h' tk') : ∀ v n h' tk', ((∃ a1, v = V a1) ∧ ∃ a2, ∃ a3, n = L a2 a3) → R v n h' tk' := by
  rintro _ _ h' tk' ⟨⟨a1, rfl⟩, a2, a3, rfl⟩
  exact k a1 a2 a3 h' tk'
theorem rts_oEvcn {α1 : Type} {R : Value → List (Addr × Obj) → Heap → Nat → Prop} {V : α1 → Value} {L : List (Addr × Obj)} (k : ∀ a1, ∀ h' tk', R (V a1) L h' tk') : ∀ v n h' tk', ((∃ a1, v = V a1) ∧ n = L) → R v n h' tk' := by
  rintro _ _ h' tk' ⟨⟨a1, rfl⟩, rfl⟩
  exact k a1 h' tk'
theorem rts_pppoEvcEEEEppppn {α1 α2 α3 α4 α5 : Type} {R : Value → List (Addr × Obj) → Heap → Nat → Prop} {p1 : Prop} {p2 : Prop} {p3 : Prop} {p4 : α2 → α3 → α4 → α5 → Prop} {p5 : α2 → α3 → α4 → α5 → Prop} {p6 : α2 → α3 → α4 → α5 → Prop} {p7 : α2 → α3 → α4 → α5 → Prop} {V : α1 → Value} {L : α2 → α3 → α4 → α5 → List (Addr × Obj)} (k : ∀ a1 a2 a3 a4 a5, p1 → p2 → p3 → p4 a2 a3 a4 a5 → p5 a2 a3 a4 a5 → p6 a2 a3 a4 a5 → p7 a2 a3 a4 a5 → ∀ h' tk', R (V a1) (L a2 a3 a4 a5) h' tk') : ∀ v n h' tk', (p1 ∧ p2 ∧ p3 ∧ (∃ a1, v = V a1) ∧ ∃ a2, ∃ a3, ∃ a4, ∃ a5, p4 a2 a3 a4 a5 ∧ p5 a2 a3 a4 a5 ∧ p6 a2 a3 a4 a5 ∧ p7 a2 a3 a4 a5 ∧ n = L a2 a3 a4 a5) → R v n h' tk' := by
  rintro _ _ h' tk' ⟨hp1, hp2, hp3, ⟨a1, rfl⟩, a2, a3, a4, a5, hp4, hp5, hp6, hp7, rfl⟩
  exact k a1 a2 a3 a4 a5 hp1 hp2 hp3 hp4 hp5 hp6 hp7 h' tk'
theorem rts_pppvEEEEppppn {α1 α2 α3 α4 : Type} {R : Value → List (Addr × Obj) → Heap → Nat → Prop} {p1 : Prop} {p2 : Prop} {p3 : Prop} {p4 : α1 → α2 → α3 → α4 → Prop} {p5 : α1 → α2 → α3 → α4 → Prop} {p6 : α1 → α2 → α3 → α4 → Prop} {p7 : α1 → α2 → α3 → α4 → Prop} {V : Value} {L : α1 → α2 → α3 → α4 → List (Addr × Obj)} (k : ∀ a1 a2 a3 a4, p1 → p2 → p3 → p4 a1 a2 a3 a4 → p5 a1 a2 a3 a4 → p6 a1 a2 a3 a4 → p7 a1 a2 a3 a4 → ∀ h' tk', R V (L a1 a2 a3 a4) h' tk') : ∀ v n h' tk', (p1 ∧ p2 ∧ p3 ∧ v = V ∧ ∃ a1, ∃ a2, ∃ a3, ∃ a4, p4 a1 a2 a3 a4 ∧ p5 a1 a2 a3 a4 ∧ p6 a1 a2 a3 a4 ∧ p7 a1 a2 a3 a4 ∧ n = L a1 a2 a3 a4) → R v n h' tk' := by
  rintro _ _ h' tk' ⟨hp1, hp2, hp3, rfl, a1, a2, a3, a4, hp4, hp5, hp6, hp7, rfl⟩
  exact k a1 a2 a3 a4 hp1 hp2 hp3 hp4 hp5 hp6 hp7 h' tk'
theorem rts_pppvEEn {α1 α2 : Type} {R : Value → List (Addr × Obj) → Heap → Nat → Prop} {p1 : Prop} {p2 : Prop} {p3 : Prop} {V : Value} {L : α1 → α2 → List (Addr × Obj)} (k : ∀ a1 a2, p1 → p2 → p3 → ∀ h' tk', R V (L a1 a2) h' tk') : ∀ v n h' tk', (p1 ∧ p2 ∧ p3 ∧ v = V ∧ ∃ a1, ∃ a2, n = L a1 a2) → R v n h' tk' := by
  rintro _ _ h' tk' ⟨hp1, hp2, hp3, rfl, a1, a2, rfl⟩
  exact k a1 a2 hp1 hp2 hp3 h' tk'
theorem rts_ppvEn {α1 : Type} {R : Value → List (Addr × Obj) → Heap → Nat → Prop} {p1 : Prop} {p2 : Prop} {V : Value} {L : α1 → List (Addr × Obj)} (k : ∀ a1, p1 → p2 → ∀ h' tk', R V (L a1) h' tk') : ∀ v n h' tk', (p1 ∧ p2 ∧ v = V ∧ ∃ a1, n = L a1) → R v n h' tk' := by
  rintro _ _ h' tk' ⟨hp1, hp2, rfl, a1, rfl⟩
  exact k a1 hp1 hp2 h' tk'
theorem rts_pvEn {α1 : Type} {R : Value → List (Addr × Obj) → Heap → Nat → Prop} {p1 : Prop} {V : Value} {L : α1 → List (Addr × Obj)} (k : ∀ a1, p1 → ∀ h' tk', R V (L a1) h' tk') : ∀ v n h' tk', (p1 ∧ v = V ∧ ∃ a1, n = L a1) → R v n h' tk' := by
  rintro _ _ h' tk' ⟨hp1, rfl, a1, rfl⟩
  exact k a1 hp1 h' tk'
theorem rts_vEEEppn {α1 α2 α3 : Type} {R : Value → List (Addr × Obj) → Heap → Nat → Prop} {p1 : α1 → α2 → α3 → Prop} {p2 : α1 → α2 → α3 → Prop} {V : Value} {L : α1 → α2 → α3 → List (Addr × Obj)} (k : ∀ a1 a2 a3, p1 a1 a2 a3 → p2 a1 a2 a3 → ∀ h' tk', R V (L a1 a2 a3) h' tk') : ∀ v n h' tk', (v = V ∧ ∃ a1, ∃ a2, ∃ a3, p1 a1 a2 a3 ∧ p2 a1 a2 a3 ∧ n = L a1 a2 a3) → R v n h' tk' := by
  rintro _ _ h' tk' ⟨rfl, a1, a2, a3, hp1, hp2, rfl⟩
  exact k a1 a2 a3 hp1 hp2 h' tk'
theorem rts_vEn {α1 : Type} {R : Value → List (Addr × Obj) → Heap → Nat → Prop} {V : Value} {L : α1 → List (Addr × Obj)} (k : ∀ a1, ∀ h' tk', R V (L a1) h' tk') : ∀ v n h' tk', (v = V ∧ ∃ a1, n = L a1) → R v n h' tk' := by
  rintro _ _ h' tk' ⟨rfl, a1, rfl⟩
  exact k a1 h' tk'
theorem rts_vn {R : Value → List (Addr × Obj) → Heap → Nat → Prop} {V : Value} {L : List (Addr × Obj)} (k : ∀ h' tk', R V L h' tk') : ∀ v n h' tk', (v = V ∧ n = L) → R v n h' tk' := by
  rintro _ _ h' tk' ⟨rfl, rfl⟩
  exact k  h' tk'
theorem rtt_EEEEEEEEEvpppppppppn {α1 α2 α3 α4 α5 α6 α7 α8 α9 : Type} {R : Value → List (Addr × Obj) → Heap → Nat → Prop} {T : Nat → Prop} {p1 : α1 → α2 → α3 → α4 → α5 → α6 → α7 → α8 → α9 → Nat → Prop} {p2 : α1 → α2 → α3 → α4 → α5 → α6 → α7 → α8 → α9 → Nat → Prop} {p3 : α1 → α2 → α3 → α4 → α5 → α6 → α7 → α8 → α9 → Nat → Prop} {p4 : α1 → α2 → α3 → α4 → α5 → α6 → α7 → α8 → α9 → Nat → Prop} {p5 : α1 → α2 → α3 → α4 → α5 → α6 → α7 → α8 → α9 → Nat → Prop} {p6 : α1 → α2 → α3 → α4 → α5 → α6 → α7 → α8 → α9 → Nat → Prop} {p7 : α1 → α2 → α3 → α4 → α5 → α6 → α7 → α8 → α9 → Nat → Prop} {p8 : α1 → α2 → α3 → α4 → α5 → α6 → α7 → α8 → α9 → Nat → Prop} {p9 : α1 → α2 → α3 → α4 → α5 → α6 → α7 → α8 → α9 → Nat → Prop} {V : α1 → α2 → α3 → α4 → α5 → α6 → α7 → α8 → α9 → Value} {L : α1 → α2 → α3 → α4 → α5 → α6 → α7 → α8 → α9 → List (Addr × Obj)} (k : ∀ a1 a2 a3 a4 a5 a6 a7 a8 a9, ∀ h' tk', T tk' → p1 a1 a2 a3 a4 a5 a6 a7 a8 a9 tk' → p2 a1 a2 a3 a4 a5 a6 a7 a8 a9 tk' → p3 a1 a2 a3 a4 a5 a6 a7 a8 a9 tk' → p4 a1 a2 a3 a4 a5 a6 a7 a8 a9 tk' → p5 a1 a2 a3 a4 a5 a6 a7 a8 a9 tk' → p6 a1 a2 a3 a4 a5 a6 a7 a8 a9 tk' → p7 a1 a2 a3 a4 a5 a6 a7 a8 a9 tk' → p8 a1 a2 a3 a4 a5 a6 a7 a8 a9 tk' → p9 a1 a2 a3 a4 a5 a6 a7 a8 a9 tk' → R (V a1 a2 a3 a4 a5 a6 a7 a8 a9) (L a1 a2 a3 a4 a5 a6 a7 a8 a9) h' tk') : ∀ v n h' tk', T tk' → (∃ a1, ∃ a2, ∃ a3, ∃ a4, ∃ a5, ∃ a6, ∃ a7, ∃ a8, ∃ a9, v = V a1 a2 a3 a4 a5 a6 a7 a8 a9 ∧ p1 a1 a2 a3 a4 a5 a6 a7 a8 a9 tk' ∧ p2 a1 a2 a3 a4 a5 a6 a7 a8 a9 tk' ∧ p3 a1 a2 a3 a4 a5 a6 a7 a8 a9 tk' ∧ p4 a1 a2 a3 a4 a5 a6 a7 a8 a9 tk' ∧ p5 a1 a2 a3 a4 a5 a6 a7 a8 a9 tk' ∧ p6 a1 a2 a3 a4 a5 a6 a7 a8 a9 tk' ∧ p7 a1 a2 a3 a4 a5 a6 a7 a8 a9 tk' ∧ p8 a1 a2 a3 a4 a5 a6 a7 a8 a9 tk' ∧ p9 a1 a2 a3 a4 a5 a6 a7 a8 a9 tk' ∧ n = L a1 a2 a3 a4 a5 a6 a7 a8 a9) → R v n h' tk' := by
  rintro _ _ h' tk' hl ⟨a1, a2, a3, a4, a5, a6, a7, a8, a9, rfl, hp1, hp2, hp3, hp4, hp5, hp6, hp7, hp8, hp9, rfl⟩
  exact k a1 a2 a3 a4 a5 a6 a7 a8 a9 h' tk' hl hp1 hp2 hp3 hp4 hp5 hp6 hp7 hp8 hp9
theorem rtt_EEvpn {α1 α2 : Type} {R : Value → List (Addr × Obj) → Heap → Nat → Prop} {T : Nat → Prop} {p1 : α1 → α2 → Nat → Prop} {V : α1 → α2 → Value} {L : α1 → α2 → List (Addr × Obj)} (k : ∀ a1 a2, ∀ h' tk', T tk' → p1 a1 a2 tk' → R (V a1 a2) (L a1 a2) h' tk') : ∀ v n h' tk', T tk' → (∃ a1, ∃ a2, v = V a1 a2 ∧ p1 a1 a2 tk' ∧ n = L a1 a2) → R v n h' tk' := by
  rintro _ _ h' tk' hl ⟨a1, a2, rfl, hp1, rfl⟩
  exact k a1 a2 h' tk' hl hp1
theorem rtw_pEEEEpppvppp {α0 : Type} {α1 α2 α3 α4 : Type} {R : α0 → Prop} {p1 : Prop} {p2 : α1 → α2 → α3 → α4 → Prop} {p3 : α1 → α2 → α3 → α4 → Prop} {p4 : α1 → α2 → α3 → α4 → Prop} {p5 : α1 → α2 → α3 → α4 → Prop} {p6 : α1 → α2 → α3 → α4 → Prop} {p7 : α1 → α2 → α3 → α4 → Prop} {V : α1 → α2 → α3 → α4 → α0} (k : ∀ a1 a2 a3 a4, p1 → p2 a1 a2 a3 a4 → p3 a1 a2 a3 a4 → p4 a1 a2 a3 a4 → p5 a1 a2 a3 a4 → p6 a1 a2 a3 a4 → p7 a1 a2 a3 a4 → R (V a1 a2 a3 a4)) : ∀ v, (p1 ∧ ∃ a1, ∃ a2, ∃ a3, ∃ a4, p2 a1 a2 a3 a4 ∧ p3 a1 a2 a3 a4 ∧ p4 a1 a2 a3 a4 ∧ v = V a1 a2 a3 a4 ∧ p5 a1 a2 a3 a4 ∧ p6 a1 a2 a3 a4 ∧ p7 a1 a2 a3 a4) → R v := by
  rintro _ ⟨hp1, a1, a2, a3, a4, hp2, hp3, hp4, rfl, hp5, hp6, hp7⟩
  exact k a1 a2 a3 a4 hp1 hp2 hp3 hp4 hp5 hp6 hp7
theorem rtx_EEEEEEEEEEEpppppppppppp {α1 α2 α3 α4 α5 α6 α7 α8 α9 α10 α11 : Type} {R : Prop} {p1 : α1 → α2 → α3 → α4 → α5 → α6 → α7 → α8 → α9 → α10 → α11 → Prop} {p2 : α1 → α2 → α3 → α4 → α5 → α6 → α7 → α8 → α9 → α10 → α11 → Prop} {p3 : α1 → α2 → α3 → α4 → α5 → α6 → α7 → α8 → α9 → α10 → α11 → Prop} {p4 : α1 → α2 → α3 → α4 → α5 → α6 → α7 → α8 → α9 → α10 → α11 → Prop} {p5 : α1 → α2 → α3 → α4 → α5 → α6 → α7 → α8 → α9 → α10 → α11 → Prop} {p6 : α1 → α2 → α3 → α4 → α5 → α6 → α7 → α8 → α9 → α10 → α11 → Prop} {p7 : α1 → α2 → α3 → α4 → α5 → α6 → α7 → α8 → α9 → α10 → α11 → Prop} {p8 : α1 → α2 → α3 → α4 → α5 → α6 → α7 → α8 → α9 → α10 → α11 → Prop} {p9 : α1 → α2 → α3 → α4 → α5 → α6 → α7 → α8 → α9 → α10 → α11 → Prop} {p10 : α1 → α2 → α3 → α4 → α5 → α6 → α7 → α8 → α9 → α10 → α11 → Prop} {p11 : α1 → α2 → α3 → α4 → α5 → α6 → α7 → α8 → α9 → α10 → α11 → Prop} {p12 : α1 → α2 → α3 → α4 → α5 → α6 → α7 → α8 → α9 → α10 → α11 → Prop} (k : ∀ a1 a2 a3 a4 a5 a6 a7 a8 a9 a10 a11, p1 a1 a2 a3 a4 a5 a6 a7 a8 a9 a10 a11 → p2 a1 a2 a3 a4 a5 a6 a7 a8 a9 a10 a11 → p3 a1 a2 a3 a4 a5 a6 a7 a8 a9 a10 a11 → p4 a1 a2 a3 a4 a5 a6 a7 a8 a9 a10 a11 → p5 a1 a2 a3 a4 a5 a6 a7 a8 a9 a10 a11 → p6 a1 a2 a3 a4 a5 a6 a7 a8 a9 a10 a11 → p7 a1 a2 a3 a4 a5 a6 a7 a8 a9 a10 a11 → p8 a1 a2 a3 a4 a5 a6 a7 a8 a9 a10 a11 → p9 a1 a2 a3 a4 a5 a6 a7 a8 a9 a10 a11 → p10 a1 a2 a3 a4 a5 a6 a7 a8 a9 a10 a11 → p11 a1 a2 a3 a4 a5 a6 a7 a8 a9 a10 a11 → p12 a1 a2 a3 a4 a5 a6 a7 a8 a9 a10 a11 → R) : (∃ a1, ∃ a2, ∃ a3, ∃ a4, ∃ a5, ∃ a6, ∃ a7, ∃ a8, ∃ a9, ∃ a10, ∃ a11, p1 a1 a2 a3 a4 a5 a6 a7 a8 a9 a10 a11 ∧ p2 a1 a2 a3 a4 a5 a6 a7 a8 a9 a10 a11 ∧ p3 a1 a2 a3 a4 a5 a6 a7 a8 a9 a10 a11 ∧ p4 a1 a2 a3 a4 a5 a6 a7 a8 a9 a10 a11 ∧ p5 a1 a2 a3 a4 a5 a6 a7 a8 a9 a10 a11 ∧ p6 a1 a2 a3 a4 a5 a6 a7 a8 a9 a10 a11 ∧ p7 a1 a2 a3 a4 a5 a6 a7 a8 a9 a10 a11 ∧ p8 a1 a2 a3 a4 a5 a6 a7 a8 a9 a10 a11 ∧ p9 a1 a2 a3 a4 a5 a6 a7 a8 a9 a10 a11 ∧ p10 a1 a2 a3 a4 a5 a6 a7 a8 a9 a10 a11 ∧ p11 a1 a2 a3 a4 a5 a6 a7 a8 a9 a10 a11 ∧ p12 a1 a2 a3 a4 a5 a6 a7 a8 a9 a10 a11) → R := by
  rintro ⟨a1, a2, a3, a4, a5, a6, a7, a8, a9, a10, a11, hp1, hp2, hp3, hp4, hp5, hp6, hp7, hp8, hp9, hp10, hp11, hp12⟩
  exact k a1 a2 a3 a4 a5 a6 a7 a8 a9 a10 a11 hp1 hp2 hp3 hp4 hp5 hp6 hp7 hp8 hp9 hp10 hp11 hp12
theorem rtx_EEEEEEEpp {α1 α2 α3 α4 α5 α6 α7 : Type} {R : Prop} {p1 : α1 → α2 → α3 → α4 → α5 → α6 → α7 → Prop} {p2 : α1 → α2 → α3 → α4 → α5 → α6 → α7 → Prop} (k : ∀ a1 a2 a3 a4 a5 a6 a7, p1 a1 a2 a3 a4 a5 a6 a7 → p2 a1 a2 a3 a4 a5 a6 a7 → R) : (∃ a1, ∃ a2, ∃ a3, ∃ a4, ∃ a5, ∃ a6, ∃ a7, p1 a1 a2 a3 a4 a5 a6 a7 ∧ p2 a1 a2 a3 a4 a5 a6 a7) → R := by
  rintro ⟨a1, a2, a3, a4, a5, a6, a7, hp1, hp2⟩
  exact k a1 a2 a3 a4 a5 a6 a7 hp1 hp2
theorem rtx_EEEEEpp {α1 α2 α3 α4 α5 : Type} {R : Prop} {p1 : α1 → α2 → α3 → α4 → α5 → Prop} {p2 : α1 → α2 → α3 → α4 → α5 → Prop} (k : ∀ a1 a2 a3 a4 a5, p1 a1 a2 a3 a4 a5 → p2 a1 a2 a3 a4 a5 → R) : (∃ a1, ∃ a2, ∃ a3, ∃ a4, ∃ a5, p1 a1 a2 a3 a4 a5 ∧ p2 a1 a2 a3 a4 a5) → R := by
  rintro ⟨a1, a2, a3, a4, a5, hp1, hp2⟩
  exact k a1 a2 a3 a4 a5 hp1 hp2
theorem rtx_EEEp {α1 α2 α3 : Type} {R : Prop} {p1 : α1 → α2 → α3 → Prop} (k : ∀ a1 a2 a3, p1 a1 a2 a3 → R) : (∃ a1, ∃ a2, ∃ a3, p1 a1 a2 a3) → R := by
  rintro ⟨a1, a2, a3, hp1⟩
  exact k a1 a2 a3 hp1
theorem rtx_EEEpppppppppppppppppp {α1 α2 α3 : Type} {R : Prop} {p1 : α1 → α2 → α3 → Prop} {p2 : α1 → α2 → α3 → Prop} {p3 : α1 → α2 → α3 → Prop} {p4 : α1 → α2 → α3 → Prop} {p5 : α1 → α2 → α3 → Prop} {p6 : α1 → α2 → α3 → Prop} {p7 : α1 → α2 → α3 → Prop} {p8 : α1 → α2 → α3 → Prop} {p9 : α1 → α2 → α3 → Prop} {p10 : α1 → α2 → α3 → Prop} {p11 : α1 → α2 → α3 → Prop} {p12 : α1 → α2 → α3 → Prop} {p13 : α1 → α2 → α3 → Prop} {p14 : α1 → α2 → α3 → Prop} {p15 : α1 → α2 → α3 → Prop} {p16 : α1 → α2 → α3 → Prop} {p17 : α1 → α2 → α3 → Prop} {p18 : α1 → α2 → α3 → Prop} (k : ∀ a1 a2 a3, p1 a1 a2 a3 → p2 a1 a2 a3 → p3 a1 a2 a3 → p4 a1 a2 a3 → p5 a1 a2 a3 → p6 a1 a2 a3 → p7 a1 a2 a3 → p8 a1 a2 a3 → p9 a1 a2 a3 → p10 a1 a2 a3 → p11 a1 a2 a3 → p12 a1 a2 a3 → p13 a1 a2 a3 → p14 a1 a2 a3 → p15 a1 a2 a3 → p16 a1 a2 a3 → p17 a1 a2 a3 → p18 a1 a2 a3 → R) : (∃ a1, ∃ a2, ∃ a3, p1 a1 a2 a3 ∧ p2 a1 a2 a3 ∧ p3 a1 a2 a3 ∧ p4 a1 a2 a3 ∧ p5 a1 a2 a3 ∧ p6 a1 a2 a3 ∧ p7 a1 a2 a3 ∧ p8 a1 a2 a3 ∧ p9 a1 a2 a3 ∧ p10 a1 a2 a3 ∧ p11 a1 a2 a3 ∧ p12 a1 a2 a3 ∧ p13 a1 a2 a3 ∧ p14 a1 a2 a3 ∧ p15 a1 a2 a3 ∧ p16 a1 a2 a3 ∧ p17 a1 a2 a3 ∧ p18 a1 a2 a3) → R := by
  rintro ⟨a1, a2, a3, hp1, hp2, hp3, hp4, hp5, hp6, hp7, hp8, hp9, hp10, hp11, hp12, hp13, hp14, hp15, hp16, hp17, hp18⟩
  exact k a1 a2 a3 hp1 hp2 hp3 hp4 hp5 hp6 hp7 hp8 hp9 hp10 hp11 hp12 hp13 hp14 hp15 hp16 hp17 hp18
theorem rtx_EEp {α1 α2 : Type} {R : Prop} {p1 : α1 → α2 → Prop} (k : ∀ a1 a2, p1 a1 a2 → R) : (∃ a1, ∃ a2, p1 a1 a2) → R := by
  rintro ⟨a1, a2, hp1⟩
  exact k a1 a2 hp1
theorem rtx_EEpppp {α1 α2 : Type} {R : Prop} {p1 : α1 → α2 → Prop} {p2 : α1 → α2 → Prop} {p3 : α1 → α2 → Prop} {p4 : α1 → α2 → Prop} (k : ∀ a1 a2, p1 a1 a2 → p2 a1 a2 → p3 a1 a2 → p4 a1 a2 → R) : (∃ a1, ∃ a2, p1 a1 a2 ∧ p2 a1 a2 ∧ p3 a1 a2 ∧ p4 a1 a2) → R := by
  rintro ⟨a1, a2, hp1, hp2, hp3, hp4⟩
  exact k a1 a2 hp1 hp2 hp3 hp4
theorem rtx_Ep {α1 : Type} {R : Prop} {p1 : α1 → Prop} (k : ∀ a1, p1 a1 → R) : (∃ a1, p1 a1) → R := by
  rintro ⟨a1, hp1⟩
  exact k a1 hp1
theorem rtx_Epp {α1 : Type} {R : Prop} {p1 : α1 → Prop} {p2 : α1 → Prop} (k : ∀ a1, p1 a1 → p2 a1 → R) : (∃ a1, p1 a1 ∧ p2 a1) → R := by
  rintro ⟨a1, hp1, hp2⟩
  exact k a1 hp1 hp2
theorem rtx_Epppp {α1 : Type} {R : Prop} {p1 : α1 → Prop} {p2 : α1 → Prop} {p3 : α1 → Prop} {p4 : α1 → Prop} (k : ∀ a1, p1 a1 → p2 a1 → p3 a1 → p4 a1 → R) : (∃ a1, p1 a1 ∧ p2 a1 ∧ p3 a1 ∧ p4 a1) → R := by
  rintro ⟨a1, hp1, hp2, hp3, hp4⟩
  exact k a1 hp1 hp2 hp3 hp4
theorem rtx_oEppcoEppcoEppcoEppcoEppcoEppc {α1 α2 α3 α4 α5 α6 : Type} {R : Prop} {p1 : α1 → Prop} {p2 : α1 → Prop} {p3 : α2 → Prop} {p4 : α2 → Prop} {p5 : α3 → Prop} {p6 : α3 → Prop} {p7 : α4 → Prop} {p8 : α4 → Prop} {p9 : α5 → Prop} {p10 : α5 → Prop} {p11 : α6 → Prop} {p12 : α6 → Prop} (k : ∀ a1 a2 a3 a4 a5 a6, p1 a1 → p2 a1 → p3 a2 → p4 a2 → p5 a3 → p6 a3 → p7 a4 → p8 a4 → p9 a5 → p10 a5 → p11 a6 → p12 a6 → R) : ((∃ a1, p1 a1 ∧ p2 a1) ∧ (∃ a2, p3 a2 ∧ p4 a2) ∧ (∃ a3, p5 a3 ∧ p6 a3) ∧ (∃ a4, p7 a4 ∧ p8 a4) ∧ (∃ a5, p9 a5 ∧ p10 a5) ∧ (∃ a6, p11 a6 ∧ p12 a6)) → R := by
  rintro ⟨⟨a1, hp1, hp2⟩, ⟨a2, hp3, hp4⟩, ⟨a3, hp5, hp6⟩, ⟨a4, hp7, hp8⟩, ⟨a5, hp9, hp10⟩, ⟨a6, hp11, hp12⟩⟩
  exact k a1 a2 a3 a4 a5 a6 hp1 hp2 hp3 hp4 hp5 hp6 hp7 hp8 hp9 hp10 hp11 hp12
theorem rtx_pp {R : Prop} {p1 : Prop} {p2 : Prop} (k : p1 → p2 → R) : (p1 ∧ p2) → R := by
  rintro ⟨hp1, hp2⟩
  exact k hp1 hp2
theorem rtx_ppp {R : Prop} {p1 : Prop} {p2 : Prop} {p3 : Prop} (k : p1 → p2 → p3 → R) : (p1 ∧ p2 ∧ p3) → R := by
  rintro ⟨hp1, hp2, hp3⟩
  exact k hp1 hp2 hp3
theorem rtx_pppp {R : Prop} {p1 : Prop} {p2 : Prop} {p3 : Prop} {p4 : Prop} (k : p1 → p2 → p3 → p4 → R) : (p1 ∧ p2 ∧ p3 ∧ p4) → R := by
  rintro ⟨hp1, hp2, hp3, hp4⟩
  exact k hp1 hp2 hp3 hp4
theorem rtx_pppppp {R : Prop} {p1 : Prop} {p2 : Prop} {p3 : Prop} {p4 : Prop} {p5 : Prop} {p6 : Prop} (k : p1 → p2 → p3 → p4 → p5 → p6 → R) : (p1 ∧ p2 ∧ p3 ∧ p4 ∧ p5 ∧ p6) → R := by
  rintro ⟨hp1, hp2, hp3, hp4, hp5, hp6⟩
  exact k hp1 hp2 hp3 hp4 hp5 hp6
noncomputable abbrev PG : Program := PySem.Challenge.rw_nu0067_01.row.prog
noncomputable abbrev VW : Program := hd.view_39
noncomputable abbrev LO : List Str := looseW hd.view_39 [Str.ofString "SyntaxFault", Str.ofString "char_of", Str.ofString "text_in_value"]
/-- what a call of the def at f does, from any frame of the program: how it comes back, and how it raises -/
def Ctr (w : World) (mean : ExcName → Option Value) (mg mb : Str → Option Value) (need : Nat) (f : Addr) (args : List Value) (news : List (Addr × Obj))
    (Post : Value → List (Addr × Obj) → Prop) (PostE : Addr → List (Addr × Obj) → Prop) : Prop :=
  ∀ (dp un : Nat) (gd : Option (List Code)) (cn : Str) (cs : Scope) (a : Addr) (ccd : Value) (cl : List (Str × Addr)) (outer : List Env) (A₀ : Around) (base h₀ : Heap) (L : Addr) (m : Str → Option Value) (s : Shared) (Q E : Value → Shared → Prop),
    Below A₀ base outer h₀ → Fr h₀ L s.heap m → (hd.heap_39 w.params).In h₀ → News h₀ L s.heap news → Top VW LO mean mg mb h₀ → cs.kind = .function → dp + need < recursionLimit → un + 8 * need < cLine →
    (∀ v news' h' tk', Post v news' → Fr h₀ L h' m → News h₀ L h' news' → Q v { s with heap := h', toks := tk' }) →
    (∀ e C t vs newsX G h' tk', PostE C newsX → Fr h₀ L G m → RaisedS base G (envX cn cs L a ccd cl :: outer) e (.ref C) t vs newsX h' → G.UpToSlots h' → E (.ref e) { s with heap := h', toks := tk' }) →
    wpAny (model PG w) (ktrTop dp un gd cn cs L a ccd cl outer) (call (.ref f) args) Q E s
theorem Ctr.use {w : World} {mean : ExcName → Option Value} {mg mb : Str → Option Value} {need : Nat} {f : Addr} {args : List Value} {news : List (Addr × Obj)}
    {Post : Value → List (Addr × Obj) → Prop} {PostE : Addr → List (Addr × Obj) → Prop} (C : Ctr w mean mg mb need f args news Post PostE)
    {dp un : Nat} {gd : Option (List Code)} {cn : Str} {cs : Scope} {a : Addr} {ccd : Value} {cl : List (Str × Addr)} {outer : List Env} {A₀ : Around} {base h₀ : Heap} {L : Addr} {m : Str → Option Value} {h : Heap} {gn : Array GenState} {dr : Drawn} {tk : Nat} {os : OsState} {Q E : Value → Shared → Prop}
    (N : News h₀ L h news)
    (ret : ∀ v news' h' tk', Post v news' → Fr h₀ L h' m → News h₀ L h' news' → Q v ⟨h', gn, dr, tk', os⟩)
    (exc : ∀ e C t vs newsX G h' tk', PostE C newsX → Fr h₀ L G m → RaisedS base G (envX cn cs L a ccd cl :: outer) e (.ref C) t vs newsX h' → G.UpToSlots h' → E (.ref e) ⟨h', gn, dr, tk', os⟩)
    (B : Below A₀ base outer h₀ := by k_asm) (F : Fr h₀ L h m := by k_asm) (X : (hd.heap_39 w.params).In h₀ := by k_asm) (T : Top VW LO mean mg mb h₀ := by k_asm)
    (hk : cs.kind = .function := by first | exact rfl | assumption) (hd : dp + need < recursionLimit := by ktr_room) (hu : un + 8 * need < cLine := by ktr_units) :
    wpAny (model PG w) (ktrTop dp un gd cn cs L a ccd cl outer) (call (.ref f) args) Q E ⟨h, gn, dr, tk, os⟩ :=
  C _ _ _ _ _ _ _ _ _ _ _ _ _ _ ⟨h, gn, dr, tk, os⟩ _ _ B F X N T hk hd hu ret exc
/-- a place where the walk stands still -/
def Halt (P : Prop) : Prop := P
theorem Halt.go {P : Prop} (h : Halt P) : P := h
theorem Halt.at {P : Prop} (h : P) : Halt P := h
theorem news_sub {h₀ h : Heap} {L : Addr} {news news' : List (Addr × Obj)} (N : News h₀ L h news') (hs : ∀ p ∈ news, p ∈ news') : News h₀ L h news := fun p hp => N p (hs p hp)
/-- the part of the ledger that a contract leaves alone -/
def IsRest (_ : List (Addr × Obj)) : Prop := True
def RestLt (rest : List (Addr × Obj)) (b : Addr) : Prop := ∀ p ∈ rest, p.1 < b
theorem RestLt.of {rest news : List (Addr × Obj)} {b : Addr} (_ : IsRest rest) (h : ∀ p ∈ news, p.1 < b) (hs : ∀ p ∈ rest, p ∈ news) : RestLt rest b := fun p hp => h p (hs p hp)
theorem RestLt.ne {rest : List (Addr × Obj)} {b d : Addr} (h : RestLt rest b) (hd : @LE.le Nat _ b d) : ∀ p ∈ rest, p.1 ≠ d := fun p hp => Nat.ne_of_lt (Nat.lt_of_lt_of_le (h p hp) hd)
theorem raisedS_sub {base G h : Heap} {l : List Env} {e t : Addr} {cls : Value} {vs : List Value} {news news' : List (Addr × Obj)} (R : RaisedS base G l e cls t vs news' h) (hs : ∀ p ∈ news, p ∈ news') : RaisedS base G l e cls t vs news h := by
  obtain ⟨⟨B, hB, hBG, hl, hfl, hnew⟩, htup⟩ := R
  exact ⟨⟨B, hB, hBG, fun q hq => hl q (hs q hq), hfl, hnew⟩, htup⟩
theorem gd0 (x : Int) (l : List Int) : (x :: l).getD (Int.toNat 0) 0 = x := rfl
theorem gd1 (x y : Int) (l : List Int) : (x :: y :: l).getD (Int.toNat 1) 0 = y := rfl
theorem news_eq {h₀ h : Heap} {L : Addr} {n n' : List (Addr × Obj)} (N : News h₀ L h n) (e : n = n') : News h₀ L h n' := e ▸ N
theorem fr_eq2 {h₀ h : Heap} {L : Addr} {m m' : Str → Option Value} (F : Fr h₀ L h m) (e : m = m') : Fr h₀ L h m' := e ▸ F
theorem neL {a b : Nat} (h : a < b) : a ≠ b := Nat.ne_of_lt h
theorem neR {a b : Nat} (h : b < a) : a ≠ b := Nat.ne_of_gt h
theorem room0 {d n R : Nat} (h : d + n < R) : d < R := Nat.lt_of_le_of_lt (Nat.le_add_right d n) h
theorem room1 {d n k R : Nat} (h : d + n < R) (e : Nat.ble k n = true) : d + k < R := Nat.lt_of_le_of_lt (Nat.add_le_add_left (Nat.le_of_ble_eq_true e) d) h
theorem room2 {d n k l R : Nat} (h : d + n < R) (e : Nat.ble (k + l) n = true) : d + k + l < R := Nat.add_assoc d k l ▸ room1 h e
theorem room3 {d n k l j R : Nat} (h : d + n < R) (e : Nat.ble (k + l + j) n = true) : d + k + l + j < R := by rw [Nat.add_assoc d k l]; exact room2 h e
theorem lt3 {k : Nat} (h : k < 3) : k = 0 ∨ k = 1 ∨ k = 2 := by omega
theorem lt4 {k : Nat} (h : k < 4) : k = 0 ∨ k = 1 ∨ k = 2 ∨ k = 3 := by omega
theorem le4 {k : Nat} (h : k ≤ 4) : k = 0 ∨ k = 1 ∨ k = 2 ∨ k = 3 ∨ k = 4 := by omega
theorem below3 {k : Nat} (h : (k : Int) < 3) : k = 0 ∨ k = 1 ∨ k = 2 := by omega
theorem fmc {α : Type} {p : α → Prop} {a : α} {l : List α} (h : p a) (k : ∀ x ∈ l, p x) : ∀ x ∈ a :: l, p x := List.forall_mem_cons.mpr ⟨h, k⟩
theorem fm1 {α : Type} {p : α → Prop} {a : α} (h : p a) : ∀ x ∈ [a], p x := List.forall_mem_singleton.mpr h
end Mine
open Mine StrLaws
local macro_rules | `(tactic| walk_at "cj") => `(tactic| focus (first | with_reducible assumption | (apply And.left; (iterate 14 (try (first | with_reducible assumption | apply And.right))); done)))
local macro_rules | `(tactic| walk_at "lt") => `(tactic| focus ((try dsimp only); (first | walk_at "cj" | (refine' Nat.lt_trans ?_ ?k; (case k => with_reducible assumption); walk_at "cj"))))
local macro_rules | `(tactic| walk_at "le") => `(tactic| (first | exact Nat.le_refl _ | (refine Nat.le_of_lt ?_; walk_at "lt") | omega))
local macro_rules | `(tactic| k_ne) => `(tactic| (first | with_reducible assumption | (refine neL ?_; walk_at "lt") | (refine neR ?_; walk_at "lt")))
local macro_rules | `(tactic| walk_at "room") => `(tactic| (first | exact room0 (by assumption) | (refine' room1 ?h ?_; (case h => assumption); exact rfl) | (refine' room2 ?h ?_; (case h => assumption); exact rfl) | (refine' room3 ?h ?_; (case h => assumption); exact rfl)))
local macro_rules | `(tactic| ktr_room) => `(tactic| walk_at "room")
local macro_rules | `(tactic| ktr_units) => `(tactic| walk_at "room")
local macro_rules | `(tactic| walk_at "subscriptTail Name Constant ref int") => `(tactic| ((with_reducible show wpAny _ _ (subscriptTail _ _ (Value.ref _) (Value.int _ _)) _ _ _); (with_unfolding_all refine' item_list_ints ?k1 ?k2 ?k3 ?k4 ?k5 ?_; (case k1 => is_list); (case k2 => l_ints); (case k3 => l_idx); (case k4 => l_idx); (case k5 => l_idx); k_whole); intro _; (try simp only [gd0, gd1])))
local macro_rules | `(tactic| walk_at "tails") => `(tactic| (intro pX hX; (repeat (first | exact hX | refine List.mem_cons_of_mem _ ?_)); done))
local macro_rules | `(tactic| walk_at "perm") => `(tactic| (repeat (first | exact List.forall_mem_nil _ | refine (fmc (by k_mem) ?_) | walk_at "tails")))
local macro_rules | `(tactic| k_lt $h:ident) => `(tactic| ((first | (with_reducible rename RestLt _ _ => rX) | (have rX := RestLt.of (by with_reducible assumption) $h (by walk_at "tails")) | skip); (replace $h := allLt_of $h; simp only [AllLt, and_true] at $h:ident)))
local macro_rules | `(tactic| k_all) => `(tactic| first | with_reducible assumption | exact RestLt.ne (by with_reducible assumption) (by walk_at "le"))
/- opening of a contract's proof -/
local macro_rules | `(tactic| walk_at "begin") => `(tactic| (unfold Ctr; delta PG VW LO; k_fill))
local macro_rules | `(tactic| k_room) => `(tactic| ktr_room)
/- the fault leaves its frame: N is what is kept -/
local macro_rules | `(tactic| walk_at "call builtin:list.pop") => `(tactic| (k_here; (with_reducible show wpAny _ _ (call (Value.builtin _) [Value.ref _]) _ _ _); k_dflt (refine' kl_pop ?F ?N ?e ?U ?z ?_; (case F => k_asm); (case N => k_asm); (case U => k_upd); (case e => exact kpa_last _ _); (case z => (rw [List.toList_toArray, List.length_append, List.length_cons, List.length_nil, sizeLine_eq]; omega)); k_whole); kl_rest))
local macro_rules | `(tactic| walk_at "leaving ref") => `(tactic| (k_here; k_dflt (refine' leave_onS ?k1 ?k2 ?k3 ?k4 ?_; (case k3 => assumption); (case k2 => assumption); (case k1 => assumption); (case k4 => assumption); k_whole); intro h' S' R' U'; (try dsimp only at S' R' U' ⊢)))
local macro_rules | `(tactic| walk_at "call ref") => `(tactic| (k_here; (first
  | (with_reducible show wpAny _ _ (call (Value.ref 217) _) _ _ _) | (with_reducible show wpAny _ _ (call (Value.ref 210) _) _ _ _) | (with_reducible show wpAny _ _ (call (Value.ref 224) _) _ _ _)); refine Halt.go ?_))
local macro_rules | `(tactic| walk_at "exec While") => `(tactic| (k_here; refine Halt.go ?_))
local macro_rules | `(tactic| walk_at "exec While BoolOp") => `(tactic| (k_here; refine Halt.go ?_))
local macro_rules | `(tactic| walk_at "exec While Compare") => `(tactic| (k_here; refine Halt.go ?_))
local macro_rules | `(tactic| walk_at "exec While BoolOp cons nil") => `(tactic| (k_here; refine Halt.go ?_))
local macro_rules | `(tactic| walk_at "exec While Compare cons nil") => `(tactic| (k_here; refine Halt.go ?_))
local macro_rules | `(tactic| walk_at "subscriptTail Name Attribute str int") => `(tactic| (k_here; k_dflt (refine item_str (fitsSsize_of (N := 9223372036854775808) (by omega) (by omega) (Int.le_refl _)) (by omega) (by omega) ?_); intro _))
local macro_rules | `(tactic| walk_at "subscriptTail Attribute Attribute str int") => `(tactic| (k_here; k_dflt (refine item_str (fitsSsize_of (N := 9223372036854775808) (by omega) (by omega) (Int.le_refl _)) (by omega) (by omega) ?_); intro _))
local macro_rules | `(tactic| walk_at "call builtin:list.append") => `(tactic| (k_here; k_dflt (refine' append_K ?F ?N ?U ?_ ?z; (case F => k_asm); (case N => k_asm); (case U => k_upd); (case z => (rw [List.size_toArray, sizeLine_eq]; (first | decide | omega))); k_whole); intro h' F' N'; (try dsimp only [List.nil_append, List.cons_append] at N')))
local macro_rules | `(tactic| walk_at "alllt") => `(tactic| (repeat (first | exact List.forall_mem_nil _ | (refine (fmc ?_ ?_); (refine ltN ?_; (first | walk_at "lt" | ((try dsimp only); omega)))) | with_reducible assumption)))
/- entering a def that has defaults -/
local macro_rules | `(tactic| walk_at "enter with defaults") => `(tactic| (refine' code_def ?k1 ?k2 ?k3 ?k4 ?k5 ?kA ?kF ?kK ?k6 ?k7 ?k8 ?k9 ?kB ?_ ?c2 ?c3 ?c4 ?c5; (case kA => exact rfl); (case kF => exact rfl); (case kK => assumption); (case k1 => k_asm); (case k2 => k_asm); (case k3 => k_asm); (case k4 => k_asm); (case k5 => k_asm); (case k6 => k_is); (case k7 => k_is); (case k8 => ktr_room); (case k9 => exact binds_K (by k_in) rfl (by k_is) rfl rfl rfl); (case c5 => decide); (case kB => exact locs rfl); (case c2 => exact rfl); (case c3 => exact rfl); (case c4 => exact rfl); k_whole; intro g' L' h' FG' F' N' B' X' T'; (try dsimp only); (try k_lift B'); (try k_fold)))
local macro_rules | `(tactic| k_in) => `(tactic| (first | k_in_fast | assumption | exact Frag.In.keeps (by k_asm) (Fr.keep (by k_asm))))
local macro_rules | `(tactic| walk_at "disall") => `(tactic| (repeat (first | exact List.forall_mem_nil _ | (refine (fmc ?_ ?_); (first | with_reducible assumption | exact Ne.symm (by with_reducible assumption) | k_ne | exact ne_lt (by dsimp only; omega))) | with_reducible assumption | exact RestLt.ne (by with_reducible assumption) (by walk_at "le"))))
local macro_rules | `(tactic| walk_at "ne") => `(tactic| (repeat (first | infer_instance | exact ne_world | exact ne_shared | exact ne_around | exact ne_drawn | refine ne_prod ?_ ?_ | (refine ⟨?_⟩; (repeat' (first | exact default | constructor))))))
namespace Mine
/-- a text as the law builds it: plain signs and references -/
inductive It where
  | ch (c : Nat)
  | ref (k : Nat)
def It.cps : It → List Nat
  | .ch c => [c]
  | .ref k => [38, 101, 48 + k, 59]
def cpsOf : List It → List Nat
  | [] => []
  | i :: l => i.cps ++ cpsOf l
def It.ok (n : Nat) : It → Prop
  | .ch c => c ≠ 38 ∧ c ≠ 60 ∧ c ≠ 9 ∧ c ≠ 10 ∧ c ≠ 13
  | .ref k => k < n
theorem cpsOf_app (a b : List It) : cpsOf (a ++ b) = cpsOf a ++ cpsOf b := by
  induction a with
  | nil => rfl
  | cons i a ih => simp only [List.cons_append, cpsOf, ih, List.append_assoc]
theorem cpsOf_chs (l : List Nat) : cpsOf (l.map It.ch) = l := by
  induction l with
  | nil => rfl
  | cons c l ih => simp only [List.map_cons, cpsOf, It.cps, ih]; rfl
theorem cpsOf_nil {l : List It} (h : cpsOf l = []) : l = [] := by
  cases l with
  | nil => rfl
  | cons i l => cases i <;> simp [cpsOf, It.cps] at h
/-- the split of a text at its first reference -/
theorem split_its (n : Nat) : ∀ its : List It, (∀ i ∈ its, i.ok n) → ∃ (cs : List Nat) (r : List It), its = cs.map It.ch ++ r ∧ (∀ c ∈ cs, c ≠ 38 ∧ c ≠ 60 ∧ c ≠ 9 ∧ c ≠ 10 ∧ c ≠ 13) ∧ (r = [] ∨ ∃ k r', r = .ref k :: r' ∧ k < n)
  | [], _ => ⟨[], [], rfl, by simp, .inl rfl⟩
  | .ref k :: l, h => ⟨[], .ref k :: l, rfl, by simp, .inr ⟨k, l, rfl, h _ (.head _)⟩⟩
  | .ch c :: l, h => by
    obtain ⟨cs, r, e, h1, h2⟩ := split_its n l fun i hi => h i (.tail _ hi)
    refine ⟨c :: cs, r, by rw [e]; rfl, ?_, h2⟩
    intro c' hc'
    rcases List.mem_cons.mp hc' with rfl | hc'
    · exact h _ (.head _)
    · exact h1 c' hc'
inductive Out where
  | txt (f : List Nat) (sz : Int)
  | lim
  | ent
abbrev PRow := Option Nat × List It
def ops (ps : List PRow) : List Nat := ps.filterMap (·.1)
/-- how the reading of the texts that stand within one another comes out -/
inductive Ev (T : Nat → List It) (md ms : Int) : Out → Nat → List PRow → Int → List Nat → Prop
  | fin (sz : Int) (f : List Nat) : Ev T md ms (.txt f sz) 0 [] sz f
  | pop {o : Out} {n : Nat} {nm : Option Nat} {ps : List PRow} {sz : Int} {f : List Nat} (h : Ev T md ms o n ps sz f) : Ev T md ms o (n + 1) ((nm, []) :: ps) sz f
  | ch {o : Out} {n : Nat} {nm : Option Nat} {c : Nat} {its : List It} {ps : List PRow} {sz : Int} {f : List Nat} (h : Ev T md ms o n ((nm, its) :: ps) sz (f ++ [c])) : Ev T md ms o (n + 1) ((nm, .ch c :: its) :: ps) sz f
  | enter {o : Out} {n : Nat} {nm : Option Nat} {k : Nat} {its : List It} {ps : List PRow} {sz : Int} {f : List Nat} (h1 : k ∉ ops ((nm, its) :: ps)) (h2 : ((ops ((nm, its) :: ps)).length : Int) < md) (h3 : sz + ((cpsOf (T k)).length : Nat) ≤ ms)
      (h : Ev T md ms o n ((some k, T k) :: (nm, its) :: ps) (sz + ((cpsOf (T k)).length : Nat)) f) : Ev T md ms o (n + 1) ((nm, .ref k :: its) :: ps) sz f
  | within {nm : Option Nat} {n k : Nat} {its : List It} {ps : List PRow} {sz : Int} {f : List Nat} (h1 : k ∈ ops ((nm, its) :: ps)) : Ev T md ms .ent (n + 1) ((nm, .ref k :: its) :: ps) sz f
  | limit {nm : Option Nat} {n k : Nat} {its : List It} {ps : List PRow} {sz : Int} {f : List Nat} (h1 : k ∉ ops ((nm, its) :: ps)) (h2 : ¬ (((ops ((nm, its) :: ps)).length : Int) < md ∧ sz + ((cpsOf (T k)).length : Nat) ≤ ms)) : Ev T md ms .lim (n + 1) ((nm, .ref k :: its) :: ps) sz f
section
variable {T : Nat → List It} {md ms : Int} {o : Out}
theorem Ev.chs : ∀ (cs : List Nat) {n : Nat} {nm : Option Nat} {its : List It} {ps : List PRow} {sz : Int} {f : List Nat}, Ev T md ms o n ((nm, cs.map It.ch ++ its) :: ps) sz f → ∃ n', n = n' + cs.length ∧ Ev T md ms o n' ((nm, its) :: ps) sz (f ++ cs)
  | [], n, nm, its, ps, sz, f, h => ⟨n, rfl, by simpa using h⟩
  | c :: cs, n, nm, its, ps, sz, f, h => by
    rw [List.map_cons, List.cons_append] at h
    cases h with
    | ch h =>
      obtain ⟨n', e, h'⟩ := Ev.chs cs h
      exact ⟨n', by rw [List.length_cons]; (first | lia | omega), by simpa using h'⟩
end
end Mine
namespace Mine
open StrLaws
theorem item_is {x : Str} {k c : Nat} (h : x.cps.toList[k]? = some c) : Txt.item x (k : Int) = ⟨#[c]⟩ := by
  have h' : x.cps[((k : Nat) : Int).toNat]? = some c := by simpa using h
  unfold Txt.item Txt.charAt
  rw [at_nonneg (Int.natCast_nonneg k) h']
  rfl
theorem marks_is (c : Nat) : (Builtin.Str.occurrences (Str.ofString "&<") ⟨#[c]⟩ 0 (Str.ofString "&<").length 1).isEmpty = !decide (c = 38 ∨ c = 60) := by
  have h := found_one (Str.ofString "&<") c
  have e : (Str.ofString "&<").cps.toList = [38, 60] := by decide
  rw [e] at h
  simp only [List.mem_cons, List.not_mem_nil, or_false] at h
  rw [← h, Bool.not_not]
theorem len_is (x : Str) : x.length = x.cps.toList.length := by simp [Str.length]
theorem slice_is {x : Str} {pre body post : List Nat} {a b : Int} (h : x.cps.toList = pre ++ body ++ post) (ha : a = (pre.length : Nat)) (hb : b = ((pre.length + body.length : Nat) : Int)) :
    Txt.slice x (some a) (some b) = ⟨body.toArray⟩ := by
  have e := sliceText_plain (x := x) (i := a) (j := b) ⟨by (first | lia | omega), by (first | lia | omega), by rw [h, List.length_append, List.length_append]; (first | lia | omega)⟩
  show sliceText x (some a) (some b) = _
  rw [e, h, ha, hb]
  have e1 : ((pre.length : Nat) : Int).toNat = pre.length := by (first | lia | omega)
  have e2 : (((pre.length + body.length : Nat) : Int) - ((pre.length : Nat) : Int)).toNat = body.length := by (first | lia | omega)
  rw [e1, e2, List.append_assoc, List.drop_left, List.take_left]
theorem at_body {pre body post : List Nat} {k : Nat} (hk : k < body.length) : (pre ++ body ++ post)[pre.length + k]? = some body[k] := by
  rw [List.append_assoc, List.getElem?_append_right (by (first | lia | omega)), Nat.add_sub_cancel_left, List.getElem?_append_left hk, List.getElem?_eq_getElem hk]
theorem at_post {pre body post : List Nat} : (pre ++ body ++ post)[pre.length + body.length]? = post.head? := by
  rw [List.getElem?_append_right (by simp), List.length_append, Nat.sub_self, List.head?_eq_getElem?]
end Mine
namespace Mine
open StrLaws
theorem getD_app {pre r : List Nat} {k : Nat} : (pre ++ r)[pre.length + k]? = r[k]? := by
  rw [List.getElem?_append_right (by (first | lia | omega)), Nat.add_sub_cancel_left]
theorem find_semi {x : Str} {pre post : List Nat} {c : Nat} (hx : x.cps.toList = pre ++ 38 :: 101 :: c :: 59 :: post) (hc : c ≠ 59) : Txt.find3 x (Str.ofString ";") (pre.length : Nat) = ((pre.length + 3 : Nat) : Int) := by
  revert hx hc
  revert x pre post c
  refine @pick4 _ _ _ _ _ ?ne83 ?_
  (case ne83 => walk_at "ne")
  generalize ck4 _ = tU
  generalize hd2 tU = x, tl2 tU = tU
  generalize hd2 tU = pre, tl2 tU = tU
  generalize hd2 tU = post, tl2 tU = c
  intro hx hc
  have e0 : Str.ofString ";" = ⟨#[59]⟩ := by decide
  rw [e0]
  have hl : x.length = pre.length + (post.length + 4) := by rw [len_is, hx, List.length_append]; rfl
  have ef : fromIndex x.length ((pre.length : Nat) : Int) = pre.length := by
    unfold fromIndex
    rw [if_neg (by (first | lia | omega))]
    (first | lia | omega)
  have a0 : x.cps.toList[pre.length + 0]? = some 38 := by rw [hx, getD_app]; rfl
  have a1 : x.cps.toList[pre.length + 1]? = some 101 := by rw [hx, getD_app]; rfl
  have a2 : x.cps.toList[pre.length + 2]? = some c := by rw [hx, getD_app]; rfl
  have a3 : x.cps.toList[pre.length + 3]? = some 59 := by rw [hx, getD_app]; rfl
  have d0 := getD_of_getElem? a0
  have d1 := getD_of_getElem? a1
  have d2 := getD_of_getElem? a2
  have d3 := getD_of_getElem? a3
  rcases find3_spec x 59 (pre.length : Nat) with ⟨_, h⟩ | ⟨k, h0, h1, h2, h3, h4⟩
  · rw [ef] at h
    exact absurd d3 (h _ (by (first | lia | omega)) (by (first | lia | omega)))
  · rw [h0]
    rw [ef] at h1 h4
    have hk : k ≤ pre.length + 3 := by
      rcases Nat.lt_or_ge (pre.length + 3) k with z | z
      · exact absurd d3 (h4 _ (by (first | lia | omega)) z)
      · exact z
    have : k = pre.length + 3 := by
      rcases Nat.lt_or_ge k (pre.length + 3) with z | z
      · exfalso
        have : k = pre.length + 0 ∨ k = pre.length + 1 ∨ k = pre.length + 2 := by (first | lia | omega)
        rcases this with rfl | rfl | rfl
        · (first | lia | omega)
        · (first | lia | omega)
        · (first | lia | omega)
      · (first | lia | omega)
    rw [this]
theorem word_is {x : Str} {pre post : List Nat} {c : Nat} {a b : Int} (hx : x.cps.toList = pre ++ 38 :: 101 :: c :: 59 :: post) (ha : a = (pre.length : Nat) + 1) (hb : b = ((pre.length + 3 : Nat) : Int)) : Txt.slice x (some a) (some b) = ⟨#[101, c]⟩ :=
  slice_is (pre := pre ++ [38]) (body := [101, c]) (post := 59 :: post) (by rw [hx]; simp) (by rw [ha, List.length_append]; rfl) (by rw [hb, List.length_append]; rfl)
end Mine
namespace Mine
section
variable {prog : Program} {w : World} {A : Around} {E : Value → Shared → Prop} {s : Shared} {env : Env} {h₀ : Heap} {x : Str} {body : List Stmt} {Q : Flow → Shared → Prop} {σ : Type}
/-- what holds of the frame's names and the ledger at a turn's end -/
def StEnd (mσ : σ → Str → Option Value) (Nσ : σ → List (Addr × Obj)) (P : σ → Prop) (x : Str) (m' : Str → Option Value) (nx : List (Addr × Obj)) : Prop := ∃ c, (∀ y, y ≠ x → m' y = mσ c y) ∧ nx = Nσ c ∧ P c
abbrev TurnPost (h₀ : Heap) (L : Addr) (mσ : σ → Str → Option Value) (Nσ : σ → List (Addr × Obj)) (P : σ → Prop) (x : Str) (own : List (Addr × Obj)) (adr : List Addr) (s₁ : Shared) (Q : Flow → Shared → Prop) : Flow → Shared → Prop :=
  InvPostN h₀ L (StEnd mσ Nσ P x) own adr s₁ Q
theorem turn_end {L : Addr} {mσ : σ → Str → Option Value} {Nσ : σ → List (Addr × Obj)} {P : σ → Prop} {own news' : List (Addr × Obj)} {adr : List Addr} {s₁ : Shared} {m' : Str → Option Value} {h' : Heap} {tk : Nat} (c : σ)
    (F : Fr h₀ L h' m') (N : News h₀ L h' news') (hm : ∀ y, y ≠ x → m' y = mσ c y) (hp : P c) (ha : (Nσ c).map (·.1) = adr) (hn : ∀ p ∈ Nσ c, p ∈ news') (ho : ∀ p ∈ own, p ∈ news') : TurnPost h₀ L mσ Nσ P x own adr s₁ Q .next { s₁ with heap := h', toks := tk } :=
  ⟨h', tk, m', news', Nσ c, rfl, F, N, hn, ho, ha, c, hm, rfl, hp⟩
theorem same_map {m₁ m₂ : Str → Option Value} {v : Option Value} (h : ∀ y, y ≠ x → m₁ y = m₂ y) : (fun y => if y = x then v else m₁ y) = fun y => if y = x then v else m₂ y := by
  funext y
  by_cases e : y = x
  · simp only [if_pos e]
  · simp only [if_neg e]; exact h y e
theorem own_map {m₁ m₂ : Str → Option Value} (h : ∀ y, y ≠ x → m₁ y = m₂ y) : m₁ = fun y => if y = x then m₁ y else m₂ y := by
  funext y
  by_cases e : y = x
  · simp only [if_pos e]
  · simp only [if_neg e]; exact h y e
theorem for_text {xt : Str} {tx : Tok} {m₀ : Str → Option Value} (mσ : σ → Str → Option Value) (Nσ : σ → List (Addr × Obj)) (P : Nat → σ → Prop) (c₀ : σ)
    (hh : A.handled = none) (F : Fr h₀ env.locals s.heap m₀) (N : News h₀ env.locals s.heap (Nσ c₀)) (hm : m₀ = mσ c₀) (hp : P 0 c₀)
    (turn : ∀ (c : σ) (i n : Nat) t h tk own, xt.cps.toList[i]? = some n → OwnOff own ((Nσ c₀).map (·.1)) → (Nσ c).map (·.1) = (Nσ c₀).map (·.1) → P i c → Fr h₀ env.locals h (fun y => if y = x then some (.str ⟨#[n]⟩ t) else mσ c y) → News h₀ env.locals h (Nσ c ++ own) →
      wpAny (model prog w) A (execs body env) (TurnPost h₀ env.locals mσ Nσ (P (i + 1)) x own ((Nσ c₀).map (·.1)) { s with heap := h, toks := tk } Q) E { s with heap := h, toks := tk })
    (done : ∀ (c : σ) (u : Str → Option Value) h tk, P xt.cps.toList.length c → Fr h₀ env.locals h (fun y => if y = x then u y else mσ c y) → News h₀ env.locals h (Nσ c) → Q .next { s with heap := h, toks := tk }) :
    wpAny (model prog w) A (pyIter (.str xt tx)) (fun it s₂ => LoopAtV prog w A h₀ env x body Q E it s₂) E s := by
  subst hm
  refine wpAny_pyIter_str fun o St hW hst => ?_
  have W := hW A hh
  refine loop_invN (fun i m nx => StEnd mσ Nσ (P i) x m nx) W ?_ ?_ ?_ ?_ hst (F.push _) (fun p hp => ⟨Heap.get?_push_of_some _ (N p hp).1, (N p hp).2⟩) ⟨c₀, fun _ _ => rfl, rfl, hp⟩ ?_ ?_
  · intro hm
    exact absurd F.ns.lt ((List.mem_singleton.mp hm) ▸ Nat.lt_irrefl _)
  · intro b' hb
    rw [List.mem_singleton.mp hb]
    exact next_is_new F
  · intro p hp hI
    exact absurd (Heap.lt_size (N p hp).1) ((List.mem_singleton.mp hI) ▸ Nat.lt_irrefl _)
  · intro p hp hI
    exact absurd (Heap.lt_size (N p hp).1) ((List.mem_singleton.mp hI) ▸ Nat.lt_irrefl _)
  · rintro i v m₁ nx h tk own hi ⟨n, u, hn, rfl⟩ hadr hoff ⟨c, h1, rfl, hp'⟩ F₁ N₁
    have hn' : xt.cps.toList[i]? = some n := by simpa using hn
    exact turn c i n u h tk own hn' hoff hadr hp' (same_map h1 ▸ F₁) N₁
  · rintro m₁ nx h tk ⟨c, h1, rfl, hp'⟩ F₁ N₁
    exact done c m₁ h tk (by simpa using hp') (own_map h1 ▸ F₁) N₁
theorem for_range {r : Addr} {a b c₁ : Int} {t₀ u₀ v₀ : Tok} {n : Nat} {m₀ : Str → Option Value} (mσ : σ → Str → Option Value) (Nσ : σ → List (Addr × Obj)) (P : Nat → σ → Prop) (c₀ : σ)
    (hh : A.handled = none) (hr : IsRange s.heap r a b c₁ t₀ u₀ v₀) (hsmall : Builtin.Range.small a b c₁ = true) (hn : Builtin.Range.rangeSize a b c₁ = (n : Int)) (F : Fr h₀ env.locals s.heap m₀) (N : News h₀ env.locals s.heap (Nσ c₀)) (hm : m₀ = mσ c₀) (hp : P 0 c₀)
    (turn : ∀ (c : σ) (i : Nat) t h tk own, i < n → OwnOff own ((Nσ c₀).map (·.1)) → (Nσ c).map (·.1) = (Nσ c₀).map (·.1) → P i c → Fr h₀ env.locals h (fun y => if y = x then some (.int (a + i * c₁) t) else mσ c y) → News h₀ env.locals h (Nσ c ++ own) →
      wpAny (model prog w) A (execs body env) (TurnPost h₀ env.locals mσ Nσ (P (i + 1)) x own ((Nσ c₀).map (·.1)) { s with heap := h, toks := tk } Q) E { s with heap := h, toks := tk })
    (done : ∀ (c : σ) (u : Str → Option Value) h tk, P n c → Fr h₀ env.locals h (fun y => if y = x then u y else mσ c y) → News h₀ env.locals h (Nσ c) → Q .next { s with heap := h, toks := tk }) :
    wpAny (model prog w) A (pyIter (.ref r)) (fun it s₂ => LoopAtV prog w A h₀ env x body Q E it s₂) E s := by
  subst hm
  refine wpAny_pyIter_range hr hsmall ?_
  have W := Walks.range (prog := prog) (w := w) hh s.heap.objs.size a c₁ n
  refine loop_invN (fun i m nx => StEnd mσ Nσ (P i) x m nx) W ?_ ?_ ?_ ?_ ?_ (F.push _) (fun p hp => ⟨Heap.get?_push_of_some _ (N p hp).1, (N p hp).2⟩) ⟨c₀, fun _ _ => rfl, rfl, hp⟩ ?_ ?_
  · intro hm
    exact absurd F.ns.lt ((List.mem_singleton.mp hm) ▸ Nat.lt_irrefl _)
  · intro b' hb
    rw [List.mem_singleton.mp hb]
    exact next_is_new F
  · intro p hp hI
    exact absurd (Heap.lt_size (N p hp).1) ((List.mem_singleton.mp hI) ▸ Nat.lt_irrefl _)
  · intro p hp hI
    exact absurd (Heap.lt_size (N p hp).1) ((List.mem_singleton.mp hI) ▸ Nat.lt_irrefl _)
  · have e : a + ((0 : Nat) : Int) * c₁ = a := by rw [Int.natCast_zero, Int.zero_mul, Int.add_zero]
    rw [e, hn]
    exact Heap.get?_push_size _ rfl
  · rintro i v m₁ nx h tk own hi ⟨t, rfl⟩ hadr hoff ⟨c, h1, rfl, hp'⟩ F₁ N₁
    exact turn c i t h tk own hi hoff hadr hp' (same_map h1 ▸ F₁) N₁
  · rintro m₁ nx h tk ⟨c, h1, rfl, hp'⟩ F₁ N₁
    exact done c m₁ h tk hp' (own_map h1 ▸ F₁) N₁
end
end Mine
namespace Mine
/- an own exception class two levels under Exception, whose __init__ is the middle class's -/
section
variable {M : Model} {A : Around} {E : Value → Shared → Prop} {h : Heap} {g : Array GenState} {d : Drawn} {t : Nat} {os : OsState}
variable {prog : Program} {w : World} {R : Result → Shared → Prop}
variable {nm q : Str} {C N : Addr} {bs bm : List Value} {hdct : Bool} {sn : List Str} {sub : List Value} {ab : Bool} {col : Option Bool} {dd : Option Addr} {k0 k1 k2 k3 k5 : Option Value}
/-- what the last classes of the line are -/
structure Line (bm : List Value) : Prop where
  exc : bm.contains (.type "Exception") = true
  base : bm.contains (.type "BaseException") = true
  attr : bm.contains (.type "AttributeError") = false
  name : bm.contains (.type "NameError") = false
theorem fault_check (T : Line bm) {rest : List Value} {Q : Unit → Shared → Prop} (hC : h.get? C = some (excClassObj nm q C N bs bm hdct sn sub ab col dd k0 k1 k2 k3 k5 "Exception.__new__"))
    (hq : Q () ⟨h, g, d, t, os⟩) : wpAny M A (checkBuiltinCall "Exception.__new__" ⟨.ref C :: rest, []⟩) Q E ⟨h, g, d, t, os⟩ := by
  revert T hC hq
  revert M A E h g d t os nm q C N bs bm hdct sn sub ab col dd k0 k1 k2 k3 k5 rest Q
  refine @pick27 _ _ _ _ _ _ _ _ _ _ _ _ _ _ _ _ _ _ _ _ _ _ _ _ _ _ _ _ ?ne67 ?_
  (case ne67 => walk_at "ne")
  generalize ck27 _ = tU
  generalize hd2 tU = M, tl2 tU = tU
  generalize hd2 tU = A, tl2 tU = tU
  generalize hd2 tU = E, tl2 tU = tU
  generalize hd2 tU = h, tl2 tU = tU
  generalize hd2 tU = g, tl2 tU = tU
  generalize hd2 tU = d, tl2 tU = tU
  generalize hd2 tU = t, tl2 tU = tU
  generalize hd2 tU = os, tl2 tU = tU
  generalize hd2 tU = nm, tl2 tU = tU
  generalize hd2 tU = q, tl2 tU = tU
  generalize hd2 tU = C, tl2 tU = tU
  generalize hd2 tU = N, tl2 tU = tU
  generalize hd2 tU = bs, tl2 tU = tU
  generalize hd2 tU = bm, tl2 tU = tU
  generalize hd2 tU = hdct, tl2 tU = tU
  generalize hd2 tU = sn, tl2 tU = tU
  generalize hd2 tU = sub, tl2 tU = tU
  generalize hd2 tU = ab, tl2 tU = tU
  generalize hd2 tU = col, tl2 tU = tU
  generalize hd2 tU = dd, tl2 tU = tU
  generalize hd2 tU = k0, tl2 tU = tU
  generalize hd2 tU = k1, tl2 tU = tU
  generalize hd2 tU = k2, tl2 tU = tU
  generalize hd2 tU = k3, tl2 tU = tU
  generalize hd2 tU = k5, tl2 tU = tU
  generalize hd2 tU = rest, tl2 tU = Q
  intro T hC hq
  have F := PySem.F.excBase_Exception
  have hcont : (Value.ref C :: bm).contains (.type "Exception") = true := by rw [List.contains_cons, T.exc, Bool.or_true]
  have hstar := F.noStar
  simp only [checkBuiltinCall, F.newKind, F.newSplit, F.newRow]
  repeat (first | refine wpAny_loadPart_at hC ?_ | (refine wpAny_isSubtype_exc hC ?_; rw [hcont]) | refine wpAny_staticBase_exc hC ?_ | refine wpAny_madeBy_exc hC ?_ | simp only [bne_self_eq_false, Bool.false_eq_true, if_false] | wp_step)
  exact hq
theorem fault_new (T : Line bm) {rest : List Value} (hC : h.get? C = some (excClassObj nm q C N bs bm hdct sn sub ab col dd k0 k1 k2 k3 k5 "Exception.__new__"))
    (hq : R (.ok (.ret (.ref (h.objs.size + 1)))) ⟨(h.push { cls := .type "tuple", data := .seq rest.toArray }).push
      { cls := .ref C, data := .fields #[.ref h.objs.size, .none, .none, .none, .bool false, .none] }, g, d, t, os⟩) (hrest : rest.length ≤ sizeLine) :
    codeAny (model prog w) A (.builtin "Exception.__new__" ⟨.ref C :: rest, []⟩) R ⟨h, g, d, t, os⟩ := by
  revert T hC hq hrest
  revert A h g d t os prog w R nm q C N bs bm hdct sn sub ab col dd k0 k1 k2 k3 k5 rest
  refine @pick27 _ _ _ _ _ _ _ _ _ _ _ _ _ _ _ _ _ _ _ _ _ _ _ _ _ _ _ _ ?ne79 ?_
  (case ne79 => walk_at "ne")
  generalize ck27 _ = tU
  generalize hd2 tU = A, tl2 tU = tU
  generalize hd2 tU = h, tl2 tU = tU
  generalize hd2 tU = g, tl2 tU = tU
  generalize hd2 tU = d, tl2 tU = tU
  generalize hd2 tU = t, tl2 tU = tU
  generalize hd2 tU = os, tl2 tU = tU
  generalize hd2 tU = prog, tl2 tU = tU
  generalize hd2 tU = w, tl2 tU = tU
  generalize hd2 tU = R, tl2 tU = tU
  generalize hd2 tU = nm, tl2 tU = tU
  generalize hd2 tU = q, tl2 tU = tU
  generalize hd2 tU = C, tl2 tU = tU
  generalize hd2 tU = N, tl2 tU = tU
  generalize hd2 tU = bs, tl2 tU = tU
  generalize hd2 tU = bm, tl2 tU = tU
  generalize hd2 tU = hdct, tl2 tU = tU
  generalize hd2 tU = sn, tl2 tU = tU
  generalize hd2 tU = sub, tl2 tU = tU
  generalize hd2 tU = ab, tl2 tU = tU
  generalize hd2 tU = col, tl2 tU = tU
  generalize hd2 tU = dd, tl2 tU = tU
  generalize hd2 tU = k0, tl2 tU = tU
  generalize hd2 tU = k1, tl2 tU = tU
  generalize hd2 tU = k2, tl2 tU = tU
  generalize hd2 tU = k3, tl2 tU = tU
  generalize hd2 tU = k5, tl2 tU = rest
  intro T hC hq hrest
  have F := PySem.F.excBase_Exception
  have hends := F.ends
  have hcB : (Value.ref C :: bm).contains (.type "Exception") = true := by rw [List.contains_cons, T.exc, Bool.or_true]
  have hcA : (Value.ref C :: bm).contains (.type "AttributeError") = false := by rw [List.contains_cons, T.attr]; rfl
  have hcN : (Value.ref C :: bm).contains (.type "NameError") = false := by rw [List.contains_cons, T.name]; rfl
  refine codeAny_builtinAt F.entry ?_
  unfold Builtin.«BaseException.__new__»
  refine PySem.wpAt_bind ?_
  show PySem.wpAt _ _ _ (stack >>= _) _ _ _
  refine PySem.wpAt_bind (PySem.wpAt_stack fun p below => PySem.wpAt_of_wpAny ?_)
  wp_walk
  refine PySem.wpAt_of_wpAny ?_
  rw [F.owner]
  repeat (first | with_reducible refine wpAny_madeHere_exc F.canon hC ?_ | with_reducible refine wpAny_loadPart_at hC ?_ | (with_reducible refine wpAny_isSubtype_exc hC ?_; first | rw [hcB] | rw [hcA] | rw [hcN]) | wp_step)
  show R _ _
  rw [Heap.size_push]
  exact hq
theorem fault_make (T : Line bm) {rest : List Value} {fI : Addr} {oI : Obj} {Q : Fin → Shared → Prop}
    (hC : h.get? C = some (excClassObj nm q C N bs bm hdct sn sub ab col dd k0 k1 k2 k3 k5 "Exception.__new__")) (hi : Looks (model prog w) h (typeLookup (.ref C) "__init__") (some (.ref fI)))
    (hfI : h.get? fI = some oI) (hfc : oI.cls = .type "function")
    (hq : ∀ h' e, Heap.MadeExcOf h h' e (.ref C) rest → e = h.objs.size + 1 → h' = (h.push { cls := .type "tuple", data := .seq rest.toArray }).push { cls := .ref C, data := .fields #[.ref h.objs.size, .none, .none, .none, .bool false, .none] } →
      wpAny (model prog w) A (call (.ref fI) (.ref e :: rest)) (fun r s' => r = .none ∧ Q (.done (.ret (.ref e))) s') E ⟨h', g, d, t, os⟩) (hrest : rest.length ≤ sizeLine) :
    wpAny (model prog w) A (Builtin.«type.__call__» ⟨.ref C :: rest, []⟩) Q E ⟨h, g, d, t, os⟩ := by
  have dum30 : Unit := ()
  have dum31 : Unit := ()
  revert T hC hi hfI hfc hq hrest
  revert A E h g d t os prog w nm q C N bs bm hdct sn sub ab col dd k0 k1 k2 k3 k5 rest fI oI Q dum30 dum31
  refine @pick32 _ _ _ _ _ _ _ _ _ _ _ _ _ _ _ _ _ _ _ _ _ _ _ _ _ _ _ _ _ _ _ _ _ ?ne104 ?_
  (case ne104 => walk_at "ne")
  generalize ck32 _ = tU
  generalize hd2 tU = A, tl2 tU = tU
  generalize hd2 tU = E, tl2 tU = tU
  generalize hd2 tU = h, tl2 tU = tU
  generalize hd2 tU = g, tl2 tU = tU
  generalize hd2 tU = d, tl2 tU = tU
  generalize hd2 tU = t, tl2 tU = tU
  generalize hd2 tU = os, tl2 tU = tU
  generalize hd2 tU = prog, tl2 tU = tU
  generalize hd2 tU = w, tl2 tU = tU
  generalize hd2 tU = nm, tl2 tU = tU
  generalize hd2 tU = q, tl2 tU = tU
  generalize hd2 tU = C, tl2 tU = tU
  generalize hd2 tU = N, tl2 tU = tU
  generalize hd2 tU = bs, tl2 tU = tU
  generalize hd2 tU = bm, tl2 tU = tU
  generalize hd2 tU = hdct, tl2 tU = tU
  generalize hd2 tU = sn, tl2 tU = tU
  generalize hd2 tU = sub, tl2 tU = tU
  generalize hd2 tU = ab, tl2 tU = tU
  generalize hd2 tU = col, tl2 tU = tU
  generalize hd2 tU = dd, tl2 tU = tU
  generalize hd2 tU = k0, tl2 tU = tU
  generalize hd2 tU = k1, tl2 tU = tU
  generalize hd2 tU = k2, tl2 tU = tU
  generalize hd2 tU = k3, tl2 tU = tU
  generalize hd2 tU = k5, tl2 tU = tU
  generalize hd2 tU = rest, tl2 tU = tU
  generalize hd2 tU = fI, tl2 tU = tU
  generalize hd2 tU = oI, tl2 tU = tU
  generalize hd2 tU = Q
  intro T hC hi hfI hfc hq hrest
  have F := PySem.F.excBase_Exception
  repeat (first | with_reducible refine wpAny_loadPart_at hC ?_ | with_reducible refine wpAny_madeBy_exc hC ?_ | wp_step)
  refine codeAny_call_builtin_code (Code.quiet_builtin _ F.quiet) (fault_check T hC ?_)
  refine fault_new T hC ?_ hrest
  show wpAny _ _ _ _ _ _
  have kp : ∀ b o, h.get? b = some o → ((h.push { cls := .type "tuple", data := .seq rest.toArray }).push { cls := .ref C, data := .fields #[.ref h.objs.size, .none, .none, .none, .bool false, .none] }).get? b = some o :=
    fun b o e => Heap.get?_push_of_some _ (Heap.get?_push_of_some _ e)
  have hC₁ := kp _ _ hC
  have hfI₁ := kp _ _ hfI
  have hget : ((h.push { cls := .type "tuple", data := .seq rest.toArray }).push
      { cls := .ref C, data := .fields #[.ref h.objs.size, .none, .none, .none, .bool false, .none] }).get? (h.objs.size + 1) = some
      { cls := .ref C, data := .fields #[.ref h.objs.size, .none, .none, .none, .bool false, .none] } := by heap_get
  have hcC : (Value.ref C :: bm).contains (.ref C) = true := by simp
  unfold isInstance
  repeat (first | with_reducible refine wpAny_loadPart_at hget ?_ | (with_reducible refine wpAny_isSubtype_exc hC₁ ?_; rw [hcC]) | wp_step)
  show wpAny _ _ (typeLookup (.ref C) _) _ _ _
  refine (hi.keeps kp).at ?_
  refine wpAny_holding (wpAny_bind ?_)
  unfold bindSpecial
  refine wpAny_bind (wpAny_typeOf (T := "function") ⟨_, hfI₁, hfc⟩ ?_)
  rw [if_pos (by decide)]
  refine wpAny_pure (wpAny_bind (wpAny_mono (hq _ (h.objs.size + 1) ⟨kp, Heap.get?_none_of_le (Nat.le_succ _), h.objs.size, hget, Heap.get?_none_of_le (Nat.le_refl _), ?_⟩ rfl rfl) (fun r s' hr => ?_) fun _ _ x => x))
  · exact Heap.get?_push_of_some _ (Heap.get?_push_at rfl rfl)
  · obtain ⟨rfl, hQ⟩ := hr
    wp_walk
    exact hQ
theorem fault_call (T : Line bm) {rest : List Value} {fI : Addr} {oI : Obj} {Q : Value → Shared → Prop}
    (hC : h.get? C = some (excClassObj nm q C N bs bm hdct sn sub ab col dd k0 k1 k2 k3 k5 "Exception.__new__")) (hi : Looks (model prog w) h (typeLookup (.ref C) "__init__") (some (.ref fI)))
    (hfI : h.get? fI = some oI) (hfc : oI.cls = .type "function")
    (hq : ∀ h' e, Heap.MadeExcOf h h' e (.ref C) rest → e = h.objs.size + 1 → h' = (h.push { cls := .type "tuple", data := .seq rest.toArray }).push { cls := .ref C, data := .fields #[.ref h.objs.size, .none, .none, .none, .bool false, .none] } →
      wpAny (model prog w) (A.under (.builtin "type.__call__" ⟨.ref C :: rest, []⟩)) (call (.ref fI) (.ref e :: rest)) (fun r s' => r = .none ∧ Q (.ref e) s') E ⟨h', g, d, t, os⟩) (hrest : rest.length ≤ sizeLine) :
    wpAny (model prog w) A (call (.ref C) rest) Q E ⟨h, g, d, t, os⟩ := by
  have f1 := tc_lookup
  have f2 := tc_bind (.ref C)
  have hT : (⟨h, g, d, t, os⟩ : Shared).TypeIs (.ref C) "type" := ⟨_, hC, rfl⟩
  refine wpAny_call (codeAny_of_tree ?_)
  show wpAny _ _ (callAny (.ref C) _) _ _ _
  repeat (any_goals (first | assumption | with_reducible refine wpAny_loadPart_at hC ?_ | wp_step))
  refine ⟨rfl, ?_⟩
  refine codeAny_call_builtin_at (Code.quiet_builtin _ (by decide +kernel)) entry_typeCall (wpAny_check_type_call_sub hC (fault_make (hrest := hrest) T hC hi hfI hfc fun h' e hm e1 e2 => ?_))
  exact hq h' e hm e1 e2
theorem fault_raise {env : Env} {s : Shared} {x : Sem Value} {Q : Flow → Shared → Prop} (hbase : bm.contains (.type "BaseException") = true) (hh : A.handled = none)
    (h : wpAny M A x (fun v s₁ => ∃ e t dx, v = .ref e ∧ s₁.heap.get? C = some (excClassObj nm q C N bs bm hdct sn sub ab col dd k0 k1 k2 k3 k5 "Exception.__new__") ∧
      s₁.heap.get? e = some { cls := .ref C, dict := dx, data := .fields #[.ref t, .none, .none, .none, .bool false, .none] } ∧ E (.ref e) s₁) E s) :
    wpAny M A (raiseStmt env (some x) none) Q E s := by
  have dum24 : Unit := ()
  have dum25 : Unit := ()
  have dum26 : Unit := ()
  revert hbase hh h
  revert M A E nm q C N bs bm hdct sn sub ab col dd k0 k1 k2 k3 k5 env s x Q dum24 dum25 dum26
  refine @pick27 _ _ _ _ _ _ _ _ _ _ _ _ _ _ _ _ _ _ _ _ _ _ _ _ _ _ _ _ ?ne152 ?_
  (case ne152 => walk_at "ne")
  generalize ck27 _ = tU
  generalize hd2 tU = M, tl2 tU = tU
  generalize hd2 tU = A, tl2 tU = tU
  generalize hd2 tU = E, tl2 tU = tU
  generalize hd2 tU = nm, tl2 tU = tU
  generalize hd2 tU = q, tl2 tU = tU
  generalize hd2 tU = C, tl2 tU = tU
  generalize hd2 tU = N, tl2 tU = tU
  generalize hd2 tU = bs, tl2 tU = tU
  generalize hd2 tU = bm, tl2 tU = tU
  generalize hd2 tU = hdct, tl2 tU = tU
  generalize hd2 tU = sn, tl2 tU = tU
  generalize hd2 tU = sub, tl2 tU = tU
  generalize hd2 tU = ab, tl2 tU = tU
  generalize hd2 tU = col, tl2 tU = tU
  generalize hd2 tU = dd, tl2 tU = tU
  generalize hd2 tU = k0, tl2 tU = tU
  generalize hd2 tU = k1, tl2 tU = tU
  generalize hd2 tU = k2, tl2 tU = tU
  generalize hd2 tU = k3, tl2 tU = tU
  generalize hd2 tU = k5, tl2 tU = tU
  generalize hd2 tU = env, tl2 tU = tU
  generalize hd2 tU = s, tl2 tU = tU
  generalize hd2 tU = x, tl2 tU = tU
  generalize hd2 tU = Q
  intro hbase hh h
  have hcB : (Value.ref C :: bm).contains (.type "BaseException") = true := by rw [List.contains_cons, hbase, Bool.or_true]
  unfold raiseStmt
  refine wpAny_bind (wpAny_mono h (fun v s₁ h₁ => ?_) fun _ _ x => x)
  obtain ⟨e, t, dx, rfl, hC, he, hE⟩ := h₁
  obtain ⟨hp, g, d, tk, os⟩ := s₁
  repeat (first | with_reducible refine wpAny_loadPart_at he ?_ | with_reducible refine wpAny_loadPart_at hC ?_ | (with_reducible refine wpAny_isSubtype_exc hC ?_; rw [hcB]) | wp_step)
  exact wpAny_raiseNew_none hh hE
end
theorem meta_exc : typeOf (.type "Exception") = pure (.type "type") := by kernel_rfl
abbrev excO (C t : Addr) (dx : Option Addr) : Obj := { cls := .ref C, dict := dx, data := .fields #[.ref t, .none, .none, .none, .bool false, .none] }
abbrev tupO (vs : List Value) : Obj := { cls := .type "tuple", data := .seq vs.toArray }
theorem fault_K {prog : Program} {w : World} {A : Around} {E : Value → Shared → Prop} {s : Shared} {K : Frag} {C L fI : Addr} {h₀ : Heap} {m : Str → Option Value} {news : List (Addr × Obj)} {rest : List Value} {Q : Value → Shared → Prop}
    {nm q : Str} {N : Addr} {bs bm : List Value} {hdct : Bool} {sn : List Str} {sub : List Value} {ab : Bool} {col : Option Bool} {dd : Option Addr} {k0 k1 k2 k3 k5 : Option Value}
    (F : Fr h₀ L s.heap m) (X₀ : K.In h₀) (N' : News h₀ L s.heap news) (hC : K.lookup C = some (excClassObj nm q C N bs bm hdct sn sub ab col dd k0 k1 k2 k3 k5 "Exception.__new__")) (T : Line bm)
    (hi : findIn K (.ref C) "__init__" = some (some (.ref fI))) (hf : isFn K (.ref fI) = true) (hrest : rest.length ≤ sizeLine)
    (h : ∀ e t h', Fr h₀ L h' m → News h₀ L h' ((e, excO C t none) :: (t, tupO rest) :: news) → (∀ p ∈ news, p.1 < t) → t < e →
      wpAny (model prog w) (A.under (.builtin "type.__call__" ⟨.ref C :: rest, []⟩)) (call (.ref fI) (.ref e :: rest)) (fun r s' => r = .none ∧ Q (.ref e) s') E { s with heap := h' }) :
    wpAny (model prog w) A (call (.ref C) rest) Q E s := by
  obtain ⟨hp, g, d, t, os⟩ := s
  have X := X₀.keeps F.keep
  have hf' : typeIn K (.ref fI) = some (.type "function") := beq_iff_eq.mp hf
  obtain ⟨oI, ho, hc⟩ := Option.map_eq_some_iff.mp hf'
  refine fault_call T (X _ _ hC) (looks_findIn X hi) (X _ _ ho) hc (fun h' e _ e1 e2 => ?_) hrest
  subst e1
  subst e2
  have NN := (N'.push F (tupO rest)).push (F.push _) (excO C hp.objs.size none)
  rw [Heap.size_push] at NN
  exact h _ hp.objs.size _ ((F.push _).push _) NN (fun p hp => Heap.lt_size (N' p hp).1) (Nat.lt_succ_self _)
section
variable {prog : Program} {w : World} {A : Around} {E : Value → Shared → Prop} {s : Shared} {K : Frag} {e C t L : Addr} {h₀ : Heap} {m : Str → Option Value} {news : List (Addr × Obj)} {x : Str} {tx : Tok}
  {nm q : Str} {N : Addr} {bs bm : List Value} {hdct : Bool} {sn : List Str} {sub : List Value} {ab : Bool} {col : Option Bool} {dd : Option Addr} {k0 k1 k2 k3 k5 : Option Value}
theorem fault_check_init {M : Model} {h : Heap} {g : Array GenState} {d : Drawn} {tk : Nat} {os : OsState} (T : Line bm) {oe : Obj} {rest : List Value} {Q : Unit → Shared → Prop}
    (hC : h.get? C = some (excClassObj nm q C N bs bm hdct sn sub ab col dd k0 k1 k2 k3 k5 "Exception.__new__")) (he : h.get? e = some oe) (hcls : oe.cls = .ref C) (hq : Q () ⟨h, g, d, tk, os⟩) :
    wpAny M A (checkBuiltinCall "Exception.__init__" ⟨.ref e :: rest, []⟩) Q E ⟨h, g, d, tk, os⟩ := by
  have dum29 : Unit := ()
  have dum30 : Unit := ()
  have dum31 : Unit := ()
  revert T hC he hcls hq
  revert A E e C nm q N bs bm hdct sn sub ab col dd k0 k1 k2 k3 k5 M h g d tk os oe rest Q dum29 dum30 dum31
  refine @pick32 _ _ _ _ _ _ _ _ _ _ _ _ _ _ _ _ _ _ _ _ _ _ _ _ _ _ _ _ _ _ _ _ _ ?ne189 ?_
  (case ne189 => walk_at "ne")
  generalize ck32 _ = tU
  generalize hd2 tU = A, tl2 tU = tU
  generalize hd2 tU = E, tl2 tU = tU
  generalize hd2 tU = e, tl2 tU = tU
  generalize hd2 tU = C, tl2 tU = tU
  generalize hd2 tU = nm, tl2 tU = tU
  generalize hd2 tU = q, tl2 tU = tU
  generalize hd2 tU = N, tl2 tU = tU
  generalize hd2 tU = bs, tl2 tU = tU
  generalize hd2 tU = bm, tl2 tU = tU
  generalize hd2 tU = hdct, tl2 tU = tU
  generalize hd2 tU = sn, tl2 tU = tU
  generalize hd2 tU = sub, tl2 tU = tU
  generalize hd2 tU = ab, tl2 tU = tU
  generalize hd2 tU = col, tl2 tU = tU
  generalize hd2 tU = dd, tl2 tU = tU
  generalize hd2 tU = k0, tl2 tU = tU
  generalize hd2 tU = k1, tl2 tU = tU
  generalize hd2 tU = k2, tl2 tU = tU
  generalize hd2 tU = k3, tl2 tU = tU
  generalize hd2 tU = k5, tl2 tU = tU
  generalize hd2 tU = M, tl2 tU = tU
  generalize hd2 tU = h, tl2 tU = tU
  generalize hd2 tU = g, tl2 tU = tU
  generalize hd2 tU = d, tl2 tU = tU
  generalize hd2 tU = tk, tl2 tU = tU
  generalize hd2 tU = os, tl2 tU = tU
  generalize hd2 tU = oe, tl2 tU = tU
  generalize hd2 tU = rest, tl2 tU = tU
  generalize hd2 tU = Q
  intro T hC he hcls hq
  have F := PySem.F.excBase_Exception
  have hcB : (Value.ref C :: bm).contains (.type "Exception") = true := by rw [List.contains_cons, T.exc, Bool.or_true]
  have hshort := F.noStar
  simp only [checkBuiltinCall, F.initKind, F.initSplit, F.initRow]
  repeat (first | (with_reducible refine wpAny_loadPart_at he ?_; rw [hcls]) | with_reducible refine wpAny_loadPart_at hC ?_ | (with_reducible refine wpAny_isSubtype_exc hC ?_; rw [hcB]) | wp_step)
  refine wpAny_onRaise ?_
  rw [show ∀ (a b : String) (n : Nat), Bind.check ⟨.positional, "*", "Exception", .self, [⟨"args", .varPos, false⟩]⟩ a b n (List.map (fun x => x.fst) ({ pos := Value.ref e :: rest } : Args).kw) = pure () from
    fun a b n => check_star_args _ _ _ _ _ _]
  exact wpAny_pure hq
theorem fault_init {Q : Value → Shared → Prop}
    (F : Fr h₀ L s.heap m) (X₀ : K.In h₀) (N' : News h₀ L s.heap ((e, excO C t none) :: news)) (hr : ∀ p ∈ news, p.1 ≠ e)
    (hC : K.lookup C = some (excClassObj nm q C N bs bm hdct sn sub ab col dd k0 k1 k2 k3 k5 "Exception.__new__")) (T : Line bm)
    (h : ∀ t2 h', Fr h₀ L h' m → News h₀ L h' ((e, excO C t2 none) :: (t2, tupO [.str x tx]) :: news) → (∀ p ∈ news, p.1 < t2) → e < t2 → Q .none { s with heap := h' }) :
    wpAny (model prog w) A (call (.builtin "Exception.__init__") [.ref e, .str x tx]) Q E s := by
  revert F X₀ N' hr hC T h
  revert prog w A E s K e C t L h₀ m news x tx nm q N bs bm hdct sn sub ab col dd k0 k1 k2 k3 k5 Q
  refine @pick32 _ _ _ _ _ _ _ _ _ _ _ _ _ _ _ _ _ _ _ _ _ _ _ _ _ _ _ _ _ _ _ _ _ ?ne205 ?_
  (case ne205 => walk_at "ne")
  generalize ck32 _ = tU
  generalize hd2 tU = prog, tl2 tU = tU
  generalize hd2 tU = w, tl2 tU = tU
  generalize hd2 tU = A, tl2 tU = tU
  generalize hd2 tU = E, tl2 tU = tU
  generalize hd2 tU = s, tl2 tU = tU
  generalize hd2 tU = K, tl2 tU = tU
  generalize hd2 tU = e, tl2 tU = tU
  generalize hd2 tU = C, tl2 tU = tU
  generalize hd2 tU = t, tl2 tU = tU
  generalize hd2 tU = L, tl2 tU = tU
  generalize hd2 tU = h₀, tl2 tU = tU
  generalize hd2 tU = m, tl2 tU = tU
  generalize hd2 tU = news, tl2 tU = tU
  generalize hd2 tU = x, tl2 tU = tU
  generalize hd2 tU = tx, tl2 tU = tU
  generalize hd2 tU = nm, tl2 tU = tU
  generalize hd2 tU = q, tl2 tU = tU
  generalize hd2 tU = N, tl2 tU = tU
  generalize hd2 tU = bs, tl2 tU = tU
  generalize hd2 tU = bm, tl2 tU = tU
  generalize hd2 tU = hdct, tl2 tU = tU
  generalize hd2 tU = sn, tl2 tU = tU
  generalize hd2 tU = sub, tl2 tU = tU
  generalize hd2 tU = ab, tl2 tU = tU
  generalize hd2 tU = col, tl2 tU = tU
  generalize hd2 tU = dd, tl2 tU = tU
  generalize hd2 tU = k0, tl2 tU = tU
  generalize hd2 tU = k1, tl2 tU = tU
  generalize hd2 tU = k2, tl2 tU = tU
  generalize hd2 tU = k3, tl2 tU = tU
  generalize hd2 tU = k5, tl2 tU = Q
  intro F X₀ N' hr hC T h
  obtain ⟨hp, g, d, tk, os⟩ := s
  have FE := PySem.F.excBase_Exception
  have X := X₀.keeps F.keep
  have he := (N' _ (.head _)).1
  refine wpAny_call (codeAny_call_builtin FE.init.plain FE.initEntry (fault_check_init T (X _ _ hC) he rfl ?_))
  unfold Builtin.«BaseException.__init__»
  have N2 := N'.push F (tupO [.str x tx])
  have F2 := F.push (tupO [.str x tx])
  have he2 := Heap.get?_push_of_some (tupO [.str x tx]) he
  have hlt : e < hp.objs.size := Heap.lt_size he
  refine wpAny_bind (wpAny_newObj_type ?_ (by show ([Value.str x tx].toArray).size ≤ sizeLine; kl_room))
  unfold Builtin.BaseException.bexcPut
  refine wpAny_bind (wpAny_bind (wpAny_field he2 rfl rfl (wpAny_bind (wpAny_setField he2 rfl (by show 0 < 6; decide) ?_))))
  have hs : Heap.SameBut e (hp.push (tupO [.str x tx])) ((hp.push (tupO [.str x tx])).update e (Obj.mapFields (·.setIfInBounds 0 (Value.ref hp.objs.size)))) := Heap.SameBut.update ..
  have N3 := news_set (pre := [(hp.objs.size, tupO [.str x tx])]) N2 (fun p hp => by obtain rfl := List.mem_singleton.mp hp; exact Nat.ne_of_gt hlt) hr hs (Heap.get?_update_self _ he2 rfl)
  have F3 := F2.change hs (N2 _ (.tail _ (.head _))).2.1 (N2 _ (.tail _ (.head _))).2.2
  repeat lk
  refine h hp.objs.size _ F3 (news_sub N3 fun p hp => ?_) (fun p hp => Heap.lt_size (N' p (.tail _ hp)).1) hlt
  rcases List.mem_cons.mp hp with rfl | hp
  · exact .tail _ (.head _)
  · rcases List.mem_cons.mp hp with rfl | hp
    · exact .head _
    · exact .tail _ (.tail _ hp)
theorem fault_pass (self : Value) (a b : Addr) : refuseLoop self "__setattr__" [.ref a, .ref b, .type "Exception", .type "BaseException", .type "object"] = pure () := by
  rw [refuseLoop_ref, refuseLoop_ref]
  kernel_rfl
theorem news_swap {h : Heap} {a b : Addr × Obj} (N : News h₀ L h (a :: b :: news)) : News h₀ L h (b :: a :: news) := fun p hp => by
  rcases List.mem_cons.mp hp with rfl | hp
  · exact N _ (.tail _ (.head _))
  · rcases List.mem_cons.mp hp with rfl | hp
    · exact N _ (.head _)
    · exact N _ (.tail _ (.tail _ hp))
open Builtin Builtin.ObjectAttr in
theorem fault_set {cd : ClassData} {b : Addr} {name : Str} {v : Value} {Q : Unit → Shared → Prop} (F : Fr h₀ L s.heap m) (X₀ : K.In h₀) (N' : News h₀ L s.heap ((e, excO C t none) :: news)) (hr : ∀ p ∈ news, p.1 ≠ e)
    (hc : clsIn K C = some cd) (hm : cd.mro = [.ref C, .ref b, .type "Exception", .type "BaseException", .type "object"]) (hd : cd.hasDict = true)
    (hs : findIn K (.ref C) "__setattr__" = some (some (.builtin "object.__setattr__"))) (ht : takerIn K C name = some none)
    (h : ∀ dx od h' tk, Fr h₀ L h' m → News h₀ L h' ((e, excO C t (some dx)) :: (dx, od) :: news) → (∀ p ∈ news, p.1 < dx) → e < dx → Q () { s with heap := h', toks := tk }) :
    wpAny (model prog w) A (setAttr (.ref e) name v) Q E s := by
  revert F X₀ N' hr hc hm hd hs ht h
  revert prog w A E s K e C t L h₀ m news cd b name v Q
  refine @pick18 _ _ _ _ _ _ _ _ _ _ _ _ _ _ _ _ _ _ _ ?ne247 ?_
  (case ne247 => walk_at "ne")
  generalize ck18 _ = tU
  generalize hd2 tU = prog, tl2 tU = tU
  generalize hd2 tU = w, tl2 tU = tU
  generalize hd2 tU = A, tl2 tU = tU
  generalize hd2 tU = E, tl2 tU = tU
  generalize hd2 tU = s, tl2 tU = tU
  generalize hd2 tU = K, tl2 tU = tU
  generalize hd2 tU = e, tl2 tU = tU
  generalize hd2 tU = C, tl2 tU = tU
  generalize hd2 tU = t, tl2 tU = tU
  generalize hd2 tU = L, tl2 tU = tU
  generalize hd2 tU = h₀, tl2 tU = tU
  generalize hd2 tU = m, tl2 tU = tU
  generalize hd2 tU = news, tl2 tU = tU
  generalize hd2 tU = cd, tl2 tU = tU
  generalize hd2 tU = b, tl2 tU = tU
  generalize hd2 tU = name, tl2 tU = tU
  generalize hd2 tU = v, tl2 tU = Q
  intro F X₀ N' hr hc hm hd hs ht h
  obtain ⟨hp, g, d, tk, os⟩ := s
  have X := X₀.keeps F.keep
  have he := (N' _ (.head _)).1
  have I : InstAt hp e (excO C t none) C none := ⟨he, rfl, rfl, trivial⟩
  refine set_plain (s := ⟨hp, g, d, tk, os⟩) X I hs ?_
  have SF := PySem.F.store_object
  have sub : Looks (model prog w) hp (isInstance (.ref e) (.type "object")) true := I.type.andThen (looks_mroIn X (by unfold mroIn; rw [hc, Option.bind_some, if_neg (by rw [hm]; exact Bool.false_ne_true), hm]; simp))
  refine codeAny_call_builtin SF.slot.plain SF.entry (@check_slot (model prog w) _ _ _ "object.__setattr__" "object" "__setattr__" (.ref e) [.str name tk, v] [] _ SF.kind SF.split sub (SF.args (.ref e) (.str name tk) v) ?_)
  obtain ⟨attr, ha, hr'⟩ := Option.bind_eq_some_iff.mp ht
  have hmro : Looks (model prog w) hp (mroOf (.ref C)) cd.mro := (looks_clsIn X hc).andThen .now
  have L3 : Looks (model prog w) hp (storeTaker? attr) none := by
    cases attr with
    | none => exact .now
    | some a =>
      obtain ⟨b, hb, hb'⟩ := Option.map_eq_some_iff.mp hr'
      refine (looks_takesIn X hb).andThen ?_
      cases b <;> first | exact .now | cases hb'
  rw [osa_eq, refuse_eq]
  refine wpAny_bind (wpAny_bind (I.type.here (wpAny_bind (hmro.here ?_))))
  rw [hm, fault_pass]
  refine wpAny_pure (wpAny_bind (I.type.here ?_))
  dsimp only
  refine wpAny_bind ((looks_findIn X ha).at (wpAny_bind (L3.at ?_)))
  dsimp only
  obtain ⟨cnm, cbs, cmro, cns, cqn, chd, csn, csub, cab, ccol, cdel⟩ := cd
  dsimp only at hm hd
  subst hm hd
  have hC := looks_clsIn (M := model prog w) X hc
  unfold storeInOwnDict
  repeat lk
  have he2 := Heap.get?_push_of_some ({ cls := .type "dict", data := .dict #[] } : Obj) he
  have hlt : e < hp.objs.size := Heap.lt_size he
  show wpAny _ _ (update e _) _ _ _
  refine wpAny_update he2 ?_
  have hs1 : Heap.SameBut e (hp.push { cls := .type "dict", data := .dict #[] }) ((hp.push { cls := .type "dict", data := .dict #[] }).update e fun o => { cls := o.cls, dict := some hp.objs.size, data := o.data, slots := o.slots }) := Heap.SameBut.update ..
  have N2 := N'.push F ({ cls := .type "dict", data := .dict #[] } : Obj)
  have F2 := F.push ({ cls := .type "dict", data := .dict #[] } : Obj)
  have N3 := news_set (o' := excO C t (some hp.objs.size)) (pre := [(hp.objs.size, ({ cls := .type "dict", data := .dict #[] } : Obj))]) N2 (fun p hp => by obtain rfl := List.mem_singleton.mp hp; exact Nat.ne_of_gt hlt) hr hs1 (Heap.get?_update_self _ he2 rfl)
  have F3 := F2.change hs1 (N2 _ (.tail _ (.head _))).2.1 (N2 _ (.tail _ (.head _))).2.2
  have hgd := (N3 _ (.head _)).1
  repeat lk
  show wpAny _ _ (updatePart hp.objs.size _ (Obj.putName _ _ _ _)) _ _ _
  refine wpAny_updatePart hgd ?_
  dsimp only
  have hoD := Heap.get?_update_self (Obj.putName name (if name.cps.isEmpty = true then 0 else reduceHash ((model prog w).w.params.strHash name.cps)) (Value.str name (tk + 1)) v) hgd (by
    rw [show ({ cls := .type "dict", data := .dict #[] } : Obj) = dictOf [] 0 from rfl, putName_dict]; rfl)
  have hs := Heap.SameBut.update ((hp.push { cls := .type "dict", data := .dict #[] }).update e fun o => { cls := o.cls, dict := some hp.objs.size, data := o.data, slots := o.slots }) hp.objs.size (Obj.putName name (if name.cps.isEmpty = true then 0 else reduceHash ((model prog w).w.params.strHash name.cps)) (Value.str name (tk + 1)) v)
  refine wpAny_bind (wpAny_lookBehind hoD (by
    rw [show ({ cls := .type "dict", data := .dict #[] } : Obj) = dictOf [] 0 from rfl, putName_dict]
    exact pastItsLine_dict (by rw [List.size_toArray, sizeLine_eq]; simp [putL])) ?_)
  have N4 := news_set (pre := []) N3 (fun p hp => nomatch hp) (fun p hp => by
    rcases List.mem_cons.mp hp with rfl | hp
    · exact Nat.ne_of_lt hlt
    · exact Nat.ne_of_lt (Heap.lt_size (N' p (.tail _ hp)).1)) hs hoD
  have F4 := F3.change hs (N3 _ (.head _)).2.1 (N3 _ (.head _)).2.2
  have N5 := news_swap N4
  exact wpAny_pure (h hp.objs.size _ _ _ F4 N5 (fun p hp => Heap.lt_size (N' p (.tail _ hp)).1) hlt)
end
def Faulty (E : Value → Shared → Prop) (v : Value) (s₁ : Shared) : Prop :=
  ∃ e t dx C nm q N bs bm hdct sn sub ab col dd k0 k1 k2 k3 k5, v = .ref e ∧ bm.contains (.type "BaseException") = true ∧ s₁.heap.get? C = some (excClassObj nm q C N bs bm hdct sn sub ab col dd k0 k1 k2 k3 k5 "Exception.__new__") ∧
    s₁.heap.get? e = some (excO C t dx) ∧ E (.ref e) s₁
theorem fault_Raise {prog : Program} {w : World} {A : Around} {E : Value → Shared → Prop} {s : Shared} {env : Env} {e : Expr} {pos : Pos} {Q : Flow → Shared → Prop} (hh : A.handled = none)
    (h : wpAny (model prog w) A (eval e env) (Faulty E) E s) : wpAny (model prog w) A (exec (.Raise (some e) none pos) env) Q E s := by
  have dum9 : Unit := ()
  have dum10 : Unit := ()
  revert hh h
  revert prog w A E s env e pos Q dum9 dum10
  refine @pick11 _ _ _ _ _ _ _ _ _ _ _ _ ?ne312 ?_
  (case ne312 => walk_at "ne")
  generalize ck11 _ = tU
  generalize hd2 tU = prog, tl2 tU = tU
  generalize hd2 tU = w, tl2 tU = tU
  generalize hd2 tU = A, tl2 tU = tU
  generalize hd2 tU = E, tl2 tU = tU
  generalize hd2 tU = s, tl2 tU = tU
  generalize hd2 tU = env, tl2 tU = tU
  generalize hd2 tU = e, tl2 tU = tU
  generalize hd2 tU = pos, tl2 tU = tU
  generalize hd2 tU = Q
  intro hh h
  show wpAny (model prog w) A (do standAt pos; raiseStmt env (some (do let v ← eval e env; standAt pos; pure v)) none) Q E s
  refine wpAny_bind (wpAny_standAt ?_)
  have h' : wpAny (model prog w) A (do let v ← eval e env; standAt pos; pure v) (Faulty E) E s := wpAny_bind (wpAny_mono h (fun v s₁ h₁ => wpAny_bind (wpAny_standAt (wpAny_pure h₁))) fun _ _ x => x)
  unfold raiseStmt
  refine wpAny_bind (wpAny_mono h' (fun v s₁ h₁ => ?_) fun _ _ x => x)
  obtain ⟨e, t, dx, C, nm, q, N, bs, bm, hdct, sn, sub, ab, col, dd, k0, k1, k2, k3, k5, rfl, hbase, hC, he, hE⟩ := h₁
  have z := fault_raise (M := model prog w) (A := A) (E := E) (env := env) (s := s₁) (x := pure (.ref e)) (Q := Q) hbase hh (wpAny_pure ⟨e, t, dx, rfl, hC, he, hE⟩)
  unfold raiseStmt at z
  exact fun Γ p hΓ => z Γ p hΓ
theorem Faulty.of {K : Frag} {E : Value → Shared → Prop} {s : Shared} {e C t dx L : Addr} {h₀ : Heap} {m : Str → Option Value} {news : List (Addr × Obj)}
    {nm q : Str} {N : Addr} {bs bm : List Value} {hdct : Bool} {sn : List Str} {sub : List Value} {ab : Bool} {col : Option Bool} {dd : Option Addr} {k0 k1 k2 k3 k5 : Option Value}
    (F : Fr h₀ L s.heap m) (X₀ : K.In h₀) (N' : News h₀ L s.heap news) (he : (e, excO C t (some dx)) ∈ news)
    (hC : K.lookup C = some (excClassObj nm q C N bs bm hdct sn sub ab col dd k0 k1 k2 k3 k5 "Exception.__new__")) (T : Line bm) (h : E (.ref e) s) : Faulty E (.ref e) s :=
  ⟨e, t, some dx, C, nm, q, N, bs, bm, hdct, sn, sub, ab, col, dd, k0, k1, k2, k3, k5, rfl, T.base, (X₀.keeps F.keep) _ _ hC, (N' _ he).1, h⟩
/-- the fault leaves the frame that raised it -/
theorem fault_leave {M : Model} {A : Around} {E : Value → Shared → Prop} {s' : Shared} {base g : Heap} {outer : List Env} {L a e C t dx : Addr} {m : Str → Option Value} {name : Str} {scope : Scope} {cd : Value} {vs : List Value} {Q : Unit → Shared → Prop} {news newsX : List (Addr × Obj)}
    (K : Below A base outer g) (F : Fr g L s'.heap m) (N : News g L s'.heap news) (he : (e, excO C t (some dx)) ∈ news) (ht : (t, tupO vs) ∈ news) (hX : ∀ p ∈ newsX, p ∈ news) (heX : ∀ p ∈ newsX, p.1 ≠ e) (htX : ∀ p ∈ newsX, p.1 ≠ t)
    (hQ : ∀ h', RaisedS base g outer e (.ref C) t vs newsX h' → g.UpToSlots h' → Q () { s' with heap := h' }) (hk : scope.kind = .function := by rfl) :
    wpAny M (A.deeper (envOf name scope L a cd)) (leaving (envOf name scope L a cd) (.ref e)) Q E s' := by
  have dum21 : Unit := ()
  revert K F N he ht hX heX htX hQ hk
  revert M A E s' base g outer L a e C t dx m name scope cd vs Q news newsX dum21
  refine @pick22 _ _ _ _ _ _ _ _ _ _ _ _ _ _ _ _ _ _ _ _ _ _ _ ?ne333 ?_
  (case ne333 => walk_at "ne")
  generalize ck22 _ = tU
  generalize hd2 tU = M, tl2 tU = tU
  generalize hd2 tU = A, tl2 tU = tU
  generalize hd2 tU = E, tl2 tU = tU
  generalize hd2 tU = s', tl2 tU = tU
  generalize hd2 tU = base, tl2 tU = tU
  generalize hd2 tU = g, tl2 tU = tU
  generalize hd2 tU = outer, tl2 tU = tU
  generalize hd2 tU = L, tl2 tU = tU
  generalize hd2 tU = a, tl2 tU = tU
  generalize hd2 tU = e, tl2 tU = tU
  generalize hd2 tU = C, tl2 tU = tU
  generalize hd2 tU = t, tl2 tU = tU
  generalize hd2 tU = dx, tl2 tU = tU
  generalize hd2 tU = m, tl2 tU = tU
  generalize hd2 tU = name, tl2 tU = tU
  generalize hd2 tU = scope, tl2 tU = tU
  generalize hd2 tU = cd, tl2 tU = tU
  generalize hd2 tU = vs, tl2 tU = tU
  generalize hd2 tU = Q, tl2 tU = tU
  generalize hd2 tU = news, tl2 tU = tU
  generalize hd2 tU = newsX
  intro K F N he ht hX heX htX hQ hk
  have K' := K.push (name := name) (a := a) (cd := cd) F hk
  have hin : ∀ env ∈ (envOf name scope L a cd :: outer), ∀ b, env.frame = some b → b ∈ e :: t :: (envOf name scope L a cd :: outer).filterMap (·.frame) := fun env he b hb => .tail _ (.tail _ (List.mem_filterMap.mpr ⟨env, he, hb⟩))
  have st : base.StaysIn (hideAll s'.heap (e :: t :: (envOf name scope L a cd :: outer).filterMap (·.frame))) := fun b o q => hideAll_get _ (K'.stays b o q) fun hm => by
    rcases List.mem_cons.mp hm with rfl | hm
    · rw [fresh_of_stays K.stays (N _ he).2.2] at q; cases q
    · rcases List.mem_cons.mp hm with rfl | hm
      · rw [fresh_of_stays K.stays (N _ ht).2.2] at q; cases q
      · rw [(K'.frames.mem hm).1] at q; cases q
  have sg : ∀ b o, g.get? b = some o → b ∉ outer.filterMap (·.frame) → (hideAll s'.heap (e :: t :: (envOf name scope L a cd :: outer).filterMap (·.frame))).get? b = some o := fun b o q nm => hideAll_get _ (F.keep b o q) fun hm => by
    rcases List.mem_cons.mp hm with rfl | hm
    · rw [(N _ he).2.2] at q; cases q
    · rcases List.mem_cons.mp hm with rfl | hm
      · rw [(N _ ht).2.2] at q; cases q
      · rcases kts_mem hm with z | z
        · rw [z, kts_self F] at q
          cases q
        · exact nm z
  have hl : ∀ q ∈ newsX, (hideAll s'.heap (e :: t :: (envOf name scope L a cd :: outer).filterMap (·.frame))).get? q.1 = some q.2 ∧ g.get? q.1 = none ∧ base.get? q.1 = none := fun q hq => by
    have z := N q (hX q hq)
    refine ⟨hideAll_get _ z.1 fun hm => ?_, z.2.2, fresh_of_stays K.stays z.2.2⟩
    rcases List.mem_cons.mp hm with e1 | hm
    · exact heX q hq e1
    · rcases List.mem_cons.mp hm with e1 | hm
      · exact htX q hq e1
      · obtain ⟨env, he, hf⟩ := List.mem_filterMap.mp hm
        rcases List.mem_cons.mp he with rfl | he
        · exact z.2.1 (Option.some.inj hf).symm
        · obtain ⟨o, ho, _⟩ := (K.frames.mem (List.mem_filterMap.mpr ⟨env, he, hf⟩)).2
          rw [z.2.2] at ho; cases ho
  refine wpAny_leaving_firstW (base := hideAll s'.heap (e :: t :: (envOf name scope L a cd :: outer).filterMap (·.frame))) (a0 := .ref t) K'.stack (funFrames_hide K'.frames hin) rfl (N _ he).1 (fun b o q => of_hideAll _ q) (hideAll_none _ (.head _)) rfl rfl rfl fun h' hL => ?_
  obtain ⟨k1, ⟨_, _, k2⟩, k3, k4⟩ := hL
  exact hQ h' ⟨⟨_, st, sg, hl, ⟨k1, hideAll_none _ (.head _), k2, k3⟩, hideAll_none _ (.tail _ (.head _))⟩, Heap.TupAt.of_slots ⟨_, _, (N _ ht).1, rfl, rfl⟩ k4⟩ ((Heap.UpToSlots.of_keeps F.keep).trans k4)
end Mine
local macro_rules | `(tactic| walk_at "call ref") => `(tactic| (k_here; (first | (with_reducible show wpAny _ _ (call (Value.ref 153) _) _ _ _) | (with_reducible show wpAny _ _ (call (Value.ref 141) _) _ _ _)); k_dflt (refine' fault_K ?k1 ?k2 ?k3 ?k4 ?k5 ?k6 ?k7 ?k8 ?_; (case k1 => k_asm); (case k2 => k_asm); (case k3 => k_asm); (case k4 => k_is); (case k5 => exact ⟨by decide +kernel, by decide +kernel, by decide +kernel, by decide +kernel⟩); (case k6 => k_is); (case k7 => k_is); (case k8 => kl_room); k_whole); intro e' t' h' F' N' l1 l2; (try k_lt l1); (try k_lt2 l2); (try k_sweep)))
local macro_rules | `(tactic| walk_at "getMethod type:Exception") => `(tactic| (k_here; refine' method_type ?F ?X ?m (by decide +kernel) ?e ?h ?_; (case F => k_asm); (case X => k_asm); (case m => exact meta_exc); (case e => k_dflt k_is); (case h => k_handed)))
local macro_rules | `(tactic| walk_at "call builtin:Exception.__init__") => `(tactic| (k_here; k_dflt (refine' fault_init ?k1 ?k2 ?k3 ?k4 ?k5 ?k6 ?_; (case k1 => k_asm); (case k2 => k_asm); (case k3 => k_asm); (case k4 => k_all); (case k5 => k_is); (case k6 => exact ⟨by decide +kernel, by decide +kernel, by decide +kernel, by decide +kernel⟩); k_whole); intro t' h' F' N' l1 l2; (try k_lt l1); (try k_lt2 l2); (try k_sweep)))
local macro_rules | `(tactic| walk_at "setAttr ref") => `(tactic| (k_here; k_dflt (refine' fault_set ?k1 ?k2 ?k3 ?k4 ?k5 ?k6 ?k7 ?k8 ?k9 ?_; (case k1 => k_asm); (case k2 => k_asm); (case k3 => k_asm); (case k4 => k_all); (case k5 => k_is); (case k6 => exact rfl); (case k7 => exact rfl); (case k8 => k_is); (case k9 => k_is); k_whole); intro d' od' h' tk' F' N' l1 l2; (try k_lt l1); (try k_lt2 l2); (try k_sweep)))
local macro_rules | `(tactic| walk_at "exec Raise some none") => `(tactic| (k_here; (with_reducible show wpAny _ _ (exec (Stmt.Raise (some (Expr.Call (Expr.Name _ _) _ _ _)) none _) _) _ _ _); k_dflt (refine' fault_Raise ?k1 ?_; (case k1 => exact rfl))))
local macro_rules | `(tactic| walk_at "Faulty ref") => `(tactic| (k_dflt (refine' Faulty.of ?k1 ?k2 ?k3 ?k4 ?k5 ?k6 ?_; (case k1 => k_asm); (case k2 => k_asm); (case k3 => k_asm); (case k4 => k_mem); (case k5 => k_is); (case k6 => exact ⟨by decide +kernel, by decide +kernel, by decide +kernel, by decide +kernel⟩); k_whole)))
local macro_rules | `(tactic| walk_at "fault out") => `(tactic| (refine fault_leave (by k_asm) (by k_asm) (by k_asm) (by k_mem) (by k_mem) ?_ ?_ ?_ ?_))
namespace Mine
structure M3 where
  a : Int
  a' : Tok
  b : Int
  b' : Tok
  c : Int
  c' : Tok
abbrev grD (q : M3) (lim : Addr) (sz : Int) (ts : Tok) (ol : Addr) : Obj := dictOf [⟨q.a, .str "limits" q.a', .ref lim⟩, ⟨q.b, .str "size" q.b', .int sz ts⟩, ⟨q.c, .str "open" q.c', .ref ol⟩] 3
abbrev liD (q : M3) (md : Int) (t1 : Tok) (ms : Int) (t2 : Tok) : Obj := dictOf [⟨q.a, .str "most_depth" q.a', .int md t1⟩, ⟨q.b, .str "most_size" q.b', .int ms t2⟩] 2
theorem add_ctr {w : World} {mean : ExcName → Option Value} {mg mb : Str → Option Value} {gr dg lim dl ol : Addr} {rest : List (Addr × Obj)} {q q2 : M3} {sz md ms many : Int} {ts t1 t2 tm : Tok} 
    (h1 : gr ≠ dg) (h2 : lim ≠ dg) (h3 : dl ≠ dg) (hr : ∀ p ∈ rest, p.1 ≠ dg) :
    Ctr w mean mg mb 5 210 [.ref gr, .int many tm] ((gr, instObj 234 dg) :: (dg, grD q lim sz ts ol) :: (lim, instObj 362 dl) :: (dl, liD q2 md t1 ms t2) :: rest)
      (fun v news' => sz + many ≤ ms ∧ v = .none ∧ ∃ ts', news' = (gr, instObj 234 dg) :: (dg, grD q lim (sz + many) ts' ol) :: (lim, instObj 362 dl) :: (dl, liD q2 md t1 ms t2) :: rest)
      (fun C news' => ¬ sz + many ≤ ms ∧ C = 153 ∧ news' = rest) := by
  have dum20 : Unit := ()
  have dum21 : Unit := ()
  revert h1 h2 h3 hr
  revert w mean mg mb gr dg lim dl ol rest q q2 sz md ms many ts t1 t2 tm dum20 dum21
  refine @pick22 _ _ _ _ _ _ _ _ _ _ _ _ _ _ _ _ _ _ _ _ _ _ _ ?ne67 ?_
  (case ne67 => walk_at "ne")
  generalize ck22 _ = tU
  generalize hd2 tU = w, tl2 tU = tU
  generalize hd2 tU = mean, tl2 tU = tU
  generalize hd2 tU = mg, tl2 tU = tU
  generalize hd2 tU = mb, tl2 tU = tU
  generalize hd2 tU = gr, tl2 tU = tU
  generalize hd2 tU = dg, tl2 tU = tU
  generalize hd2 tU = lim, tl2 tU = tU
  generalize hd2 tU = dl, tl2 tU = tU
  generalize hd2 tU = ol, tl2 tU = tU
  generalize hd2 tU = rest, tl2 tU = tU
  generalize hd2 tU = q, tl2 tU = tU
  generalize hd2 tU = q2, tl2 tU = tU
  generalize hd2 tU = sz, tl2 tU = tU
  generalize hd2 tU = md, tl2 tU = tU
  generalize hd2 tU = ms, tl2 tU = tU
  generalize hd2 tU = many, tl2 tU = tU
  generalize hd2 tU = ts, tl2 tU = tU
  generalize hd2 tU = t1, tl2 tU = tU
  generalize hd2 tU = t2, tl2 tU = tU
  generalize hd2 tU = tm
  intro h1 h2 h3 hr
  walk_at "begin"
  have hR : IsRest rest := trivial
  intro dp un gd cn cs a ccd cl outer A₀ base h₀ L m s Q E B F X N T hk hd hu hret hexc
  refine wpAny_call ?_
  k_dflt cell_enter
  k_steps
  · k_dflt (refine fault_leave (newsX := rest) (by k_asm) (by k_asm) (by k_asm) (by k_mem) (by k_mem) (by walk_at "tails") (by k_all) (by k_all) (fun h' R U => ?_))
    exact hexc _ _ _ _ _ _ _ _ ⟨by omega, rfl, rfl⟩ (by assumption) R U
  · exact hret _ _ _ _ ⟨by omega, rfl, _, rfl⟩ (by assumption) (by assumption)
end Mine
namespace Mine
section
local macro_rules | `(tactic| walk_at "exec For") => `(tactic| (k_here; refine Halt.go ?_))
local macro_rules | `(tactic| walk_at "exec For Name Name cons nil") => `(tactic| (k_here; refine Halt.go ?_))
local macro_rules | `(tactic| walk_at "pyIter str") => `(tactic| (k_here; refine Halt.go ?_))
local macro_rules | `(tactic| walk_at "call ref") => `(tactic| (k_here; (first | (with_reducible show wpAny _ _ (call (Value.ref 77) _) _ _ _) | (with_reducible show wpAny _ _ (call (Value.ref 84) _) _ _ _)); refine Halt.go ?_))
theorem name_char_ctr {w : World} {mean : ExcName → Option Value} {mg mb : Str → Option Value} {tx : Tok} {news : List (Addr × Obj)} {c : Nat} (hc : c = 101 ∨ c = 48 ∨ c = 49 ∨ c = 50 ∨ c = 51) :
    Ctr w mean mg mb 3 77 [.str ⟨#[c]⟩ tx] news (fun v news' => v = .bool true ∧ news' = news) (fun _ _ => False) := by
  walk_at "begin"
  have hR : IsRest news := trivial
  intro dp un gd cn cs a ccd cl outer A₀ base h₀ L m s Q E B F X N T hk hd hu hret hexc
  have dum24 : Unit := ()
  have dum25 : Unit := ()
  have dum26 : Unit := ()
  revert hc hR B F X N T hk hd hu hret hexc
  revert w mean mg mb tx news c dp un gd cn cs a ccd cl outer A₀ base h₀ L m s Q E dum24 dum25 dum26
  refine @pick27 _ _ _ _ _ _ _ _ _ _ _ _ _ _ _ _ _ _ _ _ _ _ _ _ _ _ _ _ ?ne64 ?_
  (case ne64 => walk_at "ne")
  generalize ck27 _ = tU
  generalize hd2 tU = w, tl2 tU = tU
  generalize hd2 tU = mean, tl2 tU = tU
  generalize hd2 tU = mg, tl2 tU = tU
  generalize hd2 tU = mb, tl2 tU = tU
  generalize hd2 tU = tx, tl2 tU = tU
  generalize hd2 tU = news, tl2 tU = tU
  generalize hd2 tU = c, tl2 tU = tU
  generalize hd2 tU = dp, tl2 tU = tU
  generalize hd2 tU = un, tl2 tU = tU
  generalize hd2 tU = gd, tl2 tU = tU
  generalize hd2 tU = cn, tl2 tU = tU
  generalize hd2 tU = cs, tl2 tU = tU
  generalize hd2 tU = a, tl2 tU = tU
  generalize hd2 tU = ccd, tl2 tU = tU
  generalize hd2 tU = cl, tl2 tU = tU
  generalize hd2 tU = outer, tl2 tU = tU
  generalize hd2 tU = A₀, tl2 tU = tU
  generalize hd2 tU = base, tl2 tU = tU
  generalize hd2 tU = h₀, tl2 tU = tU
  generalize hd2 tU = L, tl2 tU = tU
  generalize hd2 tU = m, tl2 tU = tU
  generalize hd2 tU = s, tl2 tU = tU
  generalize hd2 tU = Q, tl2 tU = tU
  generalize hd2 tU = E
  intro hc hR B F X N T hk hd hu hret hexc
  refine wpAny_call ?_
  rcases hc with rfl | hc
  · k_dflt cell_enter
    k_steps
    refine hret _ _ _ _ ⟨?_, rfl⟩ (by k_asm) (by k_asm)
    rfl
  · have f1 : (⟨#[c]⟩ : Str).cps.toList < (Str.ofString "a").cps.toList := by rcases hc with rfl | rfl | rfl | rfl <;> decide
    have f2 : (⟨#[c]⟩ : Str).cps.toList < (Str.ofString "A").cps.toList := by rcases hc with rfl | rfl | rfl | rfl <;> decide
    have f3 : ((⟨#[c]⟩ : Str) == Str.ofString "_") = false := by rcases hc with rfl | rfl | rfl | rfl <;> decide
    have f4 : ((⟨#[c]⟩ : Str) == Str.ofString ":") = false := by rcases hc with rfl | rfl | rfl | rfl <;> decide
    have f5 : ¬ (⟨#[c]⟩ : Str).cps.toList < (Str.ofString "0").cps.toList := by rcases hc with rfl | rfl | rfl | rfl <;> decide
    have f6 : ¬ (Str.ofString "9").cps.toList < (⟨#[c]⟩ : Str).cps.toList := by rcases hc with rfl | rfl | rfl | rfl <;> decide
    k_dflt cell_enter
    k_steps
    have f7 : (!decide ((Str.ofString "9").cps.toList < [c])) = true := by rw [decide_eq_false f6]; rfl
    refine hret _ _ _ _ ⟨congrArg Value.bool f7, rfl⟩ (by k_asm) (by k_asm)
theorem nmtoken_ctr {w : World} {mean : ExcName → Option Value} {mg mb : Str → Option Value} {tx : Tok} {news : List (Addr × Obj)} {d : Nat} (hc : d = 48 ∨ d = 49 ∨ d = 50 ∨ d = 51) :
    Ctr w mean mg mb 5 84 [.str ⟨#[101, d]⟩ tx] news (fun v news' => v = .bool true ∧ news' = news) (fun _ _ => False) := by
  walk_at "begin"
  have hR : IsRest news := trivial
  intro dp un gd cn cs a ccd cl outer A₀ base h₀ L m s Q E B F X N T hk hd hu hret hexc
  have dum24 : Unit := ()
  have dum25 : Unit := ()
  have dum26 : Unit := ()
  revert hc hR B F X N T hk hd hu hret hexc
  revert w mean mg mb tx news d dp un gd cn cs a ccd cl outer A₀ base h₀ L m s Q E dum24 dum25 dum26
  refine @pick27 _ _ _ _ _ _ _ _ _ _ _ _ _ _ _ _ _ _ _ _ _ _ _ _ _ _ _ _ ?ne87 ?_
  (case ne87 => walk_at "ne")
  generalize ck27 _ = tU
  generalize hd2 tU = w, tl2 tU = tU
  generalize hd2 tU = mean, tl2 tU = tU
  generalize hd2 tU = mg, tl2 tU = tU
  generalize hd2 tU = mb, tl2 tU = tU
  generalize hd2 tU = tx, tl2 tU = tU
  generalize hd2 tU = news, tl2 tU = tU
  generalize hd2 tU = d, tl2 tU = tU
  generalize hd2 tU = dp, tl2 tU = tU
  generalize hd2 tU = un, tl2 tU = tU
  generalize hd2 tU = gd, tl2 tU = tU
  generalize hd2 tU = cn, tl2 tU = tU
  generalize hd2 tU = cs, tl2 tU = tU
  generalize hd2 tU = a, tl2 tU = tU
  generalize hd2 tU = ccd, tl2 tU = tU
  generalize hd2 tU = cl, tl2 tU = tU
  generalize hd2 tU = outer, tl2 tU = tU
  generalize hd2 tU = A₀, tl2 tU = tU
  generalize hd2 tU = base, tl2 tU = tU
  generalize hd2 tU = h₀, tl2 tU = tU
  generalize hd2 tU = L, tl2 tU = tU
  generalize hd2 tU = m, tl2 tU = tU
  generalize hd2 tU = s, tl2 tU = tU
  generalize hd2 tU = Q, tl2 tU = tU
  generalize hd2 tU = E
  intro hc hR B F X N T hk hd hu hret hexc
  refine wpAny_call ?_
  k_dflt cell_enter
  k_steps
  refine Halt.at ?_
  refine For_invVF (by k_asm) rfl rfl ?_
  k_steps
  refine Halt.at ?_
  refine for_text (σ := Unit) (fun _ => _) (fun _ => news) (fun _ _ => True) () rfl (by k_asm) (by k_asm) rfl trivial ?_ ?_
  · intro c i n t h tk own hn hoff hadr hp F1 N1
    k_steps
    refine Halt.at ?_
    refine Ctr.use (name_char_ctr ?_) N1 ?_ ?_
    · have h9 := List.mem_of_getElem? hn
      rcases List.mem_cons.mp (show n ∈ (101 :: d :: [] : List Nat) from h9) with e | h9
      · exact .inl e
      · exact .inr (List.mem_singleton.mp h9 ▸ hc)
    · refine rts_vn ?_
      intro h' tk' F1 N1
      k_steps
      exact turn_end () (by k_asm) (by k_asm) (fun y hy => if_neg hy) trivial rfl (fun p hp => List.mem_append_left _ hp) (fun p hp => List.mem_append_right _ hp)
    · rintro _ _ _ _ _ _ _ _ ⟨⟩
  · intro c u h tk hp F1 N1
    k_steps
    refine hret _ _ _ _ ⟨?_, rfl⟩ (by k_asm) (by k_asm)
    rfl
theorem item_e {prog : Program} {w : World} {A : Around} {E : Value → Shared → Prop} {s : Shared} {d : Nat} {value sl : Expr} {tx u : Tok} {Q : Value → Shared → Prop} (h : Q (.str ⟨#[101]⟩ s.toks) { s with toks := s.toks + 1 })
    (hs : subscripted sl false (.str ⟨#[101, d]⟩ tx) (.int 0 u) = operate [.str ⟨#[101, d]⟩ tx, .int 0 u] (getItem (.str ⟨#[101, d]⟩ tx) (.int 0 u)) := by with_unfolding_all rfl)
    (ht : ∀ r, letTemporaryGo value (.str ⟨#[101, d]⟩ tx) r = pure () := by intro _; with_unfolding_all rfl) :
    wpAny (model prog w) A (subscriptTail value sl (.str ⟨#[101, d]⟩ tx) (.int 0 u)) Q E s :=
  item_str (x := ⟨#[101, d]⟩) (fitsSsize_of (N := 9223372036854775808) (by omega) (by omega) (Int.le_refl _)) (show -(2 : Int) ≤ 0 by omega) (show (0 : Int) < 2 by omega) (fun _ => h) hs ht
local macro_rules | `(tactic| walk_at "subscriptTail Name Constant str int") => `(tactic| (k_here; k_dflt (refine item_e ?_)))
theorem is_name_ctr {w : World} {mean : ExcName → Option Value} {mg mb : Str → Option Value} {tx : Tok} {news : List (Addr × Obj)} {d : Nat} (hc : d = 48 ∨ d = 49 ∨ d = 50 ∨ d = 51) :
    Ctr w mean mg mb 8 91 [.str ⟨#[101, d]⟩ tx] news (fun v news' => v = .bool true ∧ news' = news) (fun _ _ => False) := by
  walk_at "begin"
  have hR : IsRest news := trivial
  intro dp un gd cn cs a ccd cl outer A₀ base h₀ L m s Q E B F X N T hk hd hu hret hexc
  have dum24 : Unit := ()
  have dum25 : Unit := ()
  have dum26 : Unit := ()
  revert hc hR B F X N T hk hd hu hret hexc
  revert w mean mg mb tx news d dp un gd cn cs a ccd cl outer A₀ base h₀ L m s Q E dum24 dum25 dum26
  refine @pick27 _ _ _ _ _ _ _ _ _ _ _ _ _ _ _ _ _ _ _ _ _ _ _ _ _ _ _ _ ?ne125 ?_
  (case ne125 => walk_at "ne")
  generalize ck27 _ = tU
  generalize hd2 tU = w, tl2 tU = tU
  generalize hd2 tU = mean, tl2 tU = tU
  generalize hd2 tU = mg, tl2 tU = tU
  generalize hd2 tU = mb, tl2 tU = tU
  generalize hd2 tU = tx, tl2 tU = tU
  generalize hd2 tU = news, tl2 tU = tU
  generalize hd2 tU = d, tl2 tU = tU
  generalize hd2 tU = dp, tl2 tU = tU
  generalize hd2 tU = un, tl2 tU = tU
  generalize hd2 tU = gd, tl2 tU = tU
  generalize hd2 tU = cn, tl2 tU = tU
  generalize hd2 tU = cs, tl2 tU = tU
  generalize hd2 tU = a, tl2 tU = tU
  generalize hd2 tU = ccd, tl2 tU = tU
  generalize hd2 tU = cl, tl2 tU = tU
  generalize hd2 tU = outer, tl2 tU = tU
  generalize hd2 tU = A₀, tl2 tU = tU
  generalize hd2 tU = base, tl2 tU = tU
  generalize hd2 tU = h₀, tl2 tU = tU
  generalize hd2 tU = L, tl2 tU = tU
  generalize hd2 tU = m, tl2 tU = tU
  generalize hd2 tU = s, tl2 tU = tU
  generalize hd2 tU = Q, tl2 tU = tU
  generalize hd2 tU = E
  intro hc hR B F X N T hk hd hu hret hexc
  refine wpAny_call ?_
  have f0 : ((⟨#[101, d]⟩ : Str) != Str.ofString "") = true := by rcases hc with rfl | rfl | rfl | rfl <;> decide
  k_dflt cell_enter
  k_steps
  refine Halt.at ?_
  refine Ctr.use (nmtoken_ctr hc) (by k_asm) ?_ ?_
  · refine rts_vn ?_
    intro h' tk' F1 N1
    k_steps
    refine hret _ _ _ _ ⟨congrArg Value.bool f0, rfl⟩ (by k_asm) (by k_asm)
  · rintro _ _ _ _ _ _ _ _ ⟨⟩
end
end Mine
namespace Mine
abbrev pdD (q : M3) (x : Str) (tx : Tok) (nm : Value) (a : Int) (ta : Tok) : Obj := dictOf [⟨q.a, .str "text" q.a', .str x tx⟩, ⟨q.b, .str "name" q.b', nm⟩, ⟨q.c, .str "at" q.c', .int a ta⟩] 3
theorem is_over_ctr {w : World} {mean : ExcName → Option Value} {mg mb : Str → Option Value} {p d : Addr} {rest : List (Addr × Obj)} {q : M3} {x : Str} {tx ta : Tok} {nm : Value} {a : Int} (hx : x.length ≤ 1000) :
    Ctr w mean mg mb 2 259 [.ref p] ((p, instObj 276 d) :: (d, pdD q x tx nm a ta) :: rest)
      (fun v news' => v = .bool (a == ((x.length : Nat) : Int)) ∧ news' = (p, instObj 276 d) :: (d, pdD q x tx nm a ta) :: rest)
      (fun _ _ => False) := by
  walk_at "begin"
  have hR : IsRest rest := trivial
  intro dp un gd cn cs a ccd cl outer A₀ base h₀ L m s Q E B F X N T hk hd hu hret hexc
  rename_i pv62_1
  have dum30 : Unit := ()
  have dum31 : Unit := ()
  revert hx hR B F X N T hk hd hu hret hexc
  revert w mean mg mb p d rest q x tx ta nm pv62_1 dp un gd cn cs a ccd cl outer A₀ base h₀ L m s Q E dum30 dum31
  refine @pick32 _ _ _ _ _ _ _ _ _ _ _ _ _ _ _ _ _ _ _ _ _ _ _ _ _ _ _ _ _ _ _ _ _ ?ne62 ?_
  (case ne62 => walk_at "ne")
  generalize ck32 _ = tU
  generalize hd2 tU = w, tl2 tU = tU
  generalize hd2 tU = mean, tl2 tU = tU
  generalize hd2 tU = mg, tl2 tU = tU
  generalize hd2 tU = mb, tl2 tU = tU
  generalize hd2 tU = p, tl2 tU = tU
  generalize hd2 tU = d, tl2 tU = tU
  generalize hd2 tU = rest, tl2 tU = tU
  generalize hd2 tU = q, tl2 tU = tU
  generalize hd2 tU = x, tl2 tU = tU
  generalize hd2 tU = tx, tl2 tU = tU
  generalize hd2 tU = ta, tl2 tU = tU
  generalize hd2 tU = nm, tl2 tU = tU
  generalize hd2 tU = pv62_1, tl2 tU = tU
  generalize hd2 tU = dp, tl2 tU = tU
  generalize hd2 tU = un, tl2 tU = tU
  generalize hd2 tU = gd, tl2 tU = tU
  generalize hd2 tU = cn, tl2 tU = tU
  generalize hd2 tU = cs, tl2 tU = tU
  generalize hd2 tU = a, tl2 tU = tU
  generalize hd2 tU = ccd, tl2 tU = tU
  generalize hd2 tU = cl, tl2 tU = tU
  generalize hd2 tU = outer, tl2 tU = tU
  generalize hd2 tU = A₀, tl2 tU = tU
  generalize hd2 tU = base, tl2 tU = tU
  generalize hd2 tU = h₀, tl2 tU = tU
  generalize hd2 tU = L, tl2 tU = tU
  generalize hd2 tU = m, tl2 tU = tU
  generalize hd2 tU = s, tl2 tU = tU
  generalize hd2 tU = Q, tl2 tU = tU
  generalize hd2 tU = E
  intro hx hR B F X N T hk hd hu hret hexc
  refine wpAny_call ?_
  k_dflt cell_enter
  rename_i pv65_9 pv65_8 pv65_7 pv65_6 pv65_5 pv65_4 pv65_3 pv65_2 pv65_1
  have dum3 : Unit := ()
  revert pv65_6 pv65_5 pv65_4 pv65_3 pv65_2 pv65_1 qk ek
  revert pv65_9 pv65_8 pv65_7 dum3
  refine @pick4 _ _ _ _ _ ?ne65 ?_
  (case ne65 => walk_at "ne")
  generalize ck4 _ = tU
  generalize hd2 tU = pv65_9, tl2 tU = tU
  generalize hd2 tU = pv65_8, tl2 tU = tU
  generalize hd2 tU = pv65_7
  intro pv65_6 pv65_5 pv65_4 pv65_3 pv65_2 pv65_1 qk ek
  k_steps
  exact hret _ _ _ _ ⟨rfl, rfl⟩ (by k_asm) (by k_asm)
theorem run_ctr {w : World} {mean : ExcName → Option Value} {mg mb : Str → Option Value} {p d : Addr} {rest : List (Addr × Obj)} {q : M3} {x : Str} {tx ta tm : Tok} {nm : Value} {pre body post : List Nat} (hx : x.length ≤ 1000)
    (h1 : p ≠ d) (hr : ∀ p ∈ rest, p.1 ≠ d) (hx0 : x.cps.toList = pre ++ body ++ post) (hb : ∀ c ∈ body, c ≠ 38 ∧ c ≠ 60) (hp : ∀ c ∈ post.head?, c = 38 ∨ c = 60) :
    Ctr w mean mg mb 2 266 [.ref p, .str "&<" tm] ((p, instObj 276 d) :: (d, pdD q x tx nm (pre.length : Nat) ta) :: rest)
      (fun v news' => ∃ t ta', v = .str ⟨body.toArray⟩ t ∧ news' = (p, instObj 276 d) :: (d, pdD q x tx nm ((pre ++ body).length : Nat) ta') :: rest)
      (fun _ _ => False) := by
  walk_at "begin"
  have hR : IsRest rest := trivial
  intro dp un gd cn cs a ccd cl outer A₀ base h₀ L m s Q E B F X N T hk hd hu hret hexc
  have dum33 : Unit := ()
  have dum34 : Unit := ()
  have dum35 : Unit := ()
  have dum36 : Unit := ()
  have dum37 : Unit := ()
  revert hx h1 hr hx0 hb hp hR B F X N T hk hd hu hret hexc
  revert w mean mg mb p d rest q x tx ta tm nm pre body post dp un gd cn cs a ccd cl outer A₀ base h₀ L m s Q E dum33 dum34 dum35 dum36 dum37
  refine @pick38 _ _ _ _ _ _ _ _ _ _ _ _ _ _ _ _ _ _ _ _ _ _ _ _ _ _ _ _ _ _ _ _ _ _ _ _ _ _ _ ?ne77 ?_
  (case ne77 => walk_at "ne")
  generalize ck38 _ = tU
  generalize hd2 tU = w, tl2 tU = tU
  generalize hd2 tU = mean, tl2 tU = tU
  generalize hd2 tU = mg, tl2 tU = tU
  generalize hd2 tU = mb, tl2 tU = tU
  generalize hd2 tU = p, tl2 tU = tU
  generalize hd2 tU = d, tl2 tU = tU
  generalize hd2 tU = rest, tl2 tU = tU
  generalize hd2 tU = q, tl2 tU = tU
  generalize hd2 tU = x, tl2 tU = tU
  generalize hd2 tU = tx, tl2 tU = tU
  generalize hd2 tU = ta, tl2 tU = tU
  generalize hd2 tU = tm, tl2 tU = tU
  generalize hd2 tU = nm, tl2 tU = tU
  generalize hd2 tU = pre, tl2 tU = tU
  generalize hd2 tU = body, tl2 tU = tU
  generalize hd2 tU = post, tl2 tU = tU
  generalize hd2 tU = dp, tl2 tU = tU
  generalize hd2 tU = un, tl2 tU = tU
  generalize hd2 tU = gd, tl2 tU = tU
  generalize hd2 tU = cn, tl2 tU = tU
  generalize hd2 tU = cs, tl2 tU = tU
  generalize hd2 tU = a, tl2 tU = tU
  generalize hd2 tU = ccd, tl2 tU = tU
  generalize hd2 tU = cl, tl2 tU = tU
  generalize hd2 tU = outer, tl2 tU = tU
  generalize hd2 tU = A₀, tl2 tU = tU
  generalize hd2 tU = base, tl2 tU = tU
  generalize hd2 tU = h₀, tl2 tU = tU
  generalize hd2 tU = L, tl2 tU = tU
  generalize hd2 tU = m, tl2 tU = tU
  generalize hd2 tU = s, tl2 tU = tU
  generalize hd2 tU = Q, tl2 tU = tU
  generalize hd2 tU = E
  intro hx h1 hr hx0 hb hp hR B F X N T hk hd hu hret hexc
  refine wpAny_call ?_
  k_dflt cell_enter
  rename_i pv80_9 pv80_8 pv80_7 pv80_6 pv80_5 pv80_4 pv80_3 pv80_2 pv80_1
  have dum3 : Unit := ()
  revert pv80_6 pv80_5 pv80_4 pv80_3 pv80_2 pv80_1 qk ek
  revert pv80_9 pv80_8 pv80_7 dum3
  refine @pick4 _ _ _ _ _ ?ne80 ?_
  (case ne80 => walk_at "ne")
  generalize ck4 _ = tU
  generalize hd2 tU = pv80_9, tl2 tU = tU
  generalize hd2 tU = pv80_8, tl2 tU = tU
  generalize hd2 tU = pv80_7
  intro pv80_6 pv80_5 pv80_4 pv80_3 pv80_2 pv80_1 qk ek
  k_steps
  refine Halt.at ?_
  rename Fr _ _ _ _ => F0
  rename News _ _ _ _ => N0
  refine While_inv2 (fun n m₁ news₁ => m₁ = _ ∧ ∃ k ta', k ≤ body.length ∧ n = body.length - k ∧ news₁ = (p, instObj 276 d) :: (d, pdD q x tx nm ((pre.length + k : Nat) : Int) ta') :: rest) F0 N0 ⟨rfl, 0, ta, Nat.zero_le _, rfl, rfl⟩ ?_ ?_
  · rintro n m₁ news₁ h₁ tk₁ F1 N1 ⟨rfl, k, ta', hk', rfl, rfl⟩
    clear F0 N0
    k_steps
    · rename (List.isEmpty _ = _) => hE
      rename (_ < _) => hlt
      have hxl : x.length = pre.length + body.length + post.length := by rw [len_is, hx0, List.length_append, List.length_append]
      have hkb : k < body.length := by
        rcases Nat.lt_or_ge k body.length with z | z
        · exact z
        · exfalso
          have ek : k = body.length := by omega
          subst ek
          have hq : x.cps.toList[pre.length + body.length]? = post.head? := by rw [hx0]; exact at_post
          cases post with
          | nil => simp at hxl; omega
          | cons c r =>
            rw [item_is (c := c) (by rw [hq]; rfl), marks_is] at hE
            have := hp c rfl
            simp [this] at hE
      exact ⟨_, _, _, _, body.length - (k + 1), rfl, by k_asm, by k_asm, by omega, rfl, k + 1, _, by omega, rfl, rfl⟩
    · rename (List.isEmpty _ = _) => hE
      rename (_ < _) => hlt
      have ek : k = body.length := by
        rcases Nat.lt_or_ge k body.length with z | z
        · exfalso
          have hq : x.cps.toList[pre.length + k]? = some body[k] := by rw [hx0]; exact at_body z
          rw [item_is hq, marks_is] at hE
          have := hb _ (List.getElem_mem z)
          simp at hE
          omega
        · omega
      subst ek
      rw [slice_is hx0 rfl rfl]
      refine hret _ _ _ _ ⟨_, ta', rfl, ?_⟩ (by k_asm) (by k_asm)
      rw [List.length_append]
    · have hxl : x.length = pre.length + body.length + post.length := by rw [len_is, hx0, List.length_append, List.length_append]
      have ek : k = body.length := by omega
      subst ek
      rw [slice_is hx0 rfl rfl]
      refine hret _ _ _ _ ⟨_, ta', rfl, ?_⟩ (by k_asm) (by k_asm)
      rw [List.length_append]
  · passes_own
end Mine
namespace Mine
section
local macro_rules | `(tactic| walk_at "call ref") => `(tactic| (k_here; (with_reducible show wpAny _ _ (call (Value.ref 91) _) _ _ _); refine Halt.go ?_))
theorem reference_ctr {w : World} {mean : ExcName → Option Value} {mg mb : Str → Option Value} {p d : Addr} {rest : List (Addr × Obj)} {q : M3} {x : Str} {tx ta : Tok} {nm : Value} {pre post : List Nat} {c : Nat} (hx : x.length ≤ 1000)
    (h1 : p ≠ d) (hr : ∀ p ∈ rest, p.1 ≠ d) (hx0 : x.cps.toList = pre ++ 38 :: 101 :: c :: 59 :: post) (hc : c = 48 ∨ c = 49 ∨ c = 50 ∨ c = 51) :
    Ctr w mean mg mb 10 273 [.ref p] ((p, instObj 276 d) :: (d, pdD q x tx nm (pre.length : Nat) ta) :: rest)
      (fun v news' => ∃ t ta', v = .str ⟨#[101, c]⟩ t ∧ news' = (p, instObj 276 d) :: (d, pdD q x tx nm ((pre.length + 4 : Nat) : Int) ta') :: rest)
      (fun _ _ => False) := by
  walk_at "begin"
  have hR : IsRest rest := trivial
  intro dp un gd cn cs a ccd cl outer A₀ base h₀ L m s Q E B F X N T hk hd hu hret hexc
  revert hx h1 hr hx0 hc hR B F X N T hk hd hu hret hexc
  revert w mean mg mb p d rest q x tx ta nm pre post c dp un gd cn cs a ccd cl outer A₀ base h₀ L m s Q E
  refine @pick32 _ _ _ _ _ _ _ _ _ _ _ _ _ _ _ _ _ _ _ _ _ _ _ _ _ _ _ _ _ _ _ _ _ ?ne63 ?_
  (case ne63 => walk_at "ne")
  generalize ck32 _ = tU
  generalize hd2 tU = w, tl2 tU = tU
  generalize hd2 tU = mean, tl2 tU = tU
  generalize hd2 tU = mg, tl2 tU = tU
  generalize hd2 tU = mb, tl2 tU = tU
  generalize hd2 tU = p, tl2 tU = tU
  generalize hd2 tU = d, tl2 tU = tU
  generalize hd2 tU = rest, tl2 tU = tU
  generalize hd2 tU = q, tl2 tU = tU
  generalize hd2 tU = x, tl2 tU = tU
  generalize hd2 tU = tx, tl2 tU = tU
  generalize hd2 tU = ta, tl2 tU = tU
  generalize hd2 tU = nm, tl2 tU = tU
  generalize hd2 tU = pre, tl2 tU = tU
  generalize hd2 tU = post, tl2 tU = tU
  generalize hd2 tU = c, tl2 tU = tU
  generalize hd2 tU = dp, tl2 tU = tU
  generalize hd2 tU = un, tl2 tU = tU
  generalize hd2 tU = gd, tl2 tU = tU
  generalize hd2 tU = cn, tl2 tU = tU
  generalize hd2 tU = cs, tl2 tU = tU
  generalize hd2 tU = a, tl2 tU = tU
  generalize hd2 tU = ccd, tl2 tU = tU
  generalize hd2 tU = cl, tl2 tU = tU
  generalize hd2 tU = outer, tl2 tU = tU
  generalize hd2 tU = A₀, tl2 tU = tU
  generalize hd2 tU = base, tl2 tU = tU
  generalize hd2 tU = h₀, tl2 tU = tU
  generalize hd2 tU = L, tl2 tU = tU
  generalize hd2 tU = m, tl2 tU = tU
  generalize hd2 tU = s, tl2 tU = tU
  generalize hd2 tU = Q, tl2 tU = E
  intro hx h1 hr hx0 hc hR B F X N T hk hd hu hret hexc
  refine wpAny_call ?_
  k_dflt cell_enter
  rename_i pv66_9 pv66_8 pv66_7 pv66_6 pv66_5 pv66_4 pv66_3 pv66_2 pv66_1
  have dum3 : Unit := ()
  revert pv66_6 pv66_5 pv66_4 pv66_3 pv66_2 pv66_1 qk ek
  revert pv66_9 pv66_8 pv66_7 dum3
  refine @pick4 _ _ _ _ _ ?ne66 ?_
  (case ne66 => walk_at "ne")
  generalize ck4 _ = tU
  generalize hd2 tU = pv66_9, tl2 tU = tU
  generalize hd2 tU = pv66_8, tl2 tU = tU
  generalize hd2 tU = pv66_7
  intro pv66_6 pv66_5 pv66_4 pv66_3 pv66_2 pv66_1 qk ek
  k_steps
  all_goals (
    have hF := find_semi hx0 (by omega)
    have hW : Txt.slice x (some ((pre.length : Nat) + 1)) (some (if ((pre.length : Nat) : Int) > Txt.find3 x (Str.ofString ";") (pre.length : Nat) then ((pre.length : Nat) : Int) else Txt.find3 x (Str.ofString ";") (pre.length : Nat))) = ⟨#[101, c]⟩ := by
      rw [hF, if_neg (by omega)]
      exact word_is hx0 rfl rfl)
  · exfalso; omega
  · refine Halt.at ?_
    rw [hW]
    refine Ctr.use (is_name_ctr hc) (by k_asm) ?_ ?_
    · refine rts_vn ?_
      intro h' tk' F1 N1
      rename_i pv79_3 _ _ _ pv79_2 _ _ _ _ _ pv79_1 _ _ _
      have dum3 : Unit := ()
      clear pv79_2 pv79_1
      revert qk ek F1 N1
      revert pv79_3 h' tk' dum3
      refine @pick4 _ _ _ _ _ ?ne79 ?_
      (case ne79 => walk_at "ne")
      generalize ck4 _ = tU
      generalize hd2 tU = pv79_3, tl2 tU = tU
      generalize hd2 tU = h', tl2 tU = tU
      generalize hd2 tU = tk'
      intro qk ek F1 N1
      k_steps
      all_goals (rw [hW]; (rename News _ _ _ _ => NN); rw [hF] at NN; exact hret _ _ _ _ ⟨_, _, rfl, rfl⟩ (by k_asm) NN)
    · rintro _ _ _ _ _ _ _ _ ⟨⟩
  · rw [hW]
    rename News _ _ _ _ => NN
    rw [hF] at NN
    exact hret _ _ _ _ ⟨_, _, rfl, rfl⟩ (by k_asm) NN
end
end Mine
namespace Mine
abbrev stD (q : M3) (gr rl : Addr) : Obj := dictOf [⟨q.a, .str "growth" q.a', .ref gr⟩, ⟨q.b, .str "rows" q.b', .ref rl⟩] 2
section
variable {prog : Program} {w : World} {A : Around} {E : Value → Shared → Prop} {s : Shared}
theorem ne_nil {l b : Addr} {vs : List Value} {Q : Value → Shared → Prop} (hl : s.heap.IsList l vs.toArray) (hb : s.heap.IsList b ([] : List Value).toArray) (hu : A.units < cLine) (h : Q (.bool (!vs.isEmpty)) s) :
    wpAny (model prog w) A (compareOp .NotEq (.ref l) (.ref b)) Q E s := by
  cases vs with
  | nil => exact SeqAt.RcNeAt.lists (e := fun _ => true) hl hb rfl hu (fun j h1 _ => absurd h1 (Nat.not_lt_zero _)) prog w E Q h
  | cons v r => exact SeqAt.RcNeAt.lists_lengths hl hb (by simp) hu prog w E Q h
theorem item_last {value slice : PySem.Expr} {l : Addr} {vs : List Value} {v : Value} {u : Tok} {Q : Value → Shared → Prop} (hl : s.heap.IsList l (vs ++ [v]).toArray) (hlen : vs.length < 100) (h : Q v s)
    (hs : subscripted slice false (.ref l) (.int (-1) u) = operate [.ref l, .int (-1) u] (getItem (.ref l) (.int (-1) u)) := by with_unfolding_all rfl) :
    wpAny (model prog w) A (subscriptTail value slice (.ref l) (.int (-1) u)) Q E s :=
  tail_any hl.typeIs slot_list_getitem.lookup (wpAny_getItem_list_neg hl (by decide) (by rw [List.size_toArray, List.length_append]; simp; (first | lia | omega)) (by decide) (by
    have e : (-1 + (((vs ++ [v]).toArray.size : Nat) : Int)).toNat = vs.length := by rw [List.size_toArray, List.length_append]; simp; (first | lia | omega)
    rw [e]; simp) h) hs
end
/-- a row of the stack: a text that is being read, and where -/
structure Row where
  p : Addr
  d : Addr
  q : M3
  x : Str
  tx : Tok
  nm : Option (Str × Tok)
  a : Nat
  ta : Tok
abbrev nmV : Option (Str × Tok) → Value
  | none => .none
  | some n => .str n.1 n.2
abbrev rowObjs (r : Row) : List (Addr × Obj) := [(r.p, instObj 276 r.d), (r.d, pdD r.q r.x r.tx (nmV r.nm) ((r.a : Nat) : Int) r.ta)]
def rowsO (stk : List Row) : List (Addr × Obj) := stk.flatMap rowObjs
def rowsV (stk : List Row) : List Value := (stk.map fun r => Value.ref r.p).reverse
def opens (stk : List Row) : List Str := (stk.filterMap fun r => r.nm.map (·.1)).reverse
theorem rowsV_cons (r : Row) (stk : List Row) : rowsV (r :: stk) = rowsV stk ++ [.ref r.p] := by simp [rowsV]
theorem rowsV_len (stk : List Row) : (rowsV stk).length = stk.length := by simp [rowsV]
theorem rowsO_cons (r : Row) (stk : List Row) : rowsO (r :: stk) = (r.p, instObj 276 r.d) :: (r.d, pdD r.q r.x r.tx (nmV r.nm) ((r.a : Nat) : Int) r.ta) :: rowsO stk := rfl
theorem opens_some {r : Row} {n : Str × Tok} (h : r.nm = some n) (stk : List Row) : opens (r :: stk) = opens stk ++ [n.1] := by simp [opens, h]
theorem opens_none {r : Row} (h : r.nm = none) (stk : List Row) : opens (r :: stk) = opens stk := by simp [opens, h]
def Row.over (r : Row) : Bool := r.a == r.x.length
def popDone : List Row → List Row
  | [] => []
  | r :: stk => if r.over then popDone stk else r :: stk
abbrev topV : List Row → Value
  | [] => .none
  | r :: _ => .ref r.p
theorem strsAre_unsnoc {vs : List Value} {ys : List Str} {y : Str} (h : StrsAre vs (ys ++ [y])) : ∃ vs' t, vs = vs' ++ [Value.str y t] ∧ StrsAre vs' ys := by
  induction ys generalizing vs with
  | nil => cases h with
    | cons _ t r => cases r; exact ⟨[], t, rfl, .nil⟩
  | cons z ys ih => cases h with
    | cons _ t r =>
      obtain ⟨vs', t', rfl, h'⟩ := ih r
      exact ⟨_ :: vs', t', rfl, .cons _ _ h'⟩
theorem strsAre_len {vs : List Value} {ys : List Str} (h : StrsAre vs ys) : vs.length = ys.length := by
  induction h with
  | nil => rfl
  | cons _ _ _ ih => simp [ih]
theorem opens_le (stk : List Row) : (opens stk).length ≤ stk.length := by
  unfold opens
  rw [List.length_reverse]
  exact List.length_filterMap_le _ _
end Mine
namespace Mine
def Dis (l : List (Addr × Obj)) : Prop := (l.map (·.1)).Nodup
theorem dis_pre {pre post : List (Addr × Obj)} {d : Addr} {o : Obj} (h : Dis (pre ++ (d, o) :: post)) : ∀ p ∈ pre ++ post, p.1 ≠ d := by
  unfold Dis at h
  rw [List.map_append, List.map_cons] at h
  have h' := (List.perm_middle.nodup_iff.mp h)
  rw [List.nodup_cons] at h'
  intro p hp e
  refine h'.1 ?_
  rw [← List.map_append]
  exact List.mem_map.mpr ⟨p, hp, e⟩
theorem dis_keys {l l' : List (Addr × Obj)} (h : Dis l) (e : l'.map (·.1) = l.map (·.1)) : Dis l' := by
  unfold Dis; rw [e]; exact h
theorem dis_insert {A A' R : List (Addr × Obj)} {p d : Addr} {o₁ o₂ : Obj} (h : Dis (A ++ R)) (hk : A'.map (·.1) = A.map (·.1)) (hA : ∀ q ∈ A, q.1 < d) (hR : ∀ q ∈ R, q.1 < d) (hpd : @LT.lt Nat _ d p) : Dis (A' ++ (p, o₁) :: (d, o₂) :: R) := by
  unfold Dis at h ⊢
  rw [List.map_append] at h ⊢
  rw [hk, List.map_cons, List.map_cons]
  have hall : ∀ k ∈ A.map (·.1) ++ R.map (·.1), @LT.lt Nat _ k d := by
    intro k hk
    rcases List.mem_append.mp hk with hk | hk
    · obtain ⟨q, hq, rfl⟩ := List.mem_map.mp hk; exact hA q hq
    · obtain ⟨q, hq, rfl⟩ := List.mem_map.mp hk; exact hR q hq
  refine List.perm_middle.nodup_iff.mpr (List.nodup_cons.mpr ⟨?_, List.perm_middle.nodup_iff.mpr (List.nodup_cons.mpr ⟨?_, h⟩)⟩)
  · intro hm
    have hm' : p ∈ d :: (A.map (·.1) ++ R.map (·.1)) := List.perm_middle.mem_iff.mp hm
    rcases List.mem_cons.mp hm' with e | hm'
    · rw [e] at hpd; exact Nat.lt_irrefl _ hpd
    · exact Nat.lt_irrefl _ (Nat.lt_trans (hall p hm') hpd)
  · intro hm
    exact Nat.lt_irrefl _ (hall d hm)
theorem dis_drop {A B R : List (Addr × Obj)} (h : Dis (A ++ (B ++ R))) : Dis (A ++ R) := by
  unfold Dis at h ⊢
  refine h.sublist ?_
  exact (List.Sublist.append (List.Sublist.refl A) (List.sublist_append_right B R)).map _
structure Core where
  st : Addr
  ds : Addr
  rl : Addr
  gr : Addr
  dg : Addr
  ol : Addr
  lim : Addr
  dl : Addr
  qs : M3
  qg : M3
  ql : M3
  md : Int
  ms : Int
  t1 : Tok
  t2 : Tok
abbrev head (K : Core) (nr no : Nat) (sz : Int) (ts : Tok) (os rs : List Value) : List (Addr × Obj) :=
  [(K.st, instObj 311 K.ds), (K.ds, stD K.qs K.gr K.rl), (K.rl, listOf rs.toArray nr), (K.gr, instObj 234 K.dg), (K.dg, grD K.qg K.lim sz ts K.ol), (K.ol, listOf os.toArray no), (K.lim, instObj 362 K.dl), (K.dl, liD K.ql K.md K.t1 K.ms K.t2)]
def led (K : Core) (nr no : Nat) (sz : Int) (ts : Tok) (os : List Value) (stk : List Row) (rest : List (Addr × Obj)) : List (Addr × Obj) := head K nr no sz ts os (rowsV stk) ++ (rowsO stk ++ rest)
end Mine
namespace Mine
structure LedNe (K : Core) (R : List (Addr × Obj)) : Prop where
  st_rl : K.st ≠ K.rl
  ds_rl : K.ds ≠ K.rl
  gr_rl : K.gr ≠ K.rl
  dg_rl : K.dg ≠ K.rl
  ol_rl : K.ol ≠ K.rl
  lim_rl : K.lim ≠ K.rl
  dl_rl : K.dl ≠ K.rl
  st_dg : K.st ≠ K.dg
  ds_dg : K.ds ≠ K.dg
  gr_dg : K.gr ≠ K.dg
  lim_dg : K.lim ≠ K.dg
  dl_dg : K.dl ≠ K.dg
  st_ol : K.st ≠ K.ol
  ds_ol : K.ds ≠ K.ol
  gr_ol : K.gr ≠ K.ol
  dg_ol : K.dg ≠ K.ol
  lim_ol : K.lim ≠ K.ol
  dl_ol : K.dl ≠ K.ol
  R_rl : ∀ p ∈ R, p.1 ≠ K.rl
  R_dg : ∀ p ∈ R, p.1 ≠ K.dg
  R_ol : ∀ p ∈ R, p.1 ≠ K.ol
theorem ledNe {K : Core} {nr no : Nat} {sz : Int} {ts : Tok} {os : List Value} {stk : List Row} {rest : List (Addr × Obj)} (h : Dis (led K nr no sz ts os stk rest)) : LedNe K (rowsO stk ++ rest) := by
  have a := dis_pre (pre := [(K.st, instObj 311 K.ds), (K.ds, stD K.qs K.gr K.rl)]) (d := K.rl) (post := (K.gr, instObj 234 K.dg) :: (K.dg, grD K.qg K.lim sz ts K.ol) :: (K.ol, listOf os.toArray no) :: (K.lim, instObj 362 K.dl) :: (K.dl, liD K.ql K.md K.t1 K.ms K.t2) :: (rowsO stk ++ rest)) h
  have b := dis_pre (pre := [(K.st, instObj 311 K.ds), (K.ds, stD K.qs K.gr K.rl), (K.rl, listOf (rowsV stk).toArray nr), (K.gr, instObj 234 K.dg)]) (d := K.dg) (post := (K.ol, listOf os.toArray no) :: (K.lim, instObj 362 K.dl) :: (K.dl, liD K.ql K.md K.t1 K.ms K.t2) :: (rowsO stk ++ rest)) h
  have c := dis_pre (pre := [(K.st, instObj 311 K.ds), (K.ds, stD K.qs K.gr K.rl), (K.rl, listOf (rowsV stk).toArray nr), (K.gr, instObj 234 K.dg), (K.dg, grD K.qg K.lim sz ts K.ol)]) (d := K.ol) (post := (K.lim, instObj 362 K.dl) :: (K.dl, liD K.ql K.md K.t1 K.ms K.t2) :: (rowsO stk ++ rest)) h
  simp only [List.cons_append, List.nil_append, List.forall_mem_cons] at a b c
  obtain ⟨a1, a2, a3, a4, a5, a6, a7, a8⟩ := a
  obtain ⟨b1, b2, b3, b4, b5, b6, b7, b8⟩ := b
  obtain ⟨c1, c2, c3, c4, c5, c6, c7, c8⟩ := c
  exact ⟨a1, a2, a3, a4, a5, a6, a7, b1, b2, b4, b6, b7, c1, c2, c4, c5, c6, c7, a8, b8, c8⟩
end Mine
namespace Mine
theorem any_mem {ys : List Str} {nm : Str} : (ys.any (· == nm)) = true ↔ nm ∈ ys := by simp
theorem any_not {ys : List Str} {nm : Str} (h : (ys.any (· == nm)) = false) : nm ∉ ys := fun hm => by
  rw [any_mem.mpr hm] at h; cases h
theorem enter_ctr {w : World} {mean : ExcName → Option Value} {mg mb : Str → Option Value} {gr dg lim dl ol : Addr} {rest : List (Addr × Obj)} {q q2 : M3} {sz md ms : Int} {ts t1 t2 tn : Tok} {vs : List Value} {ys : List Str} {n : Nat} {nm : Str} 
    (hS : StrsAre vs ys) (hlen : ys.length < 100) (hn : nm.length ≤ 16) (h1 : gr ≠ ol) (h2 : lim ≠ ol) (h3 : dl ≠ ol) (h4 : dg ≠ ol) (hr : ∀ p ∈ rest, p.1 ≠ ol) :
    Ctr w mean mg mb 5 217 [.ref gr, .str nm tn] ((gr, instObj 234 dg) :: (dg, grD q lim sz ts ol) :: (ol, listOf vs.toArray n) :: (lim, instObj 362 dl) :: (dl, liD q2 md t1 ms t2) :: rest)
      (fun v news' => nm ∉ ys ∧ (ys.length : Int) < md ∧ v = .none ∧ ∃ n', news' = (gr, instObj 234 dg) :: (dg, grD q lim sz ts ol) :: (ol, listOf (vs ++ [Value.str nm tn]).toArray n') :: (lim, instObj 362 dl) :: (dl, liD q2 md t1 ms t2) :: rest)
      (fun C news' => (nm ∈ ys ∧ C = 141 ∨ nm ∉ ys ∧ ¬ (ys.length : Int) < md ∧ C = 153) ∧ news' = rest) := by
  walk_at "begin"
  have hR : IsRest rest := trivial
  intro dp un gd cn cs a ccd cl outer A₀ base h₀ L m s Q E B F X N T hk hd hu hret hexc
  have dum40 : Unit := ()
  have dum41 : Unit := ()
  have dum42 : Unit := ()
  have dum43 : Unit := ()
  revert hS hlen hn h1 h2 h3 h4 hr hR B F X N T hk hd hu hret hexc
  revert w mean mg mb gr dg lim dl ol rest q q2 sz md ms ts t1 t2 tn vs ys n nm dp un gd cn cs a ccd cl outer A₀ base h₀ L m s Q E dum40 dum41 dum42 dum43
  refine @pick44 _ _ _ _ _ _ _ _ _ _ _ _ _ _ _ _ _ _ _ _ _ _ _ _ _ _ _ _ _ _ _ _ _ _ _ _ _ _ _ _ _ _ _ _ _ ?ne63 ?_
  (case ne63 => walk_at "ne")
  generalize ck44 _ = tU
  generalize hd2 tU = w, tl2 tU = tU
  generalize hd2 tU = mean, tl2 tU = tU
  generalize hd2 tU = mg, tl2 tU = tU
  generalize hd2 tU = mb, tl2 tU = tU
  generalize hd2 tU = gr, tl2 tU = tU
  generalize hd2 tU = dg, tl2 tU = tU
  generalize hd2 tU = lim, tl2 tU = tU
  generalize hd2 tU = dl, tl2 tU = tU
  generalize hd2 tU = ol, tl2 tU = tU
  generalize hd2 tU = rest, tl2 tU = tU
  generalize hd2 tU = q, tl2 tU = tU
  generalize hd2 tU = q2, tl2 tU = tU
  generalize hd2 tU = sz, tl2 tU = tU
  generalize hd2 tU = md, tl2 tU = tU
  generalize hd2 tU = ms, tl2 tU = tU
  generalize hd2 tU = ts, tl2 tU = tU
  generalize hd2 tU = t1, tl2 tU = tU
  generalize hd2 tU = t2, tl2 tU = tU
  generalize hd2 tU = tn, tl2 tU = tU
  generalize hd2 tU = vs, tl2 tU = tU
  generalize hd2 tU = ys, tl2 tU = tU
  generalize hd2 tU = n, tl2 tU = tU
  generalize hd2 tU = nm, tl2 tU = tU
  generalize hd2 tU = dp, tl2 tU = tU
  generalize hd2 tU = un, tl2 tU = tU
  generalize hd2 tU = gd, tl2 tU = tU
  generalize hd2 tU = cn, tl2 tU = tU
  generalize hd2 tU = cs, tl2 tU = tU
  generalize hd2 tU = a, tl2 tU = tU
  generalize hd2 tU = ccd, tl2 tU = tU
  generalize hd2 tU = cl, tl2 tU = tU
  generalize hd2 tU = outer, tl2 tU = tU
  generalize hd2 tU = A₀, tl2 tU = tU
  generalize hd2 tU = base, tl2 tU = tU
  generalize hd2 tU = h₀, tl2 tU = tU
  generalize hd2 tU = L, tl2 tU = tU
  generalize hd2 tU = m, tl2 tU = tU
  generalize hd2 tU = s, tl2 tU = tU
  generalize hd2 tU = Q, tl2 tU = tU
  generalize hd2 tU = E
  intro hS hlen hn h1 h2 h3 h4 hr hR B F X N T hk hd hu hret hexc
  refine wpAny_call ?_
  k_dflt cell_enter
  rename_i pv66_9 pv66_8 pv66_7 pv66_6 pv66_5 pv66_4 pv66_3 pv66_2 pv66_1
  have dum3 : Unit := ()
  revert pv66_6 pv66_5 pv66_4 pv66_3 pv66_2 pv66_1 qk ek
  revert pv66_9 pv66_8 pv66_7 dum3
  refine @pick4 _ _ _ _ _ ?ne66 ?_
  (case ne66 => walk_at "ne")
  generalize ck4 _ = tU
  generalize hd2 tU = pv66_9, tl2 tU = tU
  generalize hd2 tU = pv66_8, tl2 tU = tU
  generalize hd2 tU = pv66_7
  intro pv66_6 pv66_5 pv66_4 pv66_3 pv66_2 pv66_1 qk ek
  k_steps
  · rename (List.any _ _ = _) => hA
    k_dflt (refine fault_leave (newsX := rest) (by k_asm) (by k_asm) (by k_asm) (by k_mem) (by k_mem) (by walk_at "tails") (by k_all) (by k_all) (fun h' R U => ?_))
    exact hexc _ _ _ _ _ _ _ _ ⟨.inl ⟨any_mem.mp hA, rfl⟩, rfl⟩ (by assumption) R U
  · rename (List.any _ _ = _) => hA
    k_dflt (refine fault_leave (newsX := rest) (by k_asm) (by k_asm) (by k_asm) (by k_mem) (by k_mem) (by walk_at "tails") (by k_all) (by k_all) (fun h' R U => ?_))
    exact hexc _ _ _ _ _ _ _ _ ⟨.inr ⟨any_not hA, by omega, rfl⟩, rfl⟩ (by assumption) R U
  · rename (List.any _ _ = _) => hA
    refine hret _ _ _ _ ?_ (by k_asm) (by k_asm)
    exact ⟨any_not hA, by omega, rfl, _, by rw [List.push_toArray]⟩
end Mine
namespace Mine
theorem gput_ctr {w : World} {mean : ExcName → Option Value} {mg mb : Str → Option Value} {gr dg lim dl ol : Addr} {rest : List (Addr × Obj)} {q q2 : M3} {sz md ms : Int} {ts t1 t2 tn tx : Tok} {vs : List Value} {ys : List Str} {n : Nat} {nm x : Str} 
    (hS : StrsAre vs ys) (hlen : ys.length < 100) (hn : nm.length ≤ 16) (hx : x.length ≤ 1000) (h1 : gr ≠ ol) (h2 : lim ≠ ol) (h3 : dl ≠ ol) (h4 : dg ≠ ol) (h5 : gr ≠ dg) (h6 : lim ≠ dg) (h7 : dl ≠ dg) (hr : ∀ p ∈ rest, p.1 ≠ ol) (hr2 : ∀ p ∈ rest, p.1 ≠ dg) :
    Ctr w mean mg mb 8 231 [.ref gr, .str nm tn, .str x tx] ((gr, instObj 234 dg) :: (dg, grD q lim sz ts ol) :: (ol, listOf vs.toArray n) :: (lim, instObj 362 dl) :: (dl, liD q2 md t1 ms t2) :: rest)
      (fun v news' => nm ∉ ys ∧ (ys.length : Int) < md ∧ sz + (x.length : Nat) ≤ ms ∧ v = .none ∧ ∃ n' ts', news' = (gr, instObj 234 dg) :: (dg, grD q lim (sz + (x.length : Nat)) ts' ol) :: (ol, listOf (vs ++ [Value.str nm tn]).toArray n') :: (lim, instObj 362 dl) :: (dl, liD q2 md t1 ms t2) :: rest)
      (fun C news' => (nm ∈ ys ∧ C = 141 ∨ nm ∉ ys ∧ ¬ ((ys.length : Int) < md ∧ sz + (x.length : Nat) ≤ ms) ∧ C = 153) ∧ news' = rest) := by
  walk_at "begin"
  have hR : IsRest rest := trivial
  intro dp un gd cn cs a ccd cl outer A₀ base h₀ L m s Q E B F X N T hk hd hu hret hexc
  have dum42 : Unit := ()
  have dum43 : Unit := ()
  revert hS hlen hn hx h1 h2 h3 h4 h5 h6 h7 hr hr2 hR B F X N T hk hd hu hret hexc
  revert w mean mg mb gr dg lim dl ol rest q q2 sz md ms ts t1 t2 tn tx vs ys n nm x dp un gd cn cs a ccd cl outer A₀ base h₀ L m s Q E dum42 dum43
  refine @pick44 _ _ _ _ _ _ _ _ _ _ _ _ _ _ _ _ _ _ _ _ _ _ _ _ _ _ _ _ _ _ _ _ _ _ _ _ _ _ _ _ _ _ _ _ _ ?ne60 ?_
  (case ne60 => walk_at "ne")
  generalize ck44 _ = tU
  generalize hd2 tU = w, tl2 tU = tU
  generalize hd2 tU = mean, tl2 tU = tU
  generalize hd2 tU = mg, tl2 tU = tU
  generalize hd2 tU = mb, tl2 tU = tU
  generalize hd2 tU = gr, tl2 tU = tU
  generalize hd2 tU = dg, tl2 tU = tU
  generalize hd2 tU = lim, tl2 tU = tU
  generalize hd2 tU = dl, tl2 tU = tU
  generalize hd2 tU = ol, tl2 tU = tU
  generalize hd2 tU = rest, tl2 tU = tU
  generalize hd2 tU = q, tl2 tU = tU
  generalize hd2 tU = q2, tl2 tU = tU
  generalize hd2 tU = sz, tl2 tU = tU
  generalize hd2 tU = md, tl2 tU = tU
  generalize hd2 tU = ms, tl2 tU = tU
  generalize hd2 tU = ts, tl2 tU = tU
  generalize hd2 tU = t1, tl2 tU = tU
  generalize hd2 tU = t2, tl2 tU = tU
  generalize hd2 tU = tn, tl2 tU = tU
  generalize hd2 tU = tx, tl2 tU = tU
  generalize hd2 tU = vs, tl2 tU = tU
  generalize hd2 tU = ys, tl2 tU = tU
  generalize hd2 tU = n, tl2 tU = tU
  generalize hd2 tU = nm, tl2 tU = tU
  generalize hd2 tU = x, tl2 tU = tU
  generalize hd2 tU = dp, tl2 tU = tU
  generalize hd2 tU = un, tl2 tU = tU
  generalize hd2 tU = gd, tl2 tU = tU
  generalize hd2 tU = cn, tl2 tU = tU
  generalize hd2 tU = cs, tl2 tU = tU
  generalize hd2 tU = a, tl2 tU = tU
  generalize hd2 tU = ccd, tl2 tU = tU
  generalize hd2 tU = cl, tl2 tU = tU
  generalize hd2 tU = outer, tl2 tU = tU
  generalize hd2 tU = A₀, tl2 tU = tU
  generalize hd2 tU = base, tl2 tU = tU
  generalize hd2 tU = h₀, tl2 tU = tU
  generalize hd2 tU = L, tl2 tU = tU
  generalize hd2 tU = m, tl2 tU = tU
  generalize hd2 tU = s, tl2 tU = tU
  generalize hd2 tU = Q, tl2 tU = tU
  generalize hd2 tU = E
  intro hS hlen hn hx h1 h2 h3 h4 h5 h6 h7 hr hr2 hR B F X N T hk hd hu hret hexc
  refine wpAny_call ?_
  k_dflt cell_enter
  rename_i pv63_9 pv63_8 pv63_7 pv63_6 pv63_5 pv63_4 pv63_3 pv63_2 pv63_1
  have dum3 : Unit := ()
  revert pv63_6 pv63_5 pv63_4 pv63_3 pv63_2 pv63_1 qk ek
  revert pv63_9 pv63_8 pv63_7 dum3
  refine @pick4 _ _ _ _ _ ?ne63 ?_
  (case ne63 => walk_at "ne")
  generalize ck4 _ = tU
  generalize hd2 tU = pv63_9, tl2 tU = tU
  generalize hd2 tU = pv63_8, tl2 tU = tU
  generalize hd2 tU = pv63_7
  intro pv63_6 pv63_5 pv63_4 pv63_3 pv63_2 pv63_1 qk ek
  k_steps
  refine Halt.at ?_
  refine Ctr.use (enter_ctr (rest := rest) hS hlen hn h1 h2 h3 h4 hr) (by k_asm) ?_ ?_
  · refine rts_ppvEn ?_
    intro n' hm hl h' tk' F1 N1
    have dum3 : Unit := ()
    revert qk ek F1 N1
    revert n' h' tk' dum3
    refine @pick4 _ _ _ _ _ ?ne69 ?_
    (case ne69 => walk_at "ne")
    generalize ck4 _ = tU
    generalize hd2 tU = n', tl2 tU = tU
    generalize hd2 tU = h', tl2 tU = tU
    generalize hd2 tU = tk'
    intro qk ek F1 N1
    k_steps
    refine Halt.at ?_
    refine Ctr.use (add_ctr (rest := (ol, listOf (vs ++ [Value.str nm tn]).toArray n') :: rest) h5 h6 h7 ((fmc (Ne.symm h4) (hr2)))) (news_sub (by k_asm) (by walk_at "perm")) ?_ ?_
    · refine rts_pvEn ?_
      intro ts' hb h' tk' F1 N1
      have dum3 : Unit := ()
      revert qk ek F1 N1
      revert ts' h' tk' dum3
      refine @pick4 _ _ _ _ _ ?ne75 ?_
      (case ne75 => walk_at "ne")
      generalize ck4 _ = tU
      generalize hd2 tU = ts', tl2 tU = tU
      generalize hd2 tU = h', tl2 tU = tU
      generalize hd2 tU = tk'
      intro qk ek F1 N1
      k_steps
      refine hret _ _ _ _ ⟨hm, hl, hb, rfl, n', ts', rfl⟩ (by k_asm) (news_sub (by k_asm) (by walk_at "perm"))
    · rintro e C t vs newsX G h' tk' ⟨hC, rfl, rfl⟩ F1 R1 U1
      k_steps
      exact hexc _ _ _ _ _ _ _ _ ⟨.inr ⟨hm, fun z => hC z.2, rfl⟩, rfl⟩ (by assumption) (raisedS_sub (by assumption) (by walk_at "tails")) (by assumption)
  · rintro e C t vs newsX G h' tk' ⟨hC, rfl⟩ F1 R1 U1
    k_steps
    exact hexc _ _ _ _ _ _ _ _ ⟨hC.imp id (fun z => ⟨z.1, fun y => z.2.1 y.1, z.2.2⟩), rfl⟩ (by assumption) (by assumption) (by assumption)
end Mine
namespace Mine
theorem sput_end {g₀ h : Heap} {L : Addr} {K : Core} {nr no nr' no' : Nat} {sz sz' : Int} {ts ts' : Tok} {os : List Value} {stk : List Row} {rest : List (Addr × Obj)} {nm x : Str} {tn tx ta : Tok} {px dx : Addr} {qa qb qc : Int} {qa' qb' qc' : Tok}
    (hD : Dis (led K nr no sz ts os stk rest))
    (N : News g₀ L h ((px, instObj 276 dx) :: (dx, pdD ⟨qa, qa', qb, qb', qc, qc'⟩ x tx (.str nm tn) 0 ta) :: (head K nr' no' sz' ts' (os ++ [Value.str nm tn]) (rowsV stk ++ [.ref px]) ++ (rowsO stk ++ rest))))
    (hA : ∀ q ∈ head K nr no sz ts os (rowsV stk), q.1 < dx) (hR : RestLt (rowsO stk ++ rest) dx) (hpd : @LT.lt Nat _ dx px) :
    ∃ r : Row, r.x = x ∧ r.nm = some (nm, tn) ∧ r.a = 0 ∧ Dis (led K nr' no' sz' ts' (os ++ [Value.str nm tn]) (r :: stk) rest) ∧ News g₀ L h (led K nr' no' sz' ts' (os ++ [Value.str nm tn]) (r :: stk) rest) := by
  refine ⟨⟨px, dx, ⟨qa, qa', qb, qb', qc, qc'⟩, x, tx, some (nm, tn), 0, ta⟩, rfl, rfl, rfl, ?_, ?_⟩
  · exact dis_insert hD rfl hA hR hpd
  · unfold led
    rw [rowsV_cons, rowsO_cons]
    refine news_sub N fun p hp => ?_
    rcases List.mem_append.mp hp with hp | hp
    · exact .tail _ (.tail _ (List.mem_append_left _ hp))
    · rcases List.mem_cons.mp hp with rfl | hp
      · exact .head _
      · rcases List.mem_cons.mp hp with rfl | hp
        · exact .tail _ (.head _)
        · exact .tail _ (.tail _ (List.mem_append_right _ hp))
section
local macro_rules | `(tactic| walk_at "call ref") => `(tactic| (k_here; (with_reducible show wpAny _ _ (call (Value.ref 231) _) _ _ _); refine Halt.go ?_))
theorem sput_ctr {w : World} {mean : ExcName → Option Value} {mg mb : Str → Option Value} {K : Core} {nr no : Nat} {sz : Int} {ts : Tok} {os : List Value} {stk : List Row} {rest : List (Addr × Obj)} {nm x : Str} {tn tx : Tok}
    (hD : Dis (led K nr no sz ts os stk rest)) (hS : StrsAre os (opens stk)) (hlen : stk.length < 50) (hn : nm.length ≤ 16) (hx : x.length ≤ 1000) :
    Ctr w mean mg mb 12 308 [.ref K.st, .str nm tn, .str x tx] (led K nr no sz ts os stk rest)
      (fun v news' => nm ∉ opens stk ∧ ((opens stk).length : Int) < K.md ∧ sz + (x.length : Nat) ≤ K.ms ∧ v = .none ∧ ∃ r nr' no' ts', r.x = x ∧ r.nm = some (nm, tn) ∧ r.a = 0 ∧
        Dis (led K nr' no' (sz + (x.length : Nat)) ts' (os ++ [Value.str nm tn]) (r :: stk) rest) ∧ news' = led K nr' no' (sz + (x.length : Nat)) ts' (os ++ [Value.str nm tn]) (r :: stk) rest)
      (fun C news' => (nm ∈ opens stk ∧ C = 141 ∨ nm ∉ opens stk ∧ ¬ (((opens stk).length : Int) < K.md ∧ sz + (x.length : Nat) ≤ K.ms) ∧ C = 153) ∧ news' = (K.lim, instObj 362 K.dl) :: (K.dl, liD K.ql K.md K.t1 K.ms K.t2) :: rest) := by
  have hne := ledNe hD
  have hlo := opens_le stk
  have hrv := rowsV_len stk
  obtain ⟨st, ds, rl, gr, dg, ol, lim, dl, qs, qg, ql, md, ms, t1, t2⟩ := K
  obtain ⟨a1, a2, a3, a4, a5, a6, a7, b1, b2, b4, b6, b7, c1, c2, c4, c5, c6, c7, a8, b8, c8⟩ := hne
  dsimp only at a1 a2 a3 a4 a5 a6 a7 b1 b2 b4 b6 b7 c1 c2 c4 c5 c6 c7 a8 b8 c8
  unfold led
  dsimp only [List.cons_append, List.nil_append]
  generalize hRe : rowsO stk ++ rest = R at a8 b8 c8 ⊢
  walk_at "begin"
  have hR : IsRest R := trivial
  intro dp un gd cn cs a ccd cl outer A₀ base h₀ L m s Q E B F X N T hk hd hu hret hexc
  have dum48 : Unit := ()
  have dum49 : Unit := ()
  revert hS hlen hn hx hlo hrv hD a1 a2 a3 a4 a5 a6 a7 b1 b2 b4 b6 b7 c1 c2 c4 c5 c6 c7 hRe a8 b8 c8 hR B F X N T hk hd hu hret hexc
  revert w mean mg mb nr no sz ts os stk rest nm x tn tx st ds rl gr dg ol lim dl qs qg ql md ms t1 t2 R dp un gd cn cs a ccd cl outer A₀ base h₀ L m s Q E dum48 dum49
  refine @pick50 _ _ _ _ _ _ _ _ _ _ _ _ _ _ _ _ _ _ _ _ _ _ _ _ _ _ _ _ _ _ _ _ _ _ _ _ _ _ _ _ _ _ _ _ _ _ _ _ _ _ _ ?ne90 ?_
  (case ne90 => walk_at "ne")
  generalize ck50 _ = tU
  generalize hd2 tU = w, tl2 tU = tU
  generalize hd2 tU = mean, tl2 tU = tU
  generalize hd2 tU = mg, tl2 tU = tU
  generalize hd2 tU = mb, tl2 tU = tU
  generalize hd2 tU = nr, tl2 tU = tU
  generalize hd2 tU = no, tl2 tU = tU
  generalize hd2 tU = sz, tl2 tU = tU
  generalize hd2 tU = ts, tl2 tU = tU
  generalize hd2 tU = os, tl2 tU = tU
  generalize hd2 tU = stk, tl2 tU = tU
  generalize hd2 tU = rest, tl2 tU = tU
  generalize hd2 tU = nm, tl2 tU = tU
  generalize hd2 tU = x, tl2 tU = tU
  generalize hd2 tU = tn, tl2 tU = tU
  generalize hd2 tU = tx, tl2 tU = tU
  generalize hd2 tU = st, tl2 tU = tU
  generalize hd2 tU = ds, tl2 tU = tU
  generalize hd2 tU = rl, tl2 tU = tU
  generalize hd2 tU = gr, tl2 tU = tU
  generalize hd2 tU = dg, tl2 tU = tU
  generalize hd2 tU = ol, tl2 tU = tU
  generalize hd2 tU = lim, tl2 tU = tU
  generalize hd2 tU = dl, tl2 tU = tU
  generalize hd2 tU = qs, tl2 tU = tU
  generalize hd2 tU = qg, tl2 tU = tU
  generalize hd2 tU = ql, tl2 tU = tU
  generalize hd2 tU = md, tl2 tU = tU
  generalize hd2 tU = ms, tl2 tU = tU
  generalize hd2 tU = t1, tl2 tU = tU
  generalize hd2 tU = t2, tl2 tU = tU
  generalize hd2 tU = R, tl2 tU = tU
  generalize hd2 tU = dp, tl2 tU = tU
  generalize hd2 tU = un, tl2 tU = tU
  generalize hd2 tU = gd, tl2 tU = tU
  generalize hd2 tU = cn, tl2 tU = tU
  generalize hd2 tU = cs, tl2 tU = tU
  generalize hd2 tU = a, tl2 tU = tU
  generalize hd2 tU = ccd, tl2 tU = tU
  generalize hd2 tU = cl, tl2 tU = tU
  generalize hd2 tU = outer, tl2 tU = tU
  generalize hd2 tU = A₀, tl2 tU = tU
  generalize hd2 tU = base, tl2 tU = tU
  generalize hd2 tU = h₀, tl2 tU = tU
  generalize hd2 tU = L, tl2 tU = tU
  generalize hd2 tU = m, tl2 tU = tU
  generalize hd2 tU = s, tl2 tU = tU
  generalize hd2 tU = Q, tl2 tU = tU
  generalize hd2 tU = E
  intro hS hlen hn hx hlo hrv hD a1 a2 a3 a4 a5 a6 a7 b1 b2 b4 b6 b7 c1 c2 c4 c5 c6 c7 hRe a8 b8 c8 hR B F X N T hk hd hu hret hexc
  refine wpAny_call ?_
  k_dflt cell_enter
  rename_i pv93_9 pv93_8 pv93_7 pv93_6 pv93_5 pv93_4 pv93_3 pv93_2 pv93_1
  have dum3 : Unit := ()
  revert pv93_6 pv93_5 pv93_4 pv93_3 pv93_2 pv93_1 qk ek
  revert pv93_9 pv93_8 pv93_7 dum3
  refine @pick4 _ _ _ _ _ ?ne93 ?_
  (case ne93 => walk_at "ne")
  generalize ck4 _ = tU
  generalize hd2 tU = pv93_9, tl2 tU = tU
  generalize hd2 tU = pv93_8, tl2 tU = tU
  generalize hd2 tU = pv93_7
  intro pv93_6 pv93_5 pv93_4 pv93_3 pv93_2 pv93_1 qk ek
  k_steps
  refine Halt.at ?_
  refine Ctr.use (gput_ctr (rest := (lim, instObj 362 dl) :: (dl, liD ql md t1 ms t2) :: (st, instObj 311 ds) :: (ds, stD qs gr rl) :: (rl, listOf (rowsV stk).toArray nr) :: R) hS (by omega) hn hx c4 c6 c7 c5 b4 b6 b7 ?_ ?_) (news_sub (by k_asm) (by walk_at "perm")) ?_ ?_
  · exact (fmc (c6) ((fmc (c7) ((fmc (c1) ((fmc (c2) ((fmc (Ne.symm a5) (c8))))))))))
  · exact (fmc (b6) ((fmc (b7) ((fmc (b1) ((fmc (b2) ((fmc (Ne.symm a4) (b8))))))))))
  · refine rts_pppvEEn ?_
    intro n' ts' hm hl hb h' tk' F1 N1
    revert qk ek F1 N1
    revert n' ts' h' tk'
    refine @pick4 _ _ _ _ _ ?ne101 ?_
    (case ne101 => walk_at "ne")
    generalize ck4 _ = tU
    generalize hd2 tU = n', tl2 tU = tU
    generalize hd2 tU = ts', tl2 tU = tU
    generalize hd2 tU = h', tl2 tU = tk'
    intro qk ek F1 N1
    k_steps
    subst hRe
    rename News _ _ _ _ => NN
    rw [List.push_toArray] at NN
    obtain ⟨r, e1, e2, e3, hD', N'⟩ := sput_end (K := ⟨st, ds, rl, gr, dg, ol, lim, dl, qs, qg, ql, md, ms, t1, t2⟩) (tn := tn) (nr' := nr + 1) (no' := n') (sz' := sz + (x.length : Nat)) (ts' := ts') hD (news_sub NN (by walk_at "perm")) (by walk_at "alllt") (by with_reducible assumption) (by omega)
    exact hret _ _ _ _ ⟨hm, hl, hb, rfl, r, _, _, _, e1, e2, e3, hD', rfl⟩ (by k_asm) N'
  · rintro e C t vs newsX G h' tk' ⟨hC, rfl⟩ F1 R1 U1
    k_steps
    refine hexc _ _ _ _ _ _ _ _ ⟨hC, rfl⟩ (by assumption) (raisedS_sub (by assumption) ?_) (by assumption)
    subst hRe
    exact (fmc (.head _) ((fmc (.tail _ (.head _)) (fun p hp => .tail _ (.tail _ (.tail _ (.tail _ (.tail _ (List.mem_append_right _ hp)))))))))
end
end Mine
namespace Mine
theorem strsAre_snoc {vs : List Value} {ys : List Str} (h : StrsAre vs ys) (x : Str) (t : Tok) : StrsAre (vs ++ [Value.str x t]) (ys ++ [x]) := by
  induction h with
  | nil => exact .cons _ _ .nil
  | cons y t' _ ih => exact .cons _ _ ih
theorem leave_ctr {w : World} {mean : ExcName → Option Value} {mg mb : Str → Option Value} {gr dg lim ol : Addr} {rest : List (Addr × Obj)} {q : M3} {sz : Int} {ts : Tok} {vs : List Value} {v0 : Value} {n : Nat} 
    (hlen : vs.length < 100) (h1 : gr ≠ ol) (h4 : dg ≠ ol) (hr : ∀ p ∈ rest, p.1 ≠ ol) :
    Ctr w mean mg mb 2 224 [.ref gr] ((gr, instObj 234 dg) :: (dg, grD q lim sz ts ol) :: (ol, listOf (vs ++ [v0]).toArray n) :: rest)
      (fun v news' => v = .none ∧ ∃ n', news' = (gr, instObj 234 dg) :: (dg, grD q lim sz ts ol) :: (ol, listOf vs.toArray n') :: rest)
      (fun _ _ => False) := by
  walk_at "begin"
  have hR : IsRest rest := trivial
  intro dp un gd cn cs a ccd cl outer A₀ base h₀ L m s Q E B F X N T hk hd hu hret hexc
  refine wpAny_call ?_
  k_dflt cell_enter
  k_steps
  refine hret _ _ _ _ ?_ (by k_asm) (by k_asm)
  exact ⟨rfl, _, rfl⟩
end Mine
namespace Mine
section
variable {prog : Program} {w : World} {A : Around} {E : Value → Shared → Prop} {s : Shared}
theorem ne_snoc {l b : Addr} {vs : List Value} {v : Value} {Q : Value → Shared → Prop} (hl : s.heap.IsList l (vs ++ [v]).toArray) (hb : s.heap.IsList b ([] : List Value).toArray) (hu : A.units < cLine) (h : Q (.bool true) s) :
    wpAny (model prog w) A (compareOp .NotEq (.ref l) (.ref b)) Q E s := by
  refine ne_nil hl hb hu ?_
  have e : (!(vs ++ [v]).isEmpty) = true := by simp
  rw [e]; exact h
theorem ne_none {l b : Addr} {Q : Value → Shared → Prop} (hl : s.heap.IsList l ([] : List Value).toArray) (hb : s.heap.IsList b ([] : List Value).toArray) (hu : A.units < cLine) (h : Q (.bool false) s) :
    wpAny (model prog w) A (compareOp .NotEq (.ref l) (.ref b)) Q E s := ne_nil hl hb hu h
end
theorem rowsV_nil : rowsV [] = [] := rfl
theorem rowsO_nil : rowsO [] = [] := rfl
theorem popDone_over {r : Row} {stk : List Row} (h : r.a = r.x.length) : popDone (r :: stk) = popDone stk := by
  simp [popDone, Row.over, h]
theorem popDone_not {r : Row} {stk : List Row} (h : r.a ≠ r.x.length) : popDone (r :: stk) = r :: stk := by
  simp [popDone, Row.over, h]
theorem led_drop {K : Core} {nr no nr' no' : Nat} {sz : Int} {ts : Tok} {os os' : List Value} {r : Row} {stk : List Row} {rest : List (Addr × Obj)} (h : Dis (led K nr no sz ts os (r :: stk) rest)) : Dis (led K nr' no' sz ts os' stk rest) := by
  unfold led at h ⊢
  rw [rowsO_cons] at h
  exact dis_keys (dis_drop (A := head K nr no sz ts os (rowsV (r :: stk))) (B := [(r.p, instObj 276 r.d), (r.d, pdD r.q r.x r.tx (nmV r.nm) ((r.a : Nat) : Int) r.ta)]) (R := rowsO stk ++ rest) h) rfl
section
local macro_rules | `(tactic| walk_at "call ref") => `(tactic| (k_here; (first | (with_reducible show wpAny _ _ (call (Value.ref 259) _) _ _ _) | (with_reducible show wpAny _ _ (call (Value.ref 224) _) _ _ _)); refine Halt.go ?_))
local macro_rules | `(tactic| walk_at "compareOp NotEq ref ref") => `(tactic| (k_here; k_dflt (first | refine ne_none (News.isList (by k_asm) (by k_mem)) (News.isList (by k_asm) (by k_mem)) (by units_room) ?_ | refine ne_snoc (News.isList (by k_asm) (by k_mem)) (News.isList (by k_asm) (by k_mem)) (by units_room) ?_)))
local macro_rules | `(tactic| walk_at "subscriptTail Name UnaryOp ref int") => `(tactic| (k_here; k_dflt (refine item_last (News.isList (by k_asm) (by k_mem)) (by (first | lia | omega)) ?_)))
abbrev TInv (m : Str → Option Value) (K : Core) (sz : Int) (ts : Tok) (stk : List Row) (rest : List (Addr × Obj)) (n : Nat) (m₁ : Str → Option Value) (news₁ : List (Addr × Obj)) : Prop :=
  m₁ = m ∧ ∃ stk' nr' no' os', popDone stk' = popDone stk ∧ stk'.length < 50 ∧ (∀ r ∈ stk', r.x.length ≤ 1000) ∧ n = stk'.length ∧ StrsAre os' (opens stk') ∧ Dis (led K nr' no' sz ts os' stk' rest) ∧ news₁ = led K nr' no' sz ts os' stk' rest
theorem top_ctr {w : World} {mean : ExcName → Option Value} {mg mb : Str → Option Value} {K : Core} {nr no : Nat} {sz : Int} {ts : Tok} {os : List Value} {stk : List Row} {rest : List (Addr × Obj)}
    (hD : Dis (led K nr no sz ts os stk rest)) (hS : StrsAre os (opens stk)) (hlen : stk.length < 50) (hxs : ∀ r ∈ stk, r.x.length ≤ 1000) :
    Ctr w mean mg mb 5 301 [.ref K.st] (led K nr no sz ts os stk rest)
      (fun v news' => v = topV (popDone stk) ∧ ∃ nr' no' os', StrsAre os' (opens (popDone stk)) ∧ Dis (led K nr' no' sz ts os' (popDone stk) rest) ∧ news' = led K nr' no' sz ts os' (popDone stk) rest)
      (fun _ _ => False) := by
  generalize hL : led K nr no sz ts os stk rest = LL at *
  walk_at "begin"
  have hR : IsRest LL := trivial
  intro dp un gd cn cs a ccd cl outer A₀ base h₀ L m s Q E B F X N T hk hd hu hret hexc
  have dum30 : Unit := ()
  have dum31 : Unit := ()
  revert hS hlen hxs hL hD hR B F X N T hk hd hu hret hexc
  revert w mean mg mb K nr no sz ts os stk rest LL dp un gd cn cs a ccd cl outer A₀ base h₀ L m s Q E dum30 dum31
  refine @pick32 _ _ _ _ _ _ _ _ _ _ _ _ _ _ _ _ _ _ _ _ _ _ _ _ _ _ _ _ _ _ _ _ _ ?ne88 ?_
  (case ne88 => walk_at "ne")
  generalize ck32 _ = tU
  generalize hd2 tU = w, tl2 tU = tU
  generalize hd2 tU = mean, tl2 tU = tU
  generalize hd2 tU = mg, tl2 tU = tU
  generalize hd2 tU = mb, tl2 tU = tU
  generalize hd2 tU = K, tl2 tU = tU
  generalize hd2 tU = nr, tl2 tU = tU
  generalize hd2 tU = no, tl2 tU = tU
  generalize hd2 tU = sz, tl2 tU = tU
  generalize hd2 tU = ts, tl2 tU = tU
  generalize hd2 tU = os, tl2 tU = tU
  generalize hd2 tU = stk, tl2 tU = tU
  generalize hd2 tU = rest, tl2 tU = tU
  generalize hd2 tU = LL, tl2 tU = tU
  generalize hd2 tU = dp, tl2 tU = tU
  generalize hd2 tU = un, tl2 tU = tU
  generalize hd2 tU = gd, tl2 tU = tU
  generalize hd2 tU = cn, tl2 tU = tU
  generalize hd2 tU = cs, tl2 tU = tU
  generalize hd2 tU = a, tl2 tU = tU
  generalize hd2 tU = ccd, tl2 tU = tU
  generalize hd2 tU = cl, tl2 tU = tU
  generalize hd2 tU = outer, tl2 tU = tU
  generalize hd2 tU = A₀, tl2 tU = tU
  generalize hd2 tU = base, tl2 tU = tU
  generalize hd2 tU = h₀, tl2 tU = tU
  generalize hd2 tU = L, tl2 tU = tU
  generalize hd2 tU = m, tl2 tU = tU
  generalize hd2 tU = s, tl2 tU = tU
  generalize hd2 tU = Q, tl2 tU = tU
  generalize hd2 tU = E
  intro hS hlen hxs hL hD hR B F X N T hk hd hu hret hexc
  refine wpAny_call ?_
  k_dflt cell_enter
  rename_i pv91_9 pv91_8 pv91_7 pv91_6 pv91_5 pv91_4 pv91_3 pv91_2 pv91_1
  have dum3 : Unit := ()
  revert pv91_6 pv91_5 pv91_4 pv91_3 pv91_2 pv91_1 qk ek
  revert pv91_9 pv91_8 pv91_7 dum3
  refine @pick4 _ _ _ _ _ ?ne91 ?_
  (case ne91 => walk_at "ne")
  generalize ck4 _ = tU
  generalize hd2 tU = pv91_9, tl2 tU = tU
  generalize hd2 tU = pv91_8, tl2 tU = tU
  generalize hd2 tU = pv91_7
  intro pv91_6 pv91_5 pv91_4 pv91_3 pv91_2 pv91_1 qk ek
  k_steps
  refine Halt.at ?_
  rename Fr _ _ _ _ => F0
  rename News _ _ _ _ => N0
  refine While_inv2 (TInv _ K sz ts stk rest) F0 N0 ⟨rfl, stk, nr, no, os, rfl, hlen, hxs, rfl, hS, hL ▸ hD, hL.symm⟩ ?_ ?_
  · subst hL
    clear N0 F0 hS hlen hxs hD hR N
    intro n m₁ news₁ h₁ tk₁ F1 N1
    revert n
    refine rtw_pEEEEpppvppp ?_
    intro stk' nr' no' os' hm1 hpd hlen hxs hS hD hnw
    replace F1 := fr_eq2 F1 hm1
    replace N1 := news_eq N1 hnw
    clear hnw hm1
    cases stk' with
    | nil =>
      unfold led at N1
      rw [rowsV_nil, rowsO_nil] at N1
      dsimp only [List.cons_append, List.nil_append] at N1
      have hR : IsRest rest := trivial
      k_steps
      refine hret _ _ _ _ ⟨by rw [← hpd]; rfl, nr', no', os', hpd ▸ hS, hpd ▸ hD, rfl⟩ (by k_asm) ?_
      rw [← hpd]
      refine news_sub (by k_asm) ?_
      unfold led popDone
      rw [rowsV_nil, rowsO_nil]
      walk_at "perm"
    | cons r stk' =>
      have hrv := rowsV_len stk'
      have hlen' : stk'.length < 49 := Nat.lt_of_succ_lt_succ hlen
      have hDt := led_drop (nr' := nr' + 1) (no' := no') (os' := os') hD
      have hnn := ledNe hD
      have hx : r.x.length ≤ 1000 := hxs r (.head _)
      obtain ⟨rp, rd, rq, rx, rtx, rnm, ra, rta⟩ := r
      unfold led at N1
      rw [rowsV_cons, rowsO_cons] at N1
      dsimp only [List.cons_append, List.nil_append] at N1
      obtain ⟨a1, a2, a3, a4, a5, a6, a7, b1, b2, b4, b6, b7, c1, c2, c4, c5, c6, c7, a8, b8, c8⟩ := hnn
      rw [rowsO_cons] at a8 b8 c8
      simp only [List.cons_append, List.forall_mem_cons] at a8 b8 c8
      refine rtx_ppp ?_ (a8)
      intro y1 y2 a8
      refine rtx_ppp ?_ (b8)
      intro y3 y4 b8
      refine rtx_ppp ?_ (c8)
      intro y5 y6 c8
      generalize hRe : rowsO stk' ++ rest = R at N1 a8 b8 c8
      have hR : IsRest R := trivial
      rename_i pv142_3 pv142_2 pv142_1
      have dum15 : Unit := ()
      have dum16 : Unit := ()
      have dum17 : Unit := ()
      revert qk ek F1 hrv hlen' hDt hpd hlen hxs hS hD hx pv142_3 pv142_2 pv142_1 y1 y2 y3 y4 y5 y6 hRe N1 a8 b8 c8 hR
      revert h₁ tk₁ nr' no' os' stk' rp rd rq rx rtx rnm ra rta R dum15 dum16 dum17
      refine @pick18 _ _ _ _ _ _ _ _ _ _ _ _ _ _ _ _ _ _ _ ?ne142 ?_
      (case ne142 => walk_at "ne")
      generalize ck18 _ = tU
      generalize hd2 tU = h₁, tl2 tU = tU
      generalize hd2 tU = tk₁, tl2 tU = tU
      generalize hd2 tU = nr', tl2 tU = tU
      generalize hd2 tU = no', tl2 tU = tU
      generalize hd2 tU = os', tl2 tU = tU
      generalize hd2 tU = stk', tl2 tU = tU
      generalize hd2 tU = rp, tl2 tU = tU
      generalize hd2 tU = rd, tl2 tU = tU
      generalize hd2 tU = rq, tl2 tU = tU
      generalize hd2 tU = rx, tl2 tU = tU
      generalize hd2 tU = rtx, tl2 tU = tU
      generalize hd2 tU = rnm, tl2 tU = tU
      generalize hd2 tU = ra, tl2 tU = tU
      generalize hd2 tU = rta, tl2 tU = tU
      generalize hd2 tU = R
      intro qk ek F1 hrv hlen' hDt hpd hlen hxs hS hD hx pv142_3 pv142_2 pv142_1 y1 y2 y3 y4 y5 y6 hRe N1 a8 b8 c8 hR
      k_steps
      refine Halt.at ?_
      refine Ctr.use (is_over_ctr (rest := (K.st, instObj 311 K.ds) :: (K.ds, stD K.qs K.gr K.rl) :: (K.rl, listOf (rowsV stk' ++ [Value.ref rp]).toArray nr') :: (K.gr, instObj 234 K.dg) :: (K.dg, grD K.qg K.lim sz ts K.ol) :: (K.ol, listOf os'.toArray no') :: (K.lim, instObj 362 K.dl) :: (K.dl, liD K.ql K.md K.t1 K.ms K.t2) :: R) hx) (news_sub (by k_asm) (by walk_at "perm")) ?_ ?_
      · refine rts_vn ?_
        intro h' tk' F1 N1
        rename_i pv148_6 pv148_5 pv148_4 pv148_3 pv148_2 pv148_1
        revert qk ek pv148_4 pv148_3 pv148_2 pv148_1 F1 N1
        revert pv148_6 pv148_5 h' tk'
        refine @pick4 _ _ _ _ _ ?ne148 ?_
        (case ne148 => walk_at "ne")
        generalize ck4 _ = tU
        generalize hd2 tU = pv148_6, tl2 tU = tU
        generalize hd2 tU = pv148_5, tl2 tU = tU
        generalize hd2 tU = h', tl2 tU = tk'
        intro qk ek pv148_4 pv148_3 pv148_2 pv148_1 F1 N1
        cases rnm with
        | none =>
          rw [opens_none rfl] at hS
          k_steps
          · rename (_ = _) => hov
            rw [popDone_over (Int.ofNat_inj.mp (by simpa using hov))] at hpd
            refine ⟨_, _, _, led K (nr' + 1) no' sz ts os' stk' rest, stk'.length, rfl, by k_asm, ?_, Nat.lt_succ_self _, rfl, stk', _, no', os', hpd, Nat.lt_of_succ_lt hlen, fun r hr => hxs r (.tail _ hr), rfl, hS, led_drop hD, rfl⟩
            refine news_sub (by k_asm) ?_
            unfold led
            rw [hRe]
            walk_at "perm"
          · rename (¬ _) => hov
            rw [popDone_not (fun e => hov (by simpa using congrArg Int.ofNat e))] at hpd
            rw [← hpd] at hret
            refine hret _ _ _ _ ⟨rfl, nr', no', os', by rw [opens_none rfl]; exact hS, hD, rfl⟩ (by k_asm) ?_
            refine news_sub (by k_asm) ?_
            unfold led
            rw [rowsV_cons, rowsO_cons]
            dsimp only [List.cons_append, List.nil_append]
            rw [hRe]
            walk_at "perm"
        | some n =>
          rw [opens_some rfl] at hS
          obtain ⟨os0, t0, rfl, hS2⟩ := strsAre_unsnoc hS
          have ho0 := strsAre_len hS2
          have hol := opens_le stk'
          k_steps
          · rename (_ = _) => hov
            rw [popDone_over (Int.ofNat_inj.mp (by simpa using hov))] at hpd
            refine Halt.at ?_
            refine Ctr.use (leave_ctr (vs := os0) (rest := (K.st, instObj 311 K.ds) :: (K.ds, stD K.qs K.gr K.rl) :: (K.rl, listOf (rowsV stk').toArray (nr' + 1)) :: (K.lim, instObj 362 K.dl) :: (K.dl, liD K.ql K.md K.t1 K.ms K.t2) :: R) (by (first | lia | omega)) c4 c5 ?_) (news_sub (by k_asm) (by walk_at "perm")) ?_ ?_
            · exact (fmc (c1) ((fmc (c2) ((fmc (Ne.symm a5) ((fmc (c6) ((fmc (c7) (c8))))))))))
            · refine rts_vEn ?_
              intro n' h' tk' F1 N1
              rename_i pv183_4 pv183_3 pv183_2 pv183_1
              revert qk ek hlen hxs hx hS2 hDt hS hD pv148_3 pv183_4 ho0 hov pv183_2 pv183_1 F1 N1
              revert n os0 t0 pv183_3 tk n' h' tk'
              refine @pick8 _ _ _ _ _ _ _ _ _ ?ne183 ?_
              (case ne183 => walk_at "ne")
              generalize ck8 _ = tU
              generalize hd2 tU = n, tl2 tU = tU
              generalize hd2 tU = os0, tl2 tU = tU
              generalize hd2 tU = t0, tl2 tU = tU
              generalize hd2 tU = pv183_3, tl2 tU = tU
              generalize hd2 tU = tk, tl2 tU = tU
              generalize hd2 tU = n', tl2 tU = tU
              generalize hd2 tU = h', tl2 tU = tk'
              intro qk ek hlen hxs hx hS2 hDt hS hD pv148_3 pv183_4 ho0 hov pv183_2 pv183_1 F1 N1
              k_steps
              refine ⟨_, _, _, led K (nr' + 1) n' sz ts os0 stk' rest, stk'.length, rfl, by k_asm, ?_, Nat.lt_succ_self _, rfl, stk', _, n', os0, hpd, Nat.lt_of_succ_lt hlen, fun r hr => hxs r (.tail _ hr), rfl, hS2, led_drop hD, rfl⟩
              refine news_sub (by k_asm) ?_
              unfold led
              rw [hRe]
              walk_at "perm"
            · rintro _ _ _ _ _ _ _ _ ⟨⟩
          · rename (¬ _) => hov
            rw [popDone_not (fun e => hov (by simpa using congrArg Int.ofNat e))] at hpd
            rw [← hpd] at hret
            refine hret _ _ _ _ ⟨rfl, nr', no', _, by rw [opens_some rfl]; exact hS, hD, rfl⟩ (by k_asm) ?_
            refine news_sub (by k_asm) ?_
            unfold led
            rw [rowsV_cons, rowsO_cons]
            dsimp only [List.cons_append, List.nil_append]
            rw [hRe]
            walk_at "perm"
      · rintro _ _ _ _ _ _ _ _ ⟨⟩
  · passes_own
end
end Mine
namespace Mine
structure M4 where
  a : Int
  a' : Tok
  b : Int
  b' : Tok
  c : Int
  c' : Tok
  d : Int
  d' : Tok
/-- the name of the entity of a number -/
def en (k : Nat) : Str := ⟨#[101, 48 + k]⟩
abbrev tbD (q : M4) (lim ou gd pa : Addr) : Obj := dictOf [⟨q.a, .str "limits" q.a', .ref lim⟩, ⟨q.b, .str "outer" q.b', .ref ou⟩, ⟨q.c, .str "general" q.c', .ref gd⟩, ⟨q.d, .str "parameters" q.d', .ref pa⟩] 4
abbrev enD (q : M4) (nm : Str) (tn : Tok) (x : Str) (tx : Tok) : Obj := dictOf [⟨q.a, .str "name" q.a', .str nm tn⟩, ⟨q.b, .str "value" q.b', .str x tx⟩, ⟨q.c, .str "system" q.c', .none⟩, ⟨q.d, .str "notation" q.d', .none⟩] 4
section
local macro_rules | `(tactic| walk_at "compareOp NotIn str ref") => `(tactic| (k_here; k_dflt (refine kdg_notin (knd := PySem.strKind _ _) (by k_asm) (by k_mem) (by with_reducible assumption) (by with_reducible assumption) (strKind_is _ _ _ _) true (by with_reducible assumption) ?_)))
local macro_rules | `(tactic| walk_at "getItem ref str") => `(tactic| (k_here; k_dflt (refine wpAny_getItem_of (knd := PySem.strKind _ _) (strKind_is _ _ _ _) (kda_dict (by k_asm) (by k_mem) (by with_reducible assumption)).mapOf (by with_reducible assumption) ?_)))
theorem inner_ctr {w : World} {mean : ExcName → Option Value} {mg mb : Str → Option Value} {tb td lim ou gn pa ep ed : Addr} {rest : List (Addr × Obj)} {q q2 : M4} {o : Obj} {kvs : List (Str × Value)} {nm x : Str} {tn tn2 tx : Tok}
    (hd : o.IsDictOf (PySem.strKind PG w) kvs) (hlo : (gn == sysModules) = false) (hv : valueAt kvs nm = some (.ref ep)) (hs : (valueAt kvs nm).isSome = true) :
    Ctr w mean mg mb 10 487 [.ref tb, .str nm tn] ((tb, instObj 497 td) :: (td, tbD q lim ou gn pa) :: (gn, o) :: (ep, instObj 397 ed) :: (ed, enD q2 nm tn2 x tx) :: rest)
      (fun v news' => v = .str x tx ∧ news' = (tb, instObj 497 td) :: (td, tbD q lim ou gn pa) :: (gn, o) :: (ep, instObj 397 ed) :: (ed, enD q2 nm tn2 x tx) :: rest)
      (fun _ _ => False) := by
  walk_at "begin"
  have hR : IsRest rest := trivial
  intro dp un gd cn cs a ccd cl outer A₀ base h₀ L m s Q E B F X N T hk hdp hu hret hexc
  have dum39 : Unit := ()
  have dum40 : Unit := ()
  have dum41 : Unit := ()
  have dum42 : Unit := ()
  have dum43 : Unit := ()
  revert hd hlo hv hs hR B F X N T hk hdp hu hret hexc
  revert w mean mg mb tb td lim ou gn pa ep ed rest q q2 o kvs nm x tn tn2 tx dp un gd cn cs a ccd cl outer A₀ base h₀ L m s Q E dum39 dum40 dum41 dum42 dum43
  refine @pick44 _ _ _ _ _ _ _ _ _ _ _ _ _ _ _ _ _ _ _ _ _ _ _ _ _ _ _ _ _ _ _ _ _ _ _ _ _ _ _ _ _ _ _ _ _ ?ne76 ?_
  (case ne76 => walk_at "ne")
  generalize ck44 _ = tU
  generalize hd2 tU = w, tl2 tU = tU
  generalize hd2 tU = mean, tl2 tU = tU
  generalize hd2 tU = mg, tl2 tU = tU
  generalize hd2 tU = mb, tl2 tU = tU
  generalize hd2 tU = tb, tl2 tU = tU
  generalize hd2 tU = td, tl2 tU = tU
  generalize hd2 tU = lim, tl2 tU = tU
  generalize hd2 tU = ou, tl2 tU = tU
  generalize hd2 tU = gn, tl2 tU = tU
  generalize hd2 tU = pa, tl2 tU = tU
  generalize hd2 tU = ep, tl2 tU = tU
  generalize hd2 tU = ed, tl2 tU = tU
  generalize hd2 tU = rest, tl2 tU = tU
  generalize hd2 tU = q, tl2 tU = tU
  generalize hd2 tU = q2, tl2 tU = tU
  generalize hd2 tU = o, tl2 tU = tU
  generalize hd2 tU = kvs, tl2 tU = tU
  generalize hd2 tU = nm, tl2 tU = tU
  generalize hd2 tU = x, tl2 tU = tU
  generalize hd2 tU = tn, tl2 tU = tU
  generalize hd2 tU = tn2, tl2 tU = tU
  generalize hd2 tU = tx, tl2 tU = tU
  generalize hd2 tU = dp, tl2 tU = tU
  generalize hd2 tU = un, tl2 tU = tU
  generalize hd2 tU = gd, tl2 tU = tU
  generalize hd2 tU = cn, tl2 tU = tU
  generalize hd2 tU = cs, tl2 tU = tU
  generalize hd2 tU = a, tl2 tU = tU
  generalize hd2 tU = ccd, tl2 tU = tU
  generalize hd2 tU = cl, tl2 tU = tU
  generalize hd2 tU = outer, tl2 tU = tU
  generalize hd2 tU = A₀, tl2 tU = tU
  generalize hd2 tU = base, tl2 tU = tU
  generalize hd2 tU = h₀, tl2 tU = tU
  generalize hd2 tU = L, tl2 tU = tU
  generalize hd2 tU = m, tl2 tU = tU
  generalize hd2 tU = s, tl2 tU = tU
  generalize hd2 tU = Q, tl2 tU = tU
  generalize hd2 tU = E
  intro hd hlo hv hs hR B F X N T hk hdp hu hret hexc
  refine wpAny_call ?_
  k_dflt cell_enter
  rename_i pv79_9 pv79_8 pv79_7 pv79_6 pv79_5 pv79_4 pv79_3 pv79_2 pv79_1
  have dum3 : Unit := ()
  revert pv79_6 pv79_5 pv79_4 pv79_3 pv79_2 pv79_1 qk ek
  revert pv79_9 pv79_8 pv79_7 dum3
  refine @pick4 _ _ _ _ _ ?ne79 ?_
  (case ne79 => walk_at "ne")
  generalize ck4 _ = tU
  generalize hd2 tU = pv79_9, tl2 tU = tU
  generalize hd2 tU = pv79_8, tl2 tU = tU
  generalize hd2 tU = pv79_7
  intro pv79_6 pv79_5 pv79_4 pv79_3 pv79_2 pv79_1 qk ek
  k_steps
  exact hret _ _ _ _ ⟨rfl, rfl⟩ (by k_asm) (by k_asm)
end
/-- a table of entities: what of it stands in a ledger -/
def IsTab (w : World) (tb lim : Addr) (n : Nat) (txt : Nat → Str) (rest : List (Addr × Obj)) : Prop :=
  ∃ td q ou gn pa o kvs, (tb, instObj 497 td) ∈ rest ∧ (td, tbD q lim ou gn pa) ∈ rest ∧ (gn, o) ∈ rest ∧ (gn == sysModules) = false ∧ o.IsDictOf (PySem.strKind PG w) kvs ∧
    ∀ k < n, ∃ ep ed q2 tn tx, valueAt kvs (en k) = some (.ref ep) ∧ (ep, instObj 397 ed) ∈ rest ∧ (ed, enD q2 (en k) tn (txt k) tx) ∈ rest
theorem IsTab.mono {w : World} {tb lim : Addr} {n : Nat} {txt : Nat → Str} {rest rest' : List (Addr × Obj)} (h : IsTab w tb lim n txt rest) (hs : ∀ p ∈ rest, p ∈ rest') : IsTab w tb lim n txt rest' := by
  obtain ⟨td, q, ou, gn, pa, o, kvs, h1, h2, h3, h4, h5, h6⟩ := h
  refine ⟨td, q, ou, gn, pa, o, kvs, hs _ h1, hs _ h2, hs _ h3, h4, h5, fun k hk => ?_⟩
  obtain ⟨ep, ed, q2, tn, tx, a, b, c⟩ := h6 k hk
  exact ⟨ep, ed, q2, tn, tx, a, hs _ b, hs _ c⟩
theorem inner_tab {w : World} {mean : ExcName → Option Value} {mg mb : Str → Option Value} {tb lim : Addr} {n k : Nat} {txt : Nat → Str} {news : List (Addr × Obj)} {tn : Tok} (hT : IsTab w tb lim n txt news) (hk : k < n) :
    Ctr w mean mg mb 10 487 [.ref tb, .str (en k) tn] news (fun v news' => ∃ tx, v = .str (txt k) tx ∧ news' = news) (fun _ _ => False) := by
  obtain ⟨td, q, ou, gn, pa, o, kvs, h1, h2, h3, h4, h5, h6⟩ := hT
  obtain ⟨ep, ed, q2, tn2, tx, a, b, c⟩ := h6 k hk
  intro dp un gd cn cs ad ccd cl outer A₀ base h₀ L m s Q E B F X N T hkd hdp hu hret hexc
  refine inner_ctr (rest := news) (lim := lim) (td := td) (ed := ed) (x := txt k) (tn2 := tn2) (q := q) (q2 := q2) (tx := tx) (ou := ou) (pa := pa) h5 h4 a (by rw [a]; rfl) dp un gd cn cs ad ccd cl outer A₀ base h₀ L m s Q E B F X ?_ T hkd hdp hu ?_ ?_
  · intro p hp
    simp only [List.mem_cons] at hp
    rcases hp with rfl | rfl | rfl | rfl | rfl | hp
    · exact N _ h1
    · exact N _ h2
    · exact N _ h3
    · exact N _ b
    · exact N _ c
    · exact N _ hp
  · refine rts_vn ?_
    intro h' tk' F1 N1
    revert hk h1 h2 h3 h4 h5 h6 a b c B F X N T hkd hret hexc F1 N1
    revert w mean mg mb tb lim n k txt news td q ou gn pa o kvs ep ed q2 tn2 tx cn cs ad ccd cl outer A₀ base h₀ L m s Q E h' tk'
    refine @pick38 _ _ _ _ _ _ _ _ _ _ _ _ _ _ _ _ _ _ _ _ _ _ _ _ _ _ _ _ _ _ _ _ _ _ _ _ _ _ _ ?ne109 ?_
    (case ne109 => walk_at "ne")
    generalize ck38 _ = tU
    generalize hd2 tU = w, tl2 tU = tU
    generalize hd2 tU = mean, tl2 tU = tU
    generalize hd2 tU = mg, tl2 tU = tU
    generalize hd2 tU = mb, tl2 tU = tU
    generalize hd2 tU = tb, tl2 tU = tU
    generalize hd2 tU = lim, tl2 tU = tU
    generalize hd2 tU = n, tl2 tU = tU
    generalize hd2 tU = k, tl2 tU = tU
    generalize hd2 tU = txt, tl2 tU = tU
    generalize hd2 tU = news, tl2 tU = tU
    generalize hd2 tU = td, tl2 tU = tU
    generalize hd2 tU = q, tl2 tU = tU
    generalize hd2 tU = ou, tl2 tU = tU
    generalize hd2 tU = gn, tl2 tU = tU
    generalize hd2 tU = pa, tl2 tU = tU
    generalize hd2 tU = o, tl2 tU = tU
    generalize hd2 tU = kvs, tl2 tU = tU
    generalize hd2 tU = ep, tl2 tU = tU
    generalize hd2 tU = ed, tl2 tU = tU
    generalize hd2 tU = q2, tl2 tU = tU
    generalize hd2 tU = tn2, tl2 tU = tU
    generalize hd2 tU = tx, tl2 tU = tU
    generalize hd2 tU = cn, tl2 tU = tU
    generalize hd2 tU = cs, tl2 tU = tU
    generalize hd2 tU = ad, tl2 tU = tU
    generalize hd2 tU = ccd, tl2 tU = tU
    generalize hd2 tU = cl, tl2 tU = tU
    generalize hd2 tU = outer, tl2 tU = tU
    generalize hd2 tU = A₀, tl2 tU = tU
    generalize hd2 tU = base, tl2 tU = tU
    generalize hd2 tU = h₀, tl2 tU = tU
    generalize hd2 tU = L, tl2 tU = tU
    generalize hd2 tU = m, tl2 tU = tU
    generalize hd2 tU = s, tl2 tU = tU
    generalize hd2 tU = Q, tl2 tU = tU
    generalize hd2 tU = E, tl2 tU = tU
    generalize hd2 tU = h', tl2 tU = tk'
    intro hk h1 h2 h3 h4 h5 h6 a b c B F X N T hkd hret hexc F1 N1
    exact hret _ _ _ _ ⟨tx, rfl, rfl⟩ F1 (news_sub N1 fun p hp => .tail _ (.tail _ (.tail _ (.tail _ (.tail _ hp)))))
  · rintro _ _ _ _ _ _ _ _ ⟨⟩
end Mine
namespace Mine
theorem en_inj {a b : Nat} : en a = en b ↔ a = b := by
  constructor
  · intro h
    have := congrArg (fun s : Str => s.cps.toList) h
    simp [en] at this
    exact this
  · intro h; rw [h]
section
variable {T : Nat → List It} {md ms : Int} {o : Out}
/-- a row of the stack and what is left of it -/
structure RowIs (n : Nat) (r : Row) (p : PRow) : Prop where
  nm : r.nm.map (·.1) = p.1.map en
  cut : ∃ pre, r.x.cps.toList = pre ++ cpsOf p.2 ∧ r.a = pre.length
  ok : ∀ i ∈ p.2, i.ok n
  len : r.x.length ≤ 1000
inductive Rows (n : Nat) : List Row → List PRow → Prop
  | nil : Rows n [] []
  | cons {r : Row} {p : PRow} {stk : List Row} {ps : List PRow} (h : RowIs n r p) (t : Rows n stk ps) : Rows n (r :: stk) (p :: ps)
theorem RowIs.over {n : Nat} {r : Row} {p : PRow} (h : RowIs n r p) : r.a = r.x.length ↔ p.2 = [] := by
  obtain ⟨pre, e, ea⟩ := h.cut
  have hl : r.x.length = pre.length + (cpsOf p.2).length := by rw [len_is, e, List.length_append]
  constructor
  · intro hh
    exact cpsOf_nil (List.eq_nil_of_length_eq_zero (by (first | lia | omega)))
  · intro hh
    rw [hl, hh, ea]
    rfl
theorem Rows.len {n : Nat} {stk : List Row} {ps : List PRow} (h : Rows n stk ps) : stk.length = ps.length := by
  induction h with
  | nil => rfl
  | cons _ _ ih => simp [ih]
theorem Rows.short {n : Nat} {stk : List Row} {ps : List PRow} (h : Rows n stk ps) : ∀ r ∈ stk, r.x.length ≤ 1000 := by
  induction h with
  | nil => simp
  | cons h _ ih => exact (fmc (h.len) (ih))
theorem Rows.opens {n : Nat} {stk : List Row} {ps : List PRow} (h : Rows n stk ps) : opens stk = (ops ps).reverse.map en := by
  have dum3 : Unit := ()
  revert h
  revert n stk ps dum3
  refine @pick4 _ _ _ _ _ ?ne90 ?_
  (case ne90 => walk_at "ne")
  generalize ck4 _ = tU
  generalize hd2 tU = n, tl2 tU = tU
  generalize hd2 tU = stk, tl2 tU = tU
  generalize hd2 tU = ps
  intro h
  induction h with
  | nil => rfl
  | @cons r p stk ps h t ih =>
    obtain ⟨p1, p2⟩ := p
    have hn := h.nm
    cases p1 with
    | none =>
      have e : r.nm = none := by simpa using hn
      rw [opens_none e, ih]; rfl
    | some k =>
      cases e : r.nm with
      | none => rw [e] at hn; simp at hn
      | some m =>
        rw [e] at hn
        simp at hn
        rw [opens_some e, ih, hn]
        simp [ops]
theorem Rows.mem {n : Nat} {stk : List Row} {ps : List PRow} (h : Rows n stk ps) (k : Nat) : en k ∈ Mine.opens stk ↔ k ∈ ops ps := by
  rw [h.opens, List.mem_map]
  constructor
  · rintro ⟨j, hj, e⟩
    rw [en_inj] at e
    subst e
    exact List.mem_reverse.mp hj
  · intro hk
    exact ⟨k, List.mem_reverse.mpr hk, rfl⟩
theorem Rows.count {n : Nat} {stk : List Row} {ps : List PRow} (h : Rows n stk ps) : (Mine.opens stk).length = (ops ps).length := by
  rw [h.opens, List.length_map, List.length_reverse]
def Inv (ps : List PRow) : Prop := ps.length ≤ (ops ps).length + 1 ∧ (ops ps).length ≤ 20
theorem Rows.pop {n : Nat} {stk : List Row} {ps : List PRow} (h : Rows n stk ps) : ∀ {m : Nat} {sz : Int} {f : List Nat}, Ev T md ms o m ps sz f → Inv ps →
    ∃ m' ps', m' ≤ m ∧ Rows n (popDone stk) ps' ∧ Ev T md ms o m' ps' sz f ∧ Inv ps' := by
  have dum7 : Unit := ()
  revert h
  revert T md ms o n stk ps dum7
  refine @pick8 _ _ _ _ _ _ _ _ _ ?ne122 ?_
  (case ne122 => walk_at "ne")
  generalize ck8 _ = tU
  generalize hd2 tU = T, tl2 tU = tU
  generalize hd2 tU = md, tl2 tU = tU
  generalize hd2 tU = ms, tl2 tU = tU
  generalize hd2 tU = o, tl2 tU = tU
  generalize hd2 tU = n, tl2 tU = tU
  generalize hd2 tU = stk, tl2 tU = tU
  generalize hd2 tU = ps
  intro h
  induction h with
  | nil => intro m sz f e i; exact ⟨m, [], Nat.le_refl _, .nil, e, i⟩
  | @cons r p stk ps h t ih =>
    intro m sz f e i
    by_cases hov : r.a = r.x.length
    · rw [popDone_over hov]
      have hp := h.over.mp hov
      obtain ⟨p1, p2⟩ := p
      subst hp
      cases e with
      | pop e =>
        have i' : Inv ps := by
          obtain ⟨i1, i2⟩ := i
          cases p1 with
          | none =>
            simp only [ops, List.filterMap_cons_none, List.length_cons] at i1 i2
            exact ⟨by unfold ops; (first | lia | omega), i2⟩
          | some k =>
            have e : List.filterMap (fun x : PRow => x.fst) ((some k, []) :: ps) = k :: List.filterMap (fun x : PRow => x.fst) ps := rfl
            simp only [ops, e, List.length_cons] at i1 i2
            exact ⟨by unfold ops; (first | lia | omega), by unfold ops; (first | lia | omega)⟩
        obtain ⟨m', ps', h1, h2, h3, h4⟩ := ih e i'
        exact ⟨m', ps', by (first | lia | omega), h2, h3, h4⟩
    · rw [popDone_not hov]
      exact ⟨m, p :: ps, Nat.le_refl _, .cons h t, e, i⟩
end
end Mine
namespace Mine
section
variable {prog : Program} {w : World} {A : Around} {E : Value → Shared → Prop} {s : Shared} {env : Env} {h₀ : Heap} {x : Str} {body : List Stmt} {Q : Flow → Shared → Prop} {σ : Type}
/-- what holds at a turn's end, the count of names given included -/
def TurnT (h₀ : Heap) (L : Addr) (mσ : σ → Str → Option Value) (Nσ : σ → List (Addr × Obj)) (P : Nat → σ → Prop) (x : Str) (own : List (Addr × Obj)) (s₁ : Shared) (Q : Flow → Shared → Prop) (f : Flow) (s₂ : Shared) : Prop :=
  match f with
  | .ret v => Q (.ret v) s₂
  | .brk => Q .next s₂
  | _ => ∃ h' tk m' news' c, s₂ = { s₁ with heap := h', toks := tk } ∧ Fr h₀ L h' m' ∧ News h₀ L h' news' ∧ (∀ p ∈ Nσ c, p ∈ news') ∧ (∀ p ∈ own, p ∈ news') ∧ OwnOff own ((Nσ c).map (·.1)) ∧ (∀ y, y ≠ x → m' y = mσ c y) ∧ P tk c
theorem turnT_end {L : Addr} {mσ : σ → Str → Option Value} {Nσ : σ → List (Addr × Obj)} {P : Nat → σ → Prop} {own news' : List (Addr × Obj)} {s₁ : Shared} {m' : Str → Option Value} {h' : Heap} {tk : Nat} (c : σ)
    (F : Fr h₀ L h' m') (N : News h₀ L h' news') (hm : ∀ y, y ≠ x → m' y = mσ c y) (hp : P tk c) (ha : OwnOff own ((Nσ c).map (·.1))) (hn : ∀ p ∈ Nσ c, p ∈ news') (ho : ∀ p ∈ own, p ∈ news') : TurnT h₀ L mσ Nσ P x own s₁ Q .next { s₁ with heap := h', toks := tk } :=
  ⟨h', tk, m', news', c, rfl, F, N, hn, ho, ha, hm, hp⟩
abbrev LoopT (prog : Program) (w : World) (A : Around) (x : Str) (px : Pos) (body : List Stmt) (env : Env) (Q : Flow → Shared → Prop) (E : Value → Shared → Prop) (it : Value) (s₂ : Shared) : Prop :=
  codeAny (model prog w) A (.forLoop (.Name x px) it body [] env) (fun r s' => match r with | .ok f => Q f s' | .error e => cameBackBy (model prog w) A env E e s') s₂
theorem For_T {px pos : Pos} {iter : Expr} (h : wpAny (model prog w) A (eval iter env) (fun xv s₁ => wpAny (model prog w) A (pyIter xv) (fun it s₂ => LoopT prog w A x px body env Q E it s₂) E s₁) E s)
    (hs : ∀ x, foldedSetIterable iter env x = pure x := by intro _; rfl) : wpAny (model prog w) A (exec (.For (.Name x px) iter body [] pos) env) Q E s := wpAny_For h hs
theorem for_rangeT {px : Pos} {r : Addr} {a b c₁ : Int} {t₀ u₀ v₀ : Tok} {n : Nat} {m₀ : Str → Option Value} (mσ : σ → Str → Option Value) (Nσ : σ → List (Addr × Obj)) (P : Nat → Nat → σ → Prop) (c₀ : σ)
    (hx : env.kindOf x = some .local) (hpl : (env.scope.kind == .class || (env.scope.kind == .module && env.locals != env.globals)) = false) (hE : PassesOwn (model prog w) A env E)
    (hmono : ∀ i k k' c, k ≤ k' → P i k c → P i k' c)
    (hh : A.handled = none) (hr : IsRange s.heap r a b c₁ t₀ u₀ v₀) (hsmall : Builtin.Range.small a b c₁ = true) (hn : Builtin.Range.rangeSize a b c₁ = (n : Int)) (F : Fr h₀ env.locals s.heap m₀) (N : News h₀ env.locals s.heap (Nσ c₀)) (hm : m₀ = mσ c₀) (hp : P 0 s.toks c₀)
    (turn : ∀ (c : σ) (i : Nat) t h tk own, i < n → OwnOff own ((Nσ c).map (·.1)) → P i tk c → Fr h₀ env.locals h (fun y => if y = x then some (.int (a + i * c₁) t) else mσ c y) → News h₀ env.locals h (Nσ c ++ own) →
      wpAny (model prog w) A (execs body env) (TurnT h₀ env.locals mσ Nσ (P (i + 1)) x own { s with heap := h, toks := tk } Q) E { s with heap := h, toks := tk })
    (done : ∀ (c : σ) (u : Str → Option Value) h tk, P n tk c → Fr h₀ env.locals h (fun y => if y = x then u y else mσ c y) → News h₀ env.locals h (Nσ c) → Q .next { s with heap := h, toks := tk }) :
    wpAny (model prog w) A (pyIter (.ref r)) (fun it s₂ => LoopT prog w A x px body env Q E it s₂) E s := by
  subst hm
  refine wpAny_pyIter_range hr hsmall ?_
  have hIL : env.locals ≠ s.heap.objs.size := Nat.ne_of_lt F.ns.lt
  have hI0 := next_is_new F
  have hNI : ∀ b ∈ (Nσ c₀).map (·.1), b ≠ s.heap.objs.size := by
    intro b hb
    obtain ⟨p, hp, rfl⟩ := List.mem_map.mp hb
    exact Nat.ne_of_lt (Heap.lt_size (N p hp).1)
  refine codeAny_forLoop (fun k s' => ∃ h' tk m' c i, s' = { s with heap := h', toks := tk } ∧ IsRangeIter h' s.heap.objs.size (a + (i : Nat) * c₁) ((n : Int) - (i : Nat)) c₁ ∧ Fr h₀ env.locals h' m' ∧ (∀ y, y ≠ x → m' y = mσ c y) ∧ News h₀ env.locals h' (Nσ c) ∧ (∀ b ∈ (Nσ c).map (·.1), b ≠ s.heap.objs.size) ∧ P i tk c ∧ i ≤ n ∧ k = n + 1 - i) ?_ (n + 1)
    ⟨_, s.toks, mσ c₀, c₀, 0, rfl, ?_, F.push _, fun _ _ => rfl, fun p hp => ⟨Heap.get?_push_of_some _ (N p hp).1, (N p hp).2⟩, hNI, hp, Nat.zero_le _, rfl⟩
  · rintro k s' ⟨h', tk, m', c, i, rfl, hit, F', hm', N', hadr, hP, hi, rfl⟩
    have hNI' : ∀ p ∈ Nσ c, p.1 ≠ s.heap.objs.size := fun p hp => hadr _ (List.mem_map_of_mem hp)
    by_cases hlt : i < n
    · refine wpAny_pyNext_range_item hit (by (first | lia | omega)) fun h₁ hit₁ hs₁ => ?_
      have F₁ : Fr h₀ env.locals h₁ m' := ⟨F'.ns.sameBut hs₁ hIL, fun b o e => (hs₁.2 b fun q => by rw [q, hI0] at e; cases e).trans (F'.keep b o e), F'.above⟩
      have N₁ : News h₀ env.locals h₁ (Nσ c) := fun p hp => ⟨(hs₁.2 p.1 (hNI' p hp)).trans (N' p hp).1, (N' p hp).2⟩
      refine wpAny_assign_Name (wpAny_storeName_local hx F₁.ns (fun h₂ hn₂ hs₂ => ?_) hpl)
      have F₂ := F₁.set hn₂ hs₂
      have hit₂ : IsRangeIter h₂ s.heap.objs.size (a + ((i + 1 : Nat) : Int) * c₁) ((n : Int) - ((i + 1 : Nat) : Int)) c₁ := by
        have e1 : a + ((i + 1 : Nat) : Int) * c₁ = a + (i : Int) * c₁ + c₁ := by push_cast; rw [Int.add_mul, Int.one_mul, Int.add_assoc]
        have e2 : (n : Int) - ((i + 1 : Nat) : Int) = (n : Int) - (i : Int) - 1 := by push_cast; (first | lia | omega)
        rw [e1, e2]
        exact (hs₂.2 _ (Ne.symm hIL)).trans hit₁
      have em : (fun y => if y = x then some (Value.int (a + (i : Int) * c₁) tk) else m' y) = fun y => if y = x then some (Value.int (a + (i : Int) * c₁) tk) else mσ c y := by
        funext y
        by_cases e : y = x
        · simp only [if_pos e]
        · simp only [if_neg e]; exact hm' y e
      have Nown : News h₀ env.locals h₂ (Nσ c ++ [(s.heap.objs.size, _)]) := fun p hp => by
        rcases List.mem_append.mp hp with hp | hp
        · exact (N₁.set hs₂) p hp
        · rw [List.mem_singleton.mp hp]
          exact ⟨hit₂, Ne.symm hIL, hI0⟩
      refine wpAny_mono (wpAny_passesOwn hE (turn c i tk h₂ (tk + 1 + 1) _ hlt (fun p hp b hb e => hadr b hb (by rw [List.mem_singleton.mp hp] at e; exact e.symm)) (hmono i tk _ c (by (first | lia | omega)) hP) (em ▸ F₂) Nown)) (fun f s₃ h₃ => ?_) fun _ _ e => e
      cases f with
      | ret v => exact h₃
      | brk => exact h₃
      | next | cont =>
        obtain ⟨h₃', tk₃, m₃, news₃, c₃, rfl, F₃, N₃, a1, a2, a3, a4, a5⟩ := h₃
        exact ⟨n + 1 - (i + 1), by (first | lia | omega), h₃', tk₃, m₃, c₃, i + 1, rfl, (N₃ _ (a2 _ (List.mem_singleton.mpr rfl))).1, F₃, a4, fun p hp => N₃ p (a1 p hp), fun b hb e => a3 _ (List.mem_singleton.mpr rfl) b hb e.symm, a5, hlt, rfl⟩
    · have hin : i = n := by (first | lia | omega)
      subst hin
      refine wpAny_pyNext_range_end hh hit (by (first | lia | omega)) fun h₁ he₁ => wpAny_execs_nil ?_
      refine done c m' h₁ tk hP ?_ fun p hp => ⟨he₁ _ _ (hNI' p hp) (N' p hp).1, (N' p hp).2⟩
      have em : m' = fun y => if y = x then m' y else mσ c y := by
        funext y
        by_cases e : y = x
        · simp only [if_pos e]
        · simp only [if_neg e]; exact hm' y e
      exact em ▸ ⟨F'.ns.extBut he₁ hIL, fun b o e => he₁ b o (fun q => by rw [q, hI0] at e; cases e) (F'.keep b o e), F'.above⟩
  · have e : a + ((0 : Nat) : Int) * c₁ = a := by rw [Int.natCast_zero, Int.zero_mul, Int.add_zero]
    have e2 : (n : Int) - ((0 : Nat) : Int) = n := by (first | lia | omega)
    rw [e, e2, ← hn]
    exact Heap.get?_push_size _ rfl
end
section
variable {prog : Program} {w : World} {A : Around} {E : Value → Shared → Prop} {s : Shared} {x y : Str} {t u : Tok} {Q : Value → Shared → Prop}
/-- two texts set together, none of them empty: a new text, and which name it has -/
theorem add_T (hx : x.length ≠ 0) (hy : y.length ≠ 0) (hs : x.length + y.length ≤ 16777216) (h : Q (.str (x ++ y) s.toks) { s with toks := s.toks + 1 }) : wpAny (model prog w) A (binaryOp .Add (.str x t) (.str y u)) Q E s := by
  refine concat_gives (typeIs_str s x t) (typeIs_str s y u) PySem.noFill_str_add PySem.seq_str_add F.slot_str_add F.entry_str_add (F.args_str_add_2 _ _) (PySem.gives_str_add x y t u) ?_
  have e1 : (x.length == 0) = false := beq_eq_false_iff_ne.mpr hx
  have e2 : (y.length == 0) = false := beq_eq_false_iff_ne.mpr hy
  rw [e1, if_neg Bool.false_ne_true, e2, if_neg Bool.false_ne_true]
  exact ⟨by rw [Str.length_append, sizeLine_eq]; (first | lia | omega), h⟩
theorem wp_cut {M : Model} {Γ : PySem.Ctx} {env : Env} (l₂ : List Stmt) {Q : Flow → Pos → Shared → Prop} {E : Value → Pos → Shared → Prop} : ∀ (l₁ : List Stmt) (p : Pos) (s : Shared),
    Sem.wp M Γ (execs l₁ env) (fun f p' s' => match f with | .next => Sem.wp M Γ (execs l₂ env) Q E p' s' | f => Q f p' s') E p s → Sem.wp M Γ (execs (l₁ ++ l₂) env) Q E p s
  | [], _, _, h => h
  | st :: l₁, p, s, h => by
    rw [execs_cons, Sem.wp_bind'] at h
    show Sem.wp M Γ (execs (st :: (l₁ ++ l₂)) env) Q E p s
    rw [execs_cons, Sem.wp_bind']
    refine Sem.wp_mono M Γ _ (fun f p' s' hf => ?_) (fun _ _ _ h => h) p s h
    cases f <;> first | exact wp_cut l₂ l₁ p' s' hf | exact hf
/-- the statements in two lots -/
theorem wpAny_cut {env : Env} (l₁ l₂ : List Stmt) {Q : Flow → Shared → Prop} (h : wpAny (model prog w) A (execs l₁ env) (fun f s' => match f with | .next => wpAny (model prog w) A (execs l₂ env) Q E s' | f => Q f s') E s) : wpAny (model prog w) A (execs (l₁ ++ l₂) env) Q E s :=
  fun Γ p hΓ => by
    refine wp_cut (Q := fun f _ s' => Q f s') (E := fun e _ s' => E e s') l₂ l₁ p s ?_
    refine Sem.wp_mono (model prog w) Γ (execs l₁ env) ?_ (fun _ _ _ h => h) p s (h Γ p hΓ)
    intro f p' s' hf
    cases f with
    | next => exact hf Γ p' hΓ
    | _ => exact hf
/-- the same, with what the first lot can't have taken back -/
theorem wpAny_cutT {env : Env} (l₁ l₂ : List Stmt) {Q : Flow → Shared → Prop} (h : wpAny (model prog w) A (execs l₁ env) (fun f s' => s.toks ≤ s'.toks → match f with | .next => wpAny (model prog w) A (execs l₂ env) Q E s' | f => Q f s') E s) : wpAny (model prog w) A (execs (l₁ ++ l₂) env) Q E s :=
  wpAny_cut l₁ l₂ (wpAny_with_toks (Nat.le_refl _) (wpAny_mono h (fun _ _ h => h) fun _ _ h _ => h))
theorem wpAny_T {α : Type} {c : Sem α} {Q : α → Shared → Prop} (h : wpAny (model prog w) A c (fun f s' => s.toks ≤ s'.toks → Q f s') E s) : wpAny (model prog w) A c Q E s :=
  wpAny_with_toks (Nat.le_refl _) (wpAny_mono h (fun _ _ h => h) fun _ _ h _ => h)
end
end Mine
namespace Mine
section
variable {prog : Program} {w : World} {A : Around} {E : Value → Shared → Prop} {s : Shared} {x y : Str} {t : Tok} {Q : Value → Shared → Prop}
/-- the start of a text: a new text, and which name it has -/
theorem slice_T {value slice : PySem.Expr} {h₀ : Heap} {L : Addr} {m : Str → Option Value} {news : List (Addr × Obj)} {j : Int} {uj : Tok} (hF : Fr h₀ L s.heap m) (hN : News h₀ L s.heap news)
    (hl : ((slicePicked x none (some (j, uj)) none).length == x.length) = false) (hy : (⟨((slicePicked x none (some (j, uj)) none).filterMap (x.cps[·]?)).toArray⟩ : Str) = y) (hyl : y.length ≤ sizeLine)
    (h : ∀ h', Fr h₀ L h' m → News h₀ L h' news → Q (.str y s.toks) { s with heap := h', toks := s.toks + 1 })
    (hs : subscripted slice false (.str x t) (.ref s.heap.objs.size) = operate [.ref s.heap.objs.size, .str x t] (getItem (.str x t) (.ref s.heap.objs.size)) := by with_unfolding_all rfl)
    :
    wpAny (model prog w) A (subscriptTail value slice (.str x t) (.ref s.heap.objs.size)) Q E { s with heap := s.heap.push { cls := .type "slice", data := .fields #[.none, .int j uj, .none] } } := by
  refine tail_any (typeIs_str _ _ _) F.slot_str_getitem.lookup (wpAny_getItem_str_slice (l := none) (u := some (j, uj)) (st := none) ⟨_, Heap.get?_push_size _ (by rfl), rfl, rfl⟩ rfl ?_) hs
  unfold sliceMade
  rw [hl, Bool.and_false, if_neg Bool.false_ne_true, hy]
  exact ⟨hyl, h _ (hF.push _) (fun p hp => ⟨Heap.get?_push_of_some _ (hN p hp).1, (hN p hp).2⟩)⟩
/-- texts set together with nothing between: which name the outcome has -/
theorem join_T {D : Addr} {l : List (Str × Tok)} {texts : List Str} (hl : s.heap.IsList D (strValues l).toArray) (ht : l.map (·.1) = texts) (hok : (texts.map (·.length)).sum + texts.length * x.length ≤ 16777216)
    (h0 : 0 < s.toks) (hb : ∀ p, l = [p] → 0 < p.2 ∧ p.2 < s.toks) (hq : ∀ t' k, 0 < t' → t' < k → s.toks ≤ k → Q (.str (Txt.join x texts) t') { s with toks := k }) : wpAny (model prog w) A (call (.builtin "str.join") [.str x t, .ref D]) Q E s := by
  subst ht
  have hok' := joinOk_of hok
  unfold JoinOk at hok'
  rw [Bool.not_eq_true'] at hok'
  have hfit := joinFit_length hok'
  refine call_meets F.slot_str_join (typeIs_str _ _ _) F.entry_str_join (F.args_str_join_2 _ _) (meets_str_join_list x t D l hok') ⟨hl, ?_⟩
  match l, hb, hq, hfit with
  | [], _, hq, hfit => exact ⟨hfit, hq _ _ h0 (Nat.lt_succ_self _) (Nat.le_succ _)⟩
  | [p], hb, hq, _ => exact hq _ _ (hb p rfl).1 (hb p rfl).2 (Nat.le_refl _)
  | _ :: _ :: _, _, hq, hfit => exact ⟨hfit, hq _ _ h0 (Nat.lt_succ_self _) (Nat.le_succ _)⟩
theorem num_text {a : Int} (h0 : 0 ≤ a) (h1 : a < 4) : (Str.ofString (toString a)) = ⟨#[48 + a.toNat]⟩ := by
  have : a = 0 ∨ a = 1 ∨ a = 2 ∨ a = 3 := by (first | lia | omega)
  rcases this with rfl | rfl | rfl | rfl <;> decide
theorem str_num {h : Heap} {gn : Array GenState} {dr : Drawn} {tk : Nat} {os : OsState} {a : Int} {t : Tok} (h0 : 0 ≤ a) (h1 : a < 4) (hq : Q (.str ⟨#[48 + a.toNat]⟩ tk) ⟨h, gn, dr, tk + 1, os⟩) : wpAny (model prog w) A (call (.type "str") [.int a t]) Q E ⟨h, gn, dr, tk, os⟩ :=
  P.str_of_int (shown (N := 4) (by (first | lia | omega)) h1 (by decide)) (by rw [← num_text h0 h1] at hq; exact hq)
theorem add_ref1 {h : Heap} {gn : Array GenState} {dr : Drawn} {tk : Nat} {os : OsState} {k : Nat} {t u : Tok} (hq : Q (.str ⟨#[38, 101, k]⟩ tk) ⟨h, gn, dr, tk + 1, os⟩) : wpAny (model prog w) A (binaryOp .Add (.str (Str.ofString "&e") t) (.str ⟨#[k]⟩ u)) Q E ⟨h, gn, dr, tk, os⟩ :=
  add_T (by decide) (by show 1 ≠ 0; decide) (by show 2 + 1 ≤ 16777216; decide) hq
theorem add_ref2 {h : Heap} {gn : Array GenState} {dr : Drawn} {tk : Nat} {os : OsState} {k : Nat} {t u : Tok} (hq : Q (.str ⟨#[38, 101, k, 59]⟩ tk) ⟨h, gn, dr, tk + 1, os⟩) : wpAny (model prog w) A (binaryOp .Add (.str ⟨#[38, 101, k]⟩ t) (.str (Str.ofString ";") u)) Q E ⟨h, gn, dr, tk, os⟩ :=
  add_T (by show 3 ≠ 0; decide) (by decide) (by show 3 + 1 ≤ 16777216; decide) hq
theorem add_en {h : Heap} {gn : Array GenState} {dr : Drawn} {tk : Nat} {os : OsState} {k : Nat} {t u : Tok} (hq : Q (.str ⟨#[101, k]⟩ tk) ⟨h, gn, dr, tk + 1, os⟩) : wpAny (model prog w) A (binaryOp .Add (.str (Str.ofString "e") t) (.str ⟨#[k]⟩ u)) Q E ⟨h, gn, dr, tk, os⟩ :=
  add_T (by decide) (by show 1 ≠ 0; decide) (by show 1 + 1 ≤ 16777216; decide) hq
theorem abcd_T {value slice : PySem.Expr} {hp : Heap} {gn : Array GenState} {dr : Drawn} {tk : Nat} {os : OsState} {h₀ : Heap} {L : Addr} {m : Str → Option Value} {news : List (Addr × Obj)} {j : Int} {uj : Tok} (hF : Fr h₀ L hp m) (hN : News h₀ L hp news) (h0 : 0 ≤ j) (h4 : j < 4)
    (h : ∀ y h' cs, y.cps.toList = cs → cs.length ≤ 3 → (∀ c ∈ cs, 97 ≤ c ∧ c ≤ 100) → Fr h₀ L h' m → News h₀ L h' news → Q (.str y tk) ⟨h', gn, dr, tk + 1, os⟩)
    (hs : subscripted slice false (.str (Str.ofString "abcd") t) (.ref hp.objs.size) = operate [.ref hp.objs.size, .str (Str.ofString "abcd") t] (getItem (.str (Str.ofString "abcd") t) (.ref hp.objs.size)) := by with_unfolding_all rfl) :
    wpAny (model prog w) A (subscriptTail value slice (.str (Str.ofString "abcd") t) (.ref hp.objs.size)) Q E ⟨hp.push { cls := .type "slice", data := .fields #[.none, .int j uj, .none] }, gn, dr, tk, os⟩ := by
  have : j = 0 ∨ j = 1 ∨ j = 2 ∨ j = 3 := by (first | lia | omega)
  rcases this with rfl | rfl | rfl | rfl
  · exact slice_T (s := ⟨hp, gn, dr, tk, os⟩) (y := ⟨#[]⟩) hF hN (by rfl) (by rfl) (by decide) (fun h' F' N' => h _ h' [] rfl (by decide) (by decide) F' N') hs
  · exact slice_T (s := ⟨hp, gn, dr, tk, os⟩) (y := ⟨#[97]⟩) hF hN (by rfl) (by rfl) (by decide) (fun h' F' N' => h _ h' [97] rfl (by decide) (by decide) F' N') hs
  · exact slice_T (s := ⟨hp, gn, dr, tk, os⟩) (y := ⟨#[97, 98]⟩) hF hN (by rfl) (by rfl) (by decide) (fun h' F' N' => h _ h' [97, 98] rfl (by decide) (by decide) F' N') hs
  · exact slice_T (s := ⟨hp, gn, dr, tk, os⟩) (y := ⟨#[97, 98, 99]⟩) hF hN (by rfl) (by rfl) (by decide) (fun h' F' N' => h _ h' [97, 98, 99] rfl (by decide) (by decide) F' N') hs
end
theorem fr_eq {h₀ h : Heap} {L : Addr} {m m' : Str → Option Value} (F : Fr h₀ L h m) (e : ∀ y, m y = m' y) : Fr h₀ L h m' := by
  have : m = m' := funext e
  exact this ▸ F
theorem join_empty : ∀ ys : List Str, Txt.join (Str.ofString "") ys = ⟨(ys.flatMap fun y => y.cps.toList).toArray⟩ := by
  intro ys
  have e : Str.ofString "" = ⟨#[]⟩ := by decide
  rw [e]
  show Builtin.Str.glued _ _ = _
  rw [glued_eq_join]
  induction ys with
  | nil => rfl
  | cons y ys ih =>
    cases ys with
    | nil => simp [Str.join]
    | cons z zs =>
      show y ++ ⟨#[]⟩ ++ Str.join ⟨#[]⟩ (z :: zs) = _
      rw [ih]
      show (⟨y.cps ++ #[] ++ _⟩ : Str) = _
      congr 1
      simp
theorem ne_lt {a b : Nat} (h : a < b ∨ b < a) : a ≠ b := by (first | lia | omega)
end Mine
namespace Mine
theorem dis_cons {l : List (Addr × Obj)} {a : Addr} {o : Obj} (h : ∀ p ∈ l, p.1 ≠ a) (hd : Dis l) : Dis ((a, o) :: l) := by
  unfold Dis at hd ⊢
  rw [List.map_cons, List.nodup_cons]
  refine ⟨fun hm => ?_, hd⟩
  obtain ⟨p, hp, e⟩ := List.mem_map.mp hm
  exact h p hp e
theorem dis_nil : Dis [] := List.nodup_nil
theorem dis_tail {p : Addr × Obj} {l : List (Addr × Obj)} (h : Dis (p :: l)) : Dis l := by
  unfold Dis at h ⊢
  rw [List.map_cons, List.nodup_cons] at h
  exact h.2
theorem dis_head {a : Addr} {o : Obj} {l : List (Addr × Obj)} (h : Dis ((a, o) :: l)) : ∀ p ∈ l, p.1 ≠ a := dis_pre (pre := []) h
theorem dis_order {a b : List Nat} {r : List Nat} (h : (a ++ r).Nodup) (hp : b.Perm a) : (b ++ r).Nodup := (hp.append_right r).nodup_iff.mpr h
theorem start_perm (fl p0 d0 rl st ds gr dg ol lim dl : Nat) : [st, ds, rl, gr, dg, ol, lim, dl, p0, d0, fl].Perm [fl, p0, d0, rl, st, ds, gr, dg, ol, lim, dl] := by
  apply List.perm_iff_count.mpr
  intro a
  simp only [List.count_cons, List.count_nil]
  (first | lia | omega)
theorem start_led {h₀ h : Heap} {L : Addr} {st ds rl gr dg ol lim dl p0 d0 fl : Addr} {qa qb qc sa sb : Int} {qa' qb' qc' sa' sb' : Tok} {qg ql : M3} {raw : Str} {tx ta ts t1 t2 : Tok} {nr no nf : Nat} {sz md ms : Int} {rest : List (Addr × Obj)}
    (N : News h₀ L h ((fl, listOf #[] nf) :: (p0, instObj 276 d0) :: (d0, pdD ⟨qa, qa', qb, qb', qc, qc'⟩ raw tx .none 0 ta) :: (rl, listOf #[.ref p0] nr) :: (st, instObj 311 ds) :: (ds, stD ⟨sa, sa', sb, sb', 0, 0⟩ gr rl) :: (gr, instObj 234 dg) :: (dg, grD qg lim sz ts ol) :: (ol, listOf #[] no) :: (lim, instObj 362 dl) :: (dl, liD ql md t1 ms t2) :: rest))
    (hD : Dis ((fl, listOf #[] nf) :: (p0, instObj 276 d0) :: (d0, pdD ⟨qa, qa', qb, qb', qc, qc'⟩ raw tx .none 0 ta) :: (rl, listOf #[.ref p0] nr) :: (st, instObj 311 ds) :: (ds, stD ⟨sa, sa', sb, sb', 0, 0⟩ gr rl) :: (gr, instObj 234 dg) :: (dg, grD qg lim sz ts ol) :: (ol, listOf #[] no) :: (lim, instObj 362 dl) :: (dl, liD ql md t1 ms t2) :: rest)) :
    ∃ (K : Core) (r0 : Row) (fl2 : Addr), fl2 = fl ∧ st = K.st ∧ gr = K.gr ∧ dg = K.dg ∧ ol = K.ol ∧ lim = K.lim ∧ dl = K.dl ∧ qg = K.qg ∧ ql = K.ql ∧ md = K.md ∧ ms = K.ms ∧ t1 = K.t1 ∧ t2 = K.t2 ∧ r0.x = raw ∧ r0.nm = none ∧ r0.a = 0 ∧ Dis (led K nr no sz ts [] [r0] ((fl2, listOf ([] : List Value).toArray nf) :: rest)) ∧
      News h₀ L h (led K nr no sz ts [] [r0] ((fl2, listOf ([] : List Value).toArray nf) :: rest)) := by
  have dum39 : Unit := ()
  have dum40 : Unit := ()
  have dum41 : Unit := ()
  have dum42 : Unit := ()
  have dum43 : Unit := ()
  revert N hD
  revert h₀ h L st ds rl gr dg ol lim dl p0 d0 fl qa qb qc sa sb qa' qb' qc' sa' sb' qg ql raw tx ta ts t1 t2 nr no nf sz md ms rest dum39 dum40 dum41 dum42 dum43
  refine @pick44 _ _ _ _ _ _ _ _ _ _ _ _ _ _ _ _ _ _ _ _ _ _ _ _ _ _ _ _ _ _ _ _ _ _ _ _ _ _ _ _ _ _ _ _ _ ?ne76 ?_
  (case ne76 => walk_at "ne")
  generalize ck44 _ = tU
  generalize hd2 tU = h₀, tl2 tU = tU
  generalize hd2 tU = h, tl2 tU = tU
  generalize hd2 tU = L, tl2 tU = tU
  generalize hd2 tU = st, tl2 tU = tU
  generalize hd2 tU = ds, tl2 tU = tU
  generalize hd2 tU = rl, tl2 tU = tU
  generalize hd2 tU = gr, tl2 tU = tU
  generalize hd2 tU = dg, tl2 tU = tU
  generalize hd2 tU = ol, tl2 tU = tU
  generalize hd2 tU = lim, tl2 tU = tU
  generalize hd2 tU = dl, tl2 tU = tU
  generalize hd2 tU = p0, tl2 tU = tU
  generalize hd2 tU = d0, tl2 tU = tU
  generalize hd2 tU = fl, tl2 tU = tU
  generalize hd2 tU = qa, tl2 tU = tU
  generalize hd2 tU = qb, tl2 tU = tU
  generalize hd2 tU = qc, tl2 tU = tU
  generalize hd2 tU = sa, tl2 tU = tU
  generalize hd2 tU = sb, tl2 tU = tU
  generalize hd2 tU = qa', tl2 tU = tU
  generalize hd2 tU = qb', tl2 tU = tU
  generalize hd2 tU = qc', tl2 tU = tU
  generalize hd2 tU = sa', tl2 tU = tU
  generalize hd2 tU = sb', tl2 tU = tU
  generalize hd2 tU = qg, tl2 tU = tU
  generalize hd2 tU = ql, tl2 tU = tU
  generalize hd2 tU = raw, tl2 tU = tU
  generalize hd2 tU = tx, tl2 tU = tU
  generalize hd2 tU = ta, tl2 tU = tU
  generalize hd2 tU = ts, tl2 tU = tU
  generalize hd2 tU = t1, tl2 tU = tU
  generalize hd2 tU = t2, tl2 tU = tU
  generalize hd2 tU = nr, tl2 tU = tU
  generalize hd2 tU = no, tl2 tU = tU
  generalize hd2 tU = nf, tl2 tU = tU
  generalize hd2 tU = sz, tl2 tU = tU
  generalize hd2 tU = md, tl2 tU = tU
  generalize hd2 tU = ms, tl2 tU = tU
  generalize hd2 tU = rest
  intro N hD
  refine ⟨⟨st, ds, rl, gr, dg, ol, lim, dl, ⟨sa, sa', sb, sb', 0, 0⟩, qg, ql, md, ms, t1, t2⟩, ⟨p0, d0, ⟨qa, qa', qb, qb', qc, qc'⟩, raw, tx, none, 0, ta⟩, fl, rfl, rfl, rfl, rfl, rfl, rfl, rfl, rfl, rfl, rfl, rfl, rfl, rfl, rfl, rfl, rfl, ?_, ?_⟩
  · exact dis_order (a := [fl, p0, d0, rl, st, ds, gr, dg, ol, lim, dl]) (r := rest.map fun x : Addr × Obj => x.1) hD (start_perm fl p0 d0 rl st ds gr dg ol lim dl)
  · unfold led
    rw [rowsV_cons, rowsO_cons, rowsV_nil, rowsO_nil]
    refine news_sub N ?_
    walk_at "perm"
/-- what two addresses of a stack's ledger are apart from -/
structure ValNe (K : Core) (p d fl : Addr) (R : List (Addr × Obj)) : Prop where
  st_d : K.st ≠ d
  ds_d : K.ds ≠ d
  rl_d : K.rl ≠ d
  gr_d : K.gr ≠ d
  dg_d : K.dg ≠ d
  ol_d : K.ol ≠ d
  lim_d : K.lim ≠ d
  dl_d : K.dl ≠ d
  p_d : p ≠ d
  fl_d : fl ≠ d
  R_d : ∀ q ∈ R, q.1 ≠ d
  st_fl : K.st ≠ fl
  ds_fl : K.ds ≠ fl
  rl_fl : K.rl ≠ fl
  gr_fl : K.gr ≠ fl
  dg_fl : K.dg ≠ fl
  ol_fl : K.ol ≠ fl
  lim_fl : K.lim ≠ fl
  dl_fl : K.dl ≠ fl
  p_fl : p ≠ fl
  d_fl : d ≠ fl
  R_fl : ∀ q ∈ R, q.1 ≠ fl
theorem valNe {K : Core} {nr no : Nat} {sz : Int} {ts : Tok} {os : List Value} {r : Row} {stk : List Row} {fl : Addr} {o : Obj} {rest : List (Addr × Obj)} (h : Dis (led K nr no sz ts os (r :: stk) ((fl, o) :: rest))) : ValNe K r.p r.d fl (rowsO stk ++ rest) := by
  revert h
  revert K nr no sz ts os r stk fl o rest
  refine @pick11 _ _ _ _ _ _ _ _ _ _ _ _ ?ne108 ?_
  (case ne108 => walk_at "ne")
  generalize ck11 _ = tU
  generalize hd2 tU = K, tl2 tU = tU
  generalize hd2 tU = nr, tl2 tU = tU
  generalize hd2 tU = no, tl2 tU = tU
  generalize hd2 tU = sz, tl2 tU = tU
  generalize hd2 tU = ts, tl2 tU = tU
  generalize hd2 tU = os, tl2 tU = tU
  generalize hd2 tU = r, tl2 tU = tU
  generalize hd2 tU = stk, tl2 tU = tU
  generalize hd2 tU = fl, tl2 tU = tU
  generalize hd2 tU = o, tl2 tU = rest
  intro h
  have a := dis_pre (pre := head K nr no sz ts os (rowsV (r :: stk)) ++ [(r.p, instObj 276 r.d)]) (d := r.d) (post := rowsO stk ++ (fl, o) :: rest) (o := pdD r.q r.x r.tx (nmV r.nm) ((r.a : Nat) : Int) r.ta) (by unfold led at h; rw [rowsO_cons] at h; simpa using h)
  have b := dis_pre (pre := head K nr no sz ts os (rowsV (r :: stk)) ++ rowsO (r :: stk)) (d := fl) (post := rest) (o := o) (by unfold led at h; rw [List.append_assoc]; exact h)
  rw [rowsO_cons] at b
  simp only [List.cons_append, List.nil_append, List.append_assoc, List.forall_mem_cons, List.forall_mem_append] at a b
  obtain ⟨a1, a2, a3, a4, a5, a6, a7, a8, a9, a10, a11, a12⟩ := a
  obtain ⟨b1, b2, b3, b4, b5, b6, b7, b8, b9, b10, b11, b12⟩ := b
  exact ⟨a1, a2, a3, a4, a5, a6, a7, a8, a9, a11, fun q hq => (List.mem_append.mp hq).elim (a10 q) (a12 q), b1, b2, b3, b4, b5, b6, b7, b8, b9, b10, fun q hq => (List.mem_append.mp hq).elim (b11 q) (b12 q)⟩
theorem led_open {h₀ h : Heap} {L : Addr} {K : Core} {nr no : Nat} {sz : Int} {ts : Tok} {os : List Value} {r : Row} {stk : List Row} {fl : Addr} {o : Obj} {rest : List (Addr × Obj)} (N : News h₀ L h (led K nr no sz ts os (r :: stk) ((fl, o) :: rest))) :
    News h₀ L h ((r.p, instObj 276 r.d) :: (r.d, pdD r.q r.x r.tx (nmV r.nm) ((r.a : Nat) : Int) r.ta) :: (K.st, instObj 311 K.ds) :: (K.ds, stD K.qs K.gr K.rl) :: (K.rl, listOf (rowsV (r :: stk)).toArray nr) :: (K.gr, instObj 234 K.dg) :: (K.dg, grD K.qg K.lim sz ts K.ol) :: (K.ol, listOf os.toArray no) :: (K.lim, instObj 362 K.dl) :: (K.dl, liD K.ql K.md K.t1 K.ms K.t2) :: (fl, o) :: (rowsO stk ++ rest)) := by
  refine news_sub N ?_
  unfold led
  rw [rowsO_cons]
  intro p hp
  simp only [List.mem_cons, List.mem_append, List.not_mem_nil, or_false] at hp ⊢
  grind
theorem led_close {h₀ h : Heap} {L : Addr} {K : Core} {nr no : Nat} {sz : Int} {ts : Tok} {os : List Value} {r : Row} {stk : List Row} {fl : Addr} {o : Obj} {rest : List (Addr × Obj)}
    (N : News h₀ L h ((r.p, instObj 276 r.d) :: (r.d, pdD r.q r.x r.tx (nmV r.nm) ((r.a : Nat) : Int) r.ta) :: (K.st, instObj 311 K.ds) :: (K.ds, stD K.qs K.gr K.rl) :: (K.rl, listOf (rowsV (r :: stk)).toArray nr) :: (K.gr, instObj 234 K.dg) :: (K.dg, grD K.qg K.lim sz ts K.ol) :: (K.ol, listOf os.toArray no) :: (K.lim, instObj 362 K.dl) :: (K.dl, liD K.ql K.md K.t1 K.ms K.t2) :: (fl, o) :: (rowsO stk ++ rest))) :
    News h₀ L h (led K nr no sz ts os (r :: stk) ((fl, o) :: rest)) := by
  refine news_sub N ?_
  unfold led
  rw [rowsO_cons]
  intro p hp
  simp only [List.mem_cons, List.mem_append, List.not_mem_nil, or_false] at hp ⊢
  grind
theorem dis_row {K : Core} {nr no nr' no' : Nat} {sz sz' : Int} {ts ts' : Tok} {os os' : List Value} {r r' : Row} {stk : List Row} {fl : Addr} {o o' : Obj} {rest : List (Addr × Obj)} (h : Dis (led K nr no sz ts os (r :: stk) ((fl, o) :: rest))) (e1 : r'.p = r.p) (e2 : r'.d = r.d) : Dis (led K nr' no' sz' ts' os' (r' :: stk) ((fl, o') :: rest)) := by
  revert h e1 e2
  revert K nr no nr' no' sz sz' ts ts' os os' r r' stk fl o o' rest
  refine @pick18 _ _ _ _ _ _ _ _ _ _ _ _ _ _ _ _ _ _ _ ?ne134 ?_
  (case ne134 => walk_at "ne")
  generalize ck18 _ = tU
  generalize hd2 tU = K, tl2 tU = tU
  generalize hd2 tU = nr, tl2 tU = tU
  generalize hd2 tU = no, tl2 tU = tU
  generalize hd2 tU = nr', tl2 tU = tU
  generalize hd2 tU = no', tl2 tU = tU
  generalize hd2 tU = sz, tl2 tU = tU
  generalize hd2 tU = sz', tl2 tU = tU
  generalize hd2 tU = ts, tl2 tU = tU
  generalize hd2 tU = ts', tl2 tU = tU
  generalize hd2 tU = os, tl2 tU = tU
  generalize hd2 tU = os', tl2 tU = tU
  generalize hd2 tU = r, tl2 tU = tU
  generalize hd2 tU = r', tl2 tU = tU
  generalize hd2 tU = stk, tl2 tU = tU
  generalize hd2 tU = fl, tl2 tU = tU
  generalize hd2 tU = o, tl2 tU = tU
  generalize hd2 tU = o', tl2 tU = rest
  intro h e1 e2
  refine dis_keys h ?_
  unfold led
  rw [rowsO_cons, rowsO_cons, e1, e2]
  simp only [List.map_append, List.map_cons, List.cons_append]
theorem popDone_len : ∀ stk : List Row, (popDone stk).length ≤ stk.length
  | [] => Nat.le_refl _
  | r :: stk => by
    unfold popDone
    split
    · exact Nat.le_succ_of_le (popDone_len stk)
    · exact Nat.le_refl _
theorem popDone_idem : ∀ stk : List Row, popDone (popDone stk) = popDone stk
  | [] => rfl
  | r :: stk => by
    by_cases h : r.a = r.x.length
    · rw [popDone_over h]; exact popDone_idem stk
    · rw [popDone_not h, popDone_not h]
theorem not_over {r : Row} {stk : List Row} (h : popDone (r :: stk) = r :: stk) : r.a ≠ r.x.length := by
  intro e
  rw [popDone_over e] at h
  have := popDone_len stk
  rw [h, List.length_cons] at this
  (first | lia | omega)
theorem fr_map {h₀ h : Heap} {L : Addr} {m : Str → Option Value} (_ : Fr h₀ L h m) {a b c d : Str} {va vb vc vd : Value} (ha : m a = some va) (hb : m b = some vb) (hc : m c = some vc) (hd : m d = some vd) :
    ∃ g : Str → Option Value, ∀ y, m y = if y = a then some va else if y = b then some vb else if y = c then some vc else if y = d then some vd else g y := by
  refine ⟨m, fun y => ?_⟩
  split
  · next e => rw [e, ha]
  · split
    · next e => rw [e, hb]
    · split
      · next e => rw [e, hc]
      · split
        · next e => rw [e, hd]
        · rfl
theorem sum_len : ∀ ys : List Str, (ys.map (·.length)).sum = (ys.flatMap fun y => y.cps.toList).length
  | [] => rfl
  | y :: ys => by
    rw [List.map_cons, List.sum_cons, List.flatMap_cons, List.length_append, sum_len ys, len_is]
end Mine
namespace Mine
/-- the growth that is handed in, or none -/
inductive Gin where
  | fresh
  | given (gr dg ol : Addr) (q : M3) (ts : Tok) (no : Nat)
abbrev Gin.val : Gin → Value
  | .fresh => .none
  | .given gr _ _ _ _ _ => .ref gr
abbrev Gin.objs (lim : Addr) (sz : Int) : Gin → List (Addr × Obj)
  | .fresh => []
  | .given gr dg ol q ts no => [(gr, instObj 234 dg), (dg, grD q lim sz ts ol), (ol, listOf ([] : List Value).toArray no)]
abbrev Gin.upd (ts' : Tok) (no' : Nat) : Gin → Gin
  | .fresh => .fresh
  | .given gr dg ol q _ _ => .given gr dg ol q ts' no'
section
theorem gfor_ctr {w : World} {mean : ExcName → Option Value} {mg mb : Str → Option Value} {g : Gin} {tb td lim tlim ou gn pa : Addr} {q : M4} {sz : Int} {rest : List (Addr × Obj)}
    (hg : g = .fresh → tlim = lim ∧ sz = 0) (hD : Dis (g.objs lim sz ++ rest)) :
    Ctr w mean mg mb 4 322 [.ref tb, g.val] ((tb, instObj 497 td) :: (td, tbD q tlim ou gn pa) :: (g.objs lim sz ++ rest))
      (fun v news' => ∃ gr dg ol q' ts no, v = .ref gr ∧ (∀ ts' no' sz' p, p ∈ (g.upd ts' no').objs lim sz' → p ∈ (Gin.given gr dg ol q' ts' no').objs lim sz') ∧
        Dis ((gr, instObj 234 dg) :: (dg, grD q' lim sz ts ol) :: (ol, listOf ([] : List Value).toArray no) :: rest) ∧
        news' = (gr, instObj 234 dg) :: (dg, grD q' lim sz ts ol) :: (ol, listOf ([] : List Value).toArray no) :: (tb, instObj 497 td) :: (td, tbD q tlim ou gn pa) :: rest)
      (fun _ _ => False) := by
  rcases g with _ | ⟨gr, dg, ol, qq, ts, no⟩
  · obtain ⟨rfl, rfl⟩ := hg rfl
    dsimp only [Gin.objs, Gin.val, Gin.upd, List.nil_append] at hD ⊢
    walk_at "begin"
    have hR : IsRest rest := trivial
    intro dp un gd cn cs a ccd cl outer A₀ base h₀ L m s Q E B F X N T hk hd hu hret hexc
    have dum29 : Unit := ()
    have dum30 : Unit := ()
    have dum31 : Unit := ()
    revert hg hD hR B F X N T hk hd hu hret hexc
    revert w mean mg mb tb td tlim ou gn pa q rest dp un gd cn cs a ccd cl outer A₀ base h₀ L m s Q E dum29 dum30 dum31
    refine @pick32 _ _ _ _ _ _ _ _ _ _ _ _ _ _ _ _ _ _ _ _ _ _ _ _ _ _ _ _ _ _ _ _ _ ?ne79 ?_
    (case ne79 => walk_at "ne")
    generalize ck32 _ = tU
    generalize hd2 tU = w, tl2 tU = tU
    generalize hd2 tU = mean, tl2 tU = tU
    generalize hd2 tU = mg, tl2 tU = tU
    generalize hd2 tU = mb, tl2 tU = tU
    generalize hd2 tU = tb, tl2 tU = tU
    generalize hd2 tU = td, tl2 tU = tU
    generalize hd2 tU = tlim, tl2 tU = tU
    generalize hd2 tU = ou, tl2 tU = tU
    generalize hd2 tU = gn, tl2 tU = tU
    generalize hd2 tU = pa, tl2 tU = tU
    generalize hd2 tU = q, tl2 tU = tU
    generalize hd2 tU = rest, tl2 tU = tU
    generalize hd2 tU = dp, tl2 tU = tU
    generalize hd2 tU = un, tl2 tU = tU
    generalize hd2 tU = gd, tl2 tU = tU
    generalize hd2 tU = cn, tl2 tU = tU
    generalize hd2 tU = cs, tl2 tU = tU
    generalize hd2 tU = a, tl2 tU = tU
    generalize hd2 tU = ccd, tl2 tU = tU
    generalize hd2 tU = cl, tl2 tU = tU
    generalize hd2 tU = outer, tl2 tU = tU
    generalize hd2 tU = A₀, tl2 tU = tU
    generalize hd2 tU = base, tl2 tU = tU
    generalize hd2 tU = h₀, tl2 tU = tU
    generalize hd2 tU = L, tl2 tU = tU
    generalize hd2 tU = m, tl2 tU = tU
    generalize hd2 tU = s, tl2 tU = tU
    generalize hd2 tU = Q, tl2 tU = tU
    generalize hd2 tU = E
    intro hg hD hR B F X N T hk hd hu hret hexc
    refine wpAny_call ?_
    k_dflt cell_enter
    rename_i pv82_9 pv82_8 pv82_7 pv82_6 pv82_5 pv82_4 pv82_3 pv82_2 pv82_1
    have dum3 : Unit := ()
    revert pv82_6 pv82_5 pv82_4 pv82_3 pv82_2 pv82_1 qk ek
    revert pv82_9 pv82_8 pv82_7 dum3
    refine @pick4 _ _ _ _ _ ?ne82 ?_
    (case ne82 => walk_at "ne")
    generalize ck4 _ = tU
    generalize hd2 tU = pv82_9, tl2 tU = tU
    generalize hd2 tU = pv82_8, tl2 tU = tU
    generalize hd2 tU = pv82_7
    intro pv82_6 pv82_5 pv82_4 pv82_3 pv82_2 pv82_1 qk ek
    k_steps
    refine hret _ _ _ _ ⟨_, _, _, ⟨_, _, _, _, _, _⟩, _, _, rfl, ?_, ?_, rfl⟩ (by k_asm) (news_sub (by k_asm) (by walk_at "perm"))
    · intro _ _ _ p hp; cases hp
    · refine dis_cons ?_ (dis_cons ?_ (dis_cons ?_ hD)) <;> walk_at "disall"
  · dsimp only [Gin.objs, Gin.val, Gin.upd, List.cons_append, List.nil_append] at hD ⊢
    walk_at "begin"
    have hR : IsRest rest := trivial
    intro dp un gd cn cs a ccd cl outer A₀ base h₀ L m s Q E B F X N T hk hd hu hret hexc
    have dum37 : Unit := ()
    revert hg hD hR B F X N T hk hd hu hret hexc
    revert w mean mg mb tb td lim tlim ou gn pa q sz rest gr dg ol qq ts no dp un gd cn cs a ccd cl outer A₀ base h₀ L m s Q E dum37
    refine @pick38 _ _ _ _ _ _ _ _ _ _ _ _ _ _ _ _ _ _ _ _ _ _ _ _ _ _ _ _ _ _ _ _ _ _ _ _ _ _ _ ?ne91 ?_
    (case ne91 => walk_at "ne")
    generalize ck38 _ = tU
    generalize hd2 tU = w, tl2 tU = tU
    generalize hd2 tU = mean, tl2 tU = tU
    generalize hd2 tU = mg, tl2 tU = tU
    generalize hd2 tU = mb, tl2 tU = tU
    generalize hd2 tU = tb, tl2 tU = tU
    generalize hd2 tU = td, tl2 tU = tU
    generalize hd2 tU = lim, tl2 tU = tU
    generalize hd2 tU = tlim, tl2 tU = tU
    generalize hd2 tU = ou, tl2 tU = tU
    generalize hd2 tU = gn, tl2 tU = tU
    generalize hd2 tU = pa, tl2 tU = tU
    generalize hd2 tU = q, tl2 tU = tU
    generalize hd2 tU = sz, tl2 tU = tU
    generalize hd2 tU = rest, tl2 tU = tU
    generalize hd2 tU = gr, tl2 tU = tU
    generalize hd2 tU = dg, tl2 tU = tU
    generalize hd2 tU = ol, tl2 tU = tU
    generalize hd2 tU = qq, tl2 tU = tU
    generalize hd2 tU = ts, tl2 tU = tU
    generalize hd2 tU = no, tl2 tU = tU
    generalize hd2 tU = dp, tl2 tU = tU
    generalize hd2 tU = un, tl2 tU = tU
    generalize hd2 tU = gd, tl2 tU = tU
    generalize hd2 tU = cn, tl2 tU = tU
    generalize hd2 tU = cs, tl2 tU = tU
    generalize hd2 tU = a, tl2 tU = tU
    generalize hd2 tU = ccd, tl2 tU = tU
    generalize hd2 tU = cl, tl2 tU = tU
    generalize hd2 tU = outer, tl2 tU = tU
    generalize hd2 tU = A₀, tl2 tU = tU
    generalize hd2 tU = base, tl2 tU = tU
    generalize hd2 tU = h₀, tl2 tU = tU
    generalize hd2 tU = L, tl2 tU = tU
    generalize hd2 tU = m, tl2 tU = tU
    generalize hd2 tU = s, tl2 tU = tU
    generalize hd2 tU = Q, tl2 tU = tU
    generalize hd2 tU = E
    intro hg hD hR B F X N T hk hd hu hret hexc
    refine wpAny_call ?_
    k_dflt cell_enter
    rename_i pv94_9 pv94_8 pv94_7 pv94_6 pv94_5 pv94_4 pv94_3 pv94_2 pv94_1
    have dum3 : Unit := ()
    revert pv94_6 pv94_5 pv94_4 pv94_3 pv94_2 pv94_1 qk ek
    revert pv94_9 pv94_8 pv94_7 dum3
    refine @pick4 _ _ _ _ _ ?ne94 ?_
    (case ne94 => walk_at "ne")
    generalize ck4 _ = tU
    generalize hd2 tU = pv94_9, tl2 tU = tU
    generalize hd2 tU = pv94_8, tl2 tU = tU
    generalize hd2 tU = pv94_7
    intro pv94_6 pv94_5 pv94_4 pv94_3 pv94_2 pv94_1 qk ek
    k_steps
    exact hret _ _ _ _ ⟨gr, dg, ol, qq, ts, no, rfl, fun _ _ _ _ hp => hp, hD, rfl⟩ (by k_asm) (news_sub (by k_asm) (by walk_at "perm"))
end
end Mine
namespace Mine
theorem IsTab.tbl {w : World} {tb lim : Addr} {n : Nat} {txt : Nat → Str} {rest : List (Addr × Obj)} (h : IsTab w tb lim n txt rest) : ∃ td q ou gn pa, (tb, instObj 497 td) ∈ rest ∧ (td, tbD q lim ou gn pa) ∈ rest := by
  obtain ⟨td, q, ou, gn, pa, o, kvs, h1, h2, _⟩ := h
  exact ⟨td, q, ou, gn, pa, h1, h2⟩
structure Keep (P : Prop) : Prop where
  out : P
theorem pre_ctr {w : World} {mean : ExcName → Option Value} {mg mb : Str → Option Value} {tx : Tok} {news : List (Addr × Obj)} {d : Nat} (hc : d = 48 ∨ d = 49 ∨ d = 50 ∨ d = 51) :
    Ctr w mean mg mb 2 189 [.str ⟨#[101, d]⟩ tx] news (fun v news' => v = .none ∧ news' = news) (fun _ _ => False) := by
  walk_at "begin"
  have hR : IsRest news := trivial
  intro dp un gd cn cs a ccd cl outer A₀ base h₀ L m s Q E B F X N T hk hd hu hret hexc
  have dum24 : Unit := ()
  have dum25 : Unit := ()
  have dum26 : Unit := ()
  revert hc hR B F X N T hk hd hu hret hexc
  revert w mean mg mb tx news d dp un gd cn cs a ccd cl outer A₀ base h₀ L m s Q E dum24 dum25 dum26
  refine @pick27 _ _ _ _ _ _ _ _ _ _ _ _ _ _ _ _ _ _ _ _ _ _ _ _ _ _ _ _ ?ne62 ?_
  (case ne62 => walk_at "ne")
  generalize ck27 _ = tU
  generalize hd2 tU = w, tl2 tU = tU
  generalize hd2 tU = mean, tl2 tU = tU
  generalize hd2 tU = mg, tl2 tU = tU
  generalize hd2 tU = mb, tl2 tU = tU
  generalize hd2 tU = tx, tl2 tU = tU
  generalize hd2 tU = news, tl2 tU = tU
  generalize hd2 tU = d, tl2 tU = tU
  generalize hd2 tU = dp, tl2 tU = tU
  generalize hd2 tU = un, tl2 tU = tU
  generalize hd2 tU = gd, tl2 tU = tU
  generalize hd2 tU = cn, tl2 tU = tU
  generalize hd2 tU = cs, tl2 tU = tU
  generalize hd2 tU = a, tl2 tU = tU
  generalize hd2 tU = ccd, tl2 tU = tU
  generalize hd2 tU = cl, tl2 tU = tU
  generalize hd2 tU = outer, tl2 tU = tU
  generalize hd2 tU = A₀, tl2 tU = tU
  generalize hd2 tU = base, tl2 tU = tU
  generalize hd2 tU = h₀, tl2 tU = tU
  generalize hd2 tU = L, tl2 tU = tU
  generalize hd2 tU = m, tl2 tU = tU
  generalize hd2 tU = s, tl2 tU = tU
  generalize hd2 tU = Q, tl2 tU = tU
  generalize hd2 tU = E
  intro hc hR B F X N T hk hd hu hret hexc
  refine wpAny_call ?_
  rcases hc with rfl | rfl | rfl | rfl
  all_goals (k_dflt cell_enter)
  all_goals k_steps
  all_goals (exact hret _ _ _ _ ⟨rfl, rfl⟩ (by k_asm) (by k_asm))
theorem pre_nm {w : World} {mean : ExcName → Option Value} {mg mb : Str → Option Value} {tx : Tok} {news : List (Addr × Obj)} {nm : Str} (hc : nm = ⟨#[101, 48]⟩ ∨ nm = ⟨#[101, 49]⟩ ∨ nm = ⟨#[101, 50]⟩ ∨ nm = ⟨#[101, 51]⟩) :
    Ctr w mean mg mb 2 189 [.str nm tx] news (fun v news' => v = .none ∧ news' = news) (fun _ _ => False) := by
  rcases hc with rfl | rfl | rfl | rfl <;> exact pre_ctr (by decide)
section
local macro_rules | `(tactic| walk_at "call ref") => `(tactic| (k_here; (first | (with_reducible show wpAny _ _ (call (Value.ref 182) _) _ _ _) | (with_reducible show wpAny _ _ (call (Value.ref 189) _) _ _ _) | (with_reducible show wpAny _ _ (call (Value.ref 308) _) _ _ _) | (with_reducible show wpAny _ _ (call (Value.ref 487) _) _ _ _)); refine Halt.go ?_))
theorem sign_ctr {w : World} {mean : ExcName → Option Value} {mg mb : Str → Option Value} {K : Core} {nr no : Nat} {sz : Int} {ts : Tok} {os : List Value} {stk : List Row} {rest : List (Addr × Obj)} {tw : Tok} {tb lim : Addr} {n k : Nat} {txt : Nat → Str}
    (hD : Dis (led K nr no sz ts os stk rest)) (hS : StrsAre os (opens stk)) (hlen : stk.length < 50) (hT : IsTab w tb lim n txt rest) (hk4 : k < 4) (hkn : k < n) (hx : (txt k).length ≤ 1000) :
    Ctr w mean mg mb 15 337 [.str (en k) tw, .ref tb, .ref K.st] (led K nr no sz ts os stk rest)
      (fun v news' => en k ∉ opens stk ∧ ((opens stk).length : Int) < K.md ∧ sz + ((txt k).length : Nat) ≤ K.ms ∧ (∃ te, v = .str ⟨#[]⟩ te) ∧ ∃ r nr' no' ts', r.x = txt k ∧ r.nm = some (en k, tw) ∧ r.a = 0 ∧
        Dis (led K nr' no' (sz + ((txt k).length : Nat)) ts' (os ++ [Value.str (en k) tw]) (r :: stk) rest) ∧ news' = led K nr' no' (sz + ((txt k).length : Nat)) ts' (os ++ [Value.str (en k) tw]) (r :: stk) rest)
      (fun C news' => (en k ∈ opens stk ∧ C = 141 ∨ en k ∉ opens stk ∧ ¬ (((opens stk).length : Int) < K.md ∧ sz + ((txt k).length : Nat) ≤ K.ms) ∧ C = 153) ∧ news' = (K.lim, instObj 362 K.dl) :: (K.dl, liD K.ql K.md K.t1 K.ms K.t2) :: rest) := by
  refine rtx_EEEEEpp ?_ (hT.tbl)
  intro td q ou gn pa htd htq
  have htd' : (tb, instObj 497 td) ∈ led K nr no sz ts os stk rest := by
    unfold led
    exact List.mem_append_right _ (List.mem_append_right _ htd)
  have htq' : (td, tbD q lim ou gn pa) ∈ led K nr no sz ts os stk rest := by
    unfold led
    exact List.mem_append_right _ (List.mem_append_right _ htq)
  have hT' : IsTab w tb lim n txt ((tb, instObj 497 td) :: (td, tbD q lim ou gn pa) :: led K nr no sz ts os stk rest) := hT.mono fun p hp => by
    unfold led
    exact List.mem_cons_of_mem _ <| List.mem_cons_of_mem _ (List.mem_append_right _ (List.mem_append_right _ hp))
  have hk4' : en k = ⟨#[101, 48]⟩ ∨ en k = ⟨#[101, 49]⟩ ∨ en k = ⟨#[101, 50]⟩ ∨ en k = ⟨#[101, 51]⟩ := by
    have := lt4 (k := k) (by first | assumption | omega)
    rcases this with rfl | rfl | rfl | rfl
    · exact .inl rfl
    · exact .inr (.inl rfl)
    · exact .inr (.inr (.inl rfl))
    · exact .inr (.inr (.inr rfl))
  have hin : Keep _ := ⟨@inner_tab w mean mg mb tb lim n k txt ((tb, instObj 497 td) :: (td, tbD q lim ou gn pa) :: led K nr no sz ts os stk rest) tw hT' hkn⟩
  have hpr : Keep _ := ⟨@pre_nm w mean mg mb tw ((tb, instObj 497 td) :: (td, tbD q lim ou gn pa) :: led K nr no sz ts os stk rest) (en k) hk4'⟩
  have hnl : (en k).length ≤ 16 := by rcases hk4' with h | h | h | h <;> rw [h] <;> decide
  have hsl : Txt.slice (en k) none (some 1) = ⟨#[101]⟩ := by rcases hk4' with h | h | h | h <;> rw [h] <;> decide +kernel
  have hmem : Keep (∀ p ∈ (tb, instObj 497 td) :: (td, tbD q lim ou gn pa) :: led K nr no sz ts os stk rest, p ∈ led K nr no sz ts os stk rest) := ⟨(fmc (htd') ((fmc (htq') (fun _ h => h))))⟩
  clear hk4' hT' hT htd htd' htq htq'
  generalize txt k = xx at *
  generalize en k = nm at *
  unfold led at hin hpr hmem ⊢
  dsimp only [List.cons_append, List.nil_append] at hin hpr hmem ⊢
  generalize hRe : rowsO stk ++ rest = R at hin hpr hmem ⊢
  walk_at "begin"
  have hR : IsRest R := trivial
  intro dp un gd cn cs a ccd cl outer A₀ base h₀ L m s Q E B F X N T hk hd hu hret hexc
  have dum40 : Unit := ()
  have dum41 : Unit := ()
  have dum42 : Unit := ()
  have dum43 : Unit := ()
  revert hD hS hlen hx hnl hsl hRe hin hpr hmem hR B F X N T hk hd hu hret hexc
  revert w mean mg mb K nr no sz ts os stk rest tw tb lim td q ou gn pa xx nm R dp un gd cn cs a ccd cl outer A₀ base h₀ L m s Q E dum40 dum41 dum42 dum43
  refine @pick44 _ _ _ _ _ _ _ _ _ _ _ _ _ _ _ _ _ _ _ _ _ _ _ _ _ _ _ _ _ _ _ _ _ _ _ _ _ _ _ _ _ _ _ _ _ ?ne111 ?_
  (case ne111 => walk_at "ne")
  generalize ck44 _ = tU
  generalize hd2 tU = w, tl2 tU = tU
  generalize hd2 tU = mean, tl2 tU = tU
  generalize hd2 tU = mg, tl2 tU = tU
  generalize hd2 tU = mb, tl2 tU = tU
  generalize hd2 tU = K, tl2 tU = tU
  generalize hd2 tU = nr, tl2 tU = tU
  generalize hd2 tU = no, tl2 tU = tU
  generalize hd2 tU = sz, tl2 tU = tU
  generalize hd2 tU = ts, tl2 tU = tU
  generalize hd2 tU = os, tl2 tU = tU
  generalize hd2 tU = stk, tl2 tU = tU
  generalize hd2 tU = rest, tl2 tU = tU
  generalize hd2 tU = tw, tl2 tU = tU
  generalize hd2 tU = tb, tl2 tU = tU
  generalize hd2 tU = lim, tl2 tU = tU
  generalize hd2 tU = td, tl2 tU = tU
  generalize hd2 tU = q, tl2 tU = tU
  generalize hd2 tU = ou, tl2 tU = tU
  generalize hd2 tU = gn, tl2 tU = tU
  generalize hd2 tU = pa, tl2 tU = tU
  generalize hd2 tU = xx, tl2 tU = tU
  generalize hd2 tU = nm, tl2 tU = tU
  generalize hd2 tU = R, tl2 tU = tU
  generalize hd2 tU = dp, tl2 tU = tU
  generalize hd2 tU = un, tl2 tU = tU
  generalize hd2 tU = gd, tl2 tU = tU
  generalize hd2 tU = cn, tl2 tU = tU
  generalize hd2 tU = cs, tl2 tU = tU
  generalize hd2 tU = a, tl2 tU = tU
  generalize hd2 tU = ccd, tl2 tU = tU
  generalize hd2 tU = cl, tl2 tU = tU
  generalize hd2 tU = outer, tl2 tU = tU
  generalize hd2 tU = A₀, tl2 tU = tU
  generalize hd2 tU = base, tl2 tU = tU
  generalize hd2 tU = h₀, tl2 tU = tU
  generalize hd2 tU = L, tl2 tU = tU
  generalize hd2 tU = m, tl2 tU = tU
  generalize hd2 tU = s, tl2 tU = tU
  generalize hd2 tU = Q, tl2 tU = tU
  generalize hd2 tU = E
  intro hD hS hlen hx hnl hsl hRe hin hpr hmem hR B F X N T hk hd hu hret hexc
  replace N := news_sub N hmem.out
  clear hmem
  refine wpAny_call ?_
  k_dflt cell_enter
  rename_i pv116_9 pv116_8 pv116_7 pv116_6 pv116_5 pv116_4 pv116_3 pv116_2 pv116_1
  have dum3 : Unit := ()
  revert pv116_6 pv116_5 pv116_4 pv116_3 pv116_2 pv116_1 qk ek
  revert pv116_9 pv116_8 pv116_7 dum3
  refine @pick4 _ _ _ _ _ ?ne116 ?_
  (case ne116 => walk_at "ne")
  generalize ck4 _ = tU
  generalize hd2 tU = pv116_9, tl2 tU = tU
  generalize hd2 tU = pv116_8, tl2 tU = tU
  generalize hd2 tU = pv116_7
  intro pv116_6 pv116_5 pv116_4 pv116_3 pv116_2 pv116_1 qk ek
  k_steps
  · exfalso
    rename (_ = _) => hq
    rw [hsl] at hq
    exact absurd hq (by decide)
  · refine Halt.at ?_
    refine Ctr.use hpr.out (by k_asm) ?_ ?_
    · refine rts_vn ?_
      intro h' tk' F1 N1
      revert qk ek F1 N1
      revert h' tk'
      refine @pick2 _ _ _ ?ne126 ?_
      (case ne126 => walk_at "ne")
      generalize ck2 _ = tU
      generalize hd2 tU = h', tl2 tU = tk'
      intro qk ek F1 N1
      k_steps
      refine Halt.at ?_
      refine Ctr.use hin.out (by k_asm) ?_ ?_
      · refine rts_Evn ?_
        intro tx h' tk' F1 N1
        have dum3 : Unit := ()
        revert qk ek F1 N1
        revert tx h' tk' dum3
        refine @pick4 _ _ _ _ _ ?ne132 ?_
        (case ne132 => walk_at "ne")
        generalize ck4 _ = tU
        generalize hd2 tU = tx, tl2 tU = tU
        generalize hd2 tU = h', tl2 tU = tU
        generalize hd2 tU = tk'
        intro qk ek F1 N1
        k_steps
        subst hRe
        refine Halt.at ?_
        refine Ctr.use (sput_ctr hD hS hlen hnl hx) (news_sub (by k_asm) fun p hp => List.mem_cons_of_mem _ (List.mem_cons_of_mem _ hp)) ?_ ?_
        · refine rts_pppvEEEEppppn ?_
          intro r nr' no' ts' hm hl hb e1 e2 e3 hD' h' tk' F1 N1
          revert qk ek e1 e2 e3 hD' F1 N1
          revert r nr' no' ts' h' tk'
          refine @pick6 _ _ _ _ _ _ _ ?ne139 ?_
          (case ne139 => walk_at "ne")
          generalize ck6 _ = tU
          generalize hd2 tU = r, tl2 tU = tU
          generalize hd2 tU = nr', tl2 tU = tU
          generalize hd2 tU = no', tl2 tU = tU
          generalize hd2 tU = ts', tl2 tU = tU
          generalize hd2 tU = h', tl2 tU = tk'
          intro qk ek e1 e2 e3 hD' F1 N1
          k_steps
          exact hret _ _ _ _ ⟨hm, hl, hb, ⟨_, rfl⟩, r, nr', no', ts', e1, e2, e3, hD', rfl⟩ (by k_asm) (by k_asm)
        · rintro e C t vs newsX G h' tk' ⟨hC, rfl⟩ F1 R1 U1
          k_steps
          exact hexc _ _ _ _ _ _ _ _ ⟨hC, rfl⟩ (by assumption) (by assumption) (by assumption)
      · rintro _ _ _ _ _ _ _ _ ⟨⟩
    · rintro _ _ _ _ _ _ _ _ ⟨⟩
end
end Mine
namespace Mine
theorem occ_absent {x : Str} {c : Nat} (h : c ∉ x.cps.toList) (lim : Nat) : Builtin.Str.occurrences x ⟨#[c]⟩ 0 x.length lim = [] := by
  rw [List.eq_nil_iff_forall_not_mem]
  intro i hi
  exact h (List.mem_of_getElem? ((subAt_one x c i).mp (occ_spec x ⟨#[c]⟩ 0 x.length _ i hi)))
open Builtin Builtin.Str in
theorem call_replace_none {prog : Program} {w : World} {A : Around} {E : Value → Shared → Prop} {s : Shared} {x y z : Str} {t u v : Tok} {Q : Value → Shared → Prop}
    (hE : occurrences x y 0 x.length (x.length + 1) = []) (hq : Q (.str x t) s) : wpAny (model prog w) A (call (.builtin "str.replace") [.str x t, .str y u, .str z v]) Q E s := by
  refine call_gives F.slot_str_replace (typeIs_str _ _ _) F.entry_str_replace (F.args_str_replace_3 _ _ _)
    (gives_str_replace x y z t u v fun h => absurd h (by rw [hE]; simp)) ?_
  rw [hE]
  exact hq
section
local macro_rules | `(tactic| walk_at "exec For") => `(tactic| (k_here; refine Halt.go ?_))
local macro_rules | `(tactic| walk_at "exec For Name Name cons nil") => `(tactic| (k_here; refine Halt.go ?_))
local macro_rules | `(tactic| walk_at "pyIter str") => `(tactic| (k_here; refine Halt.go ?_))
local macro_rules | `(tactic| walk_at "call builtin:str.replace") => `(tactic| (k_here; k_dflt (refine call_replace_none (occ_absent (by with_reducible assumption) _) ?_)))
theorem blank_ctr {w : World} {mean : ExcName → Option Value} {mg mb : Str → Option Value} {tx : Tok} {news : List (Addr × Obj)} {x : Str} (hx : x.length ≤ 1000) (hc : ∀ c ∈ x.cps.toList, c ≠ 9 ∧ c ≠ 10 ∧ c ≠ 13) :
    Ctr w mean mg mb 3 344 [.str x tx] news (fun v news' => (∃ t, v = .str x t) ∧ news' = news) (fun _ _ => False) := by
  have hrep : Keep (∀ n, n = 9 ∨ n = 13 ∨ n = 10 → n ∉ x.cps.toList) := ⟨fun n hn hm => by
    have := hc n hm
    omega⟩
  clear hc
  walk_at "begin"
  have hR : IsRest news := trivial
  intro dp un gd cn cs a ccd cl outer A₀ base h₀ L m s Q E B F X N T hk hd hu hret hexc
  refine wpAny_call ?_
  k_dflt cell_enter
  k_steps
  refine Halt.at ?_
  refine For_invVF (by k_asm) rfl rfl ?_
  k_steps
  refine Halt.at ?_
  rename Fr _ _ _ _ => F0
  obtain ⟨g, hg, F0⟩ : ∃ g : Str → Option Value, g (Str.ofString "text") = some (.str x tx) ∧ Fr _ _ _ g := ⟨_, rfl, F0⟩
  refine for_text (σ := Tok) (fun t y => if y = Str.ofString "text" then some (.str x t) else g y) (fun _ => news) (fun _ _ => True) tx rfl F0 (by k_asm) ?_ trivial ?_ ?_
  · funext y
    by_cases hy : y = Str.ofString "text"
    · rw [if_pos hy, hy, hg]
    · rw [if_neg hy]
  · intro c i n t h tk own hn hoff hadr hp F1 N1
    have hnm := hrep.out n (by
      have hm := List.mem_of_getElem? hn
      rw [show (Str.ofString "\t\r\n").cps.toList = [9, 13, 10] by decide] at hm
      simpa using hm)
    k_steps
    refine turn_end c (by k_asm) (by k_asm) (fun y hy => ?_) trivial rfl (fun p hp => List.mem_append_left _ hp) (fun p hp => List.mem_append_right _ hp)
    by_cases e : y = Str.ofString "text"
    · simp only [if_pos e]
    · simp only [if_neg e, if_neg hy]
  · intro c u h tk hp F1 N1
    k_steps
    exact hret _ _ _ _ ⟨⟨_, rfl⟩, rfl⟩ (by k_asm) (by k_asm)
end
end Mine
namespace Mine
section
local macro_rules | `(tactic| walk_at "call ref") => `(tactic| (k_here; (first | (with_reducible show wpAny _ _ (call (Value.ref 322) _) _ _ _) | (with_reducible show wpAny _ _ (call (Value.ref 301) _) _ _ _) | (with_reducible show wpAny _ _ (call (Value.ref 266) _) _ _ _) | (with_reducible show wpAny _ _ (call (Value.ref 344) _) _ _ _) | (with_reducible show wpAny _ _ (call (Value.ref 259) _) _ _ _) | (with_reducible show wpAny _ _ (call (Value.ref 273) _) _ _ _) | (with_reducible show wpAny _ _ (call (Value.ref 337) _) _ _ _)); refine Halt.go ?_))
theorem one_pend {g : Str → Option Value} {v : Value} {a b c d : Str} {va vb vc vd : Option Value} (y : Str) : (if y = a then some v else (if y = a then va else if y = b then vb else if y = c then vc else if y = d then vd else g y)) = if y = a then some v else if y = b then vb else if y = c then vc else if y = d then vd else g y := by
  by_cases e : y = a
  · rw [if_pos e, if_pos e]
  · rw [if_neg e, if_neg e, if_neg e]
local macro_rules | `(tactic| walk_at "exec Raise some none") => `(tactic| (k_here; refine Halt.go ?_))
local macro_rules | `(tactic| walk_at "call builtin:str.join") => `(tactic| (k_here; k_dflt (refine join_listW (News.isList (by k_asm) (by k_mem)) (by with_reducible assumption) (by decide) (by with_reducible assumption) ?_); intro _ _))
local macro_rules | `(tactic| k_in) => `(tactic| (first | k_in_fast | assumption | exact Frag.In.keeps (by k_asm) (Fr.keep (by k_asm))))
local macro_rules | `(tactic| k_ne) => `(tactic| ((try dsimp only); exact Keep.out (by with_reducible assumption)))
local macro_rules | `(tactic| walk_at "dis") => `(tactic| (repeat (first | with_reducible assumption | (refine dis_cons ?_ ?_; walk_at "disall"))))
theorem Ev.go {T : Nat → List It} {md ms : Int} {o : Out} {m n k : Nat} {r : Row} {stk : List Row} {pnm : Option Nat} {its r' : List It} {ps : List PRow} {sz : Int} {f : List Nat} {txt : Nat → Str}
    (hR : Rows n (r :: stk) ((pnm, its) :: ps)) (hE : Ev T md ms o m ((pnm, .ref k :: r') :: ps) sz f) (hm : en k ∉ Mine.opens (r :: stk)) (hl : ((Mine.opens (r :: stk)).length : Int) < md) (hb : sz + ((txt k).length : Nat) ≤ ms) (he : (txt k).cps.toList = cpsOf (T k)) :
    ∃ m', m = m' + 1 ∧ Ev T md ms o m' ((some k, T k) :: (pnm, r') :: ps) (sz + ((txt k).length : Nat)) f := by
  have h1 : k ∉ ops ((pnm, its) :: ps) := fun h => hm ((hR.mem k).mpr h)
  rw [hR.count] at hl
  rw [len_is, he] at hb ⊢
  cases hE with
  | enter _ _ _ h => exact ⟨_, rfl, h⟩
  | within h => exact absurd h h1
  | limit _ h => exact absurd ⟨hl, hb⟩ h
theorem Ev.fall {T : Nat → List It} {md ms : Int} {o : Out} {m n k : Nat} {r : Row} {stk : List Row} {pnm : Option Nat} {its r' : List It} {ps : List PRow} {sz : Int} {f : List Nat} {txt : Nat → Str} {C : Addr}
    (hR : Rows n (r :: stk) ((pnm, its) :: ps)) (hE : Ev T md ms o m ((pnm, .ref k :: r') :: ps) sz f) (he : (txt k).cps.toList = cpsOf (T k))
    (h : en k ∈ Mine.opens (r :: stk) ∧ C = 141 ∨ en k ∉ Mine.opens (r :: stk) ∧ ¬ (((Mine.opens (r :: stk)).length : Int) < md ∧ sz + ((txt k).length : Nat) ≤ ms) ∧ C = 153) :
    o = .lim ∧ C = 153 ∨ o = .ent ∧ C = 141 := by
  rw [hR.mem k, hR.count, len_is, he] at h
  have e : ops ((pnm, its) :: ps) = ops ((pnm, .ref k :: r') :: ps) := by cases pnm <;> rfl
  rw [e] at h
  cases hE with
  | enter h1 h2 h3 _ =>
    rcases h with h | h
    · exact absurd h.1 h1
    · exact absurd ⟨h2, h3⟩ h.2.1
  | within h1 =>
    rcases h with h | h
    · exact .inr ⟨rfl, h.2⟩
    · exact absurd h1 h.1
  | limit h1 h2 =>
    rcases h with h | h
    · exact absurd h.1 h1
    · exact .inl ⟨rfl, h.2.2⟩
theorem Inv.put {pnm : Option Nat} {its r' its' : List It} {ps : List PRow} {k : Nat} (h : Inv ((pnm, its) :: ps)) (hl : (ops ((pnm, its) :: ps)).length < 20) : Inv ((some k, its') :: (pnm, r') :: ps) := by
  have e : ops ((pnm, its) :: ps) = ops ((pnm, r') :: ps) := by cases pnm <;> rfl
  obtain ⟨h1, h2⟩ := h
  have e2 : ops ((some k, its') :: (pnm, r') :: ps) = k :: ops ((pnm, r') :: ps) := rfl
  unfold Inv
  rw [e] at h1 hl
  rw [e2]
  simp only [List.length_cons] at h1 ⊢
  omega
theorem cutRef {xs pre cs' : List Nat} {k : Nat} {r' : List It} (h : xs = pre ++ cs' ++ 38 :: 101 :: (48 + k) :: 59 :: cpsOf r') : ∃ pre', xs = pre' ++ cpsOf r' ∧ (pre ++ cs').length + 4 = pre'.length :=
  ⟨pre ++ cs' ++ [38, 101, 48 + k, 59], by rw [h]; simp, by simp only [List.length_append, List.length_cons, List.length_nil]⟩
abbrev VInv (n : Nat) (Tx : Nat → List It) (K : Core) (out : Out) (fu : Nat) (fl tb : Addr) (g0 : Str → Option Value) (rest : List (Addr × Obj)) (i : Nat) (m₁ : Str → Option Value) (news₁ : List (Addr × Obj)) : Prop :=
  ∃ stk ps os ys nr no nf sz ts f fv, (∀ y, m₁ y = if y = Str.ofString "pending" then some (topV stk) else if y = Str.ofString "stack" then some (.ref K.st) else if y = Str.ofString "found" then some (.ref fl) else if y = Str.ofString "table" then some (.ref tb) else g0 y) ∧ popDone stk = stk ∧ Rows n stk ps ∧ Inv ps ∧ Ev Tx K.md K.ms out i ps sz f ∧ StrsAre os (opens stk) ∧ Dis (led K nr no sz ts os stk ((fl, listOf fv.toArray nf) :: rest)) ∧ StrsAre fv ys ∧ f = (ys.flatMap fun y => y.cps.toList) ∧ f.length + i ≤ fu ∧ ys.length + 2 * i ≤ 2 * fu ∧ news₁ = led K nr no sz ts os stk ((fl, listOf fv.toArray nf) :: rest)
set_option maxHeartbeats 16000000 in
theorem value_ctr {w : World} {mean : ExcName → Option Value} {mg mb : Str → Option Value} {g : Gin} {tb lim tlim dl : Addr} {ql : M3} {md ms sz : Int} {t1 t2 tr : Tok} {rest : List (Addr × Obj)} {n fu : Nat} {txt : Nat → Str} {raw : Str} {Tx : Nat → List It} {its : List It} {out : Out}
    (hg : g = .fresh → tlim = lim ∧ sz = 0) (hD : Dis (g.objs lim sz ++ (lim, instObj 362 dl) :: (dl, liD ql md t1 ms t2) :: rest)) (hT : IsTab w tb tlim n txt rest) (hn : n ≤ 4) (hmd : md ≤ 20)
    (hraw : raw.cps.toList = cpsOf its) (hok : ∀ i ∈ its, i.ok n) (hrl : raw.length ≤ 1000) (htx : ∀ k < n, (txt k).cps.toList = cpsOf (Tx k) ∧ (∀ i ∈ Tx k, i.ok n) ∧ (txt k).length ≤ 1000) (hE : Ev Tx md ms out fu [(none, its)] sz []) (hN : fu ≤ 10000) :
    Ctr w mean mg mb 30 330 [.str raw tr, .ref tb, g.val] (g.objs lim sz ++ (lim, instObj 362 dl) :: (dl, liD ql md t1 ms t2) :: rest)
      (fun v news' => ∃ f sz', out = .txt f sz' ∧ (∃ t, v = .str ⟨f.toArray⟩ t) ∧ ∃ ts' no', news' = (g.upd ts' no').objs lim sz' ++ (lim, instObj 362 dl) :: (dl, liD ql md t1 ms t2) :: rest)
      (fun C news' => (out = .lim ∧ C = 153 ∨ out = .ent ∧ C = 141) ∧ news' = (lim, instObj 362 dl) :: (dl, liD ql md t1 ms t2) :: rest) := by
  refine rtx_EEEEEpp ?_ (hT.tbl)
  intro td q ou gn pa htd htq
  have hmem : Keep (∀ p ∈ (tb, instObj 497 td) :: (td, tbD q tlim ou gn pa) :: (g.objs lim sz ++ (lim, instObj 362 dl) :: (dl, liD ql md t1 ms t2) :: rest), p ∈ g.objs lim sz ++ (lim, instObj 362 dl) :: (dl, liD ql md t1 ms t2) :: rest) := ⟨by
    intro p hp
    simp only [List.mem_append, List.mem_cons] at hp ⊢
    rcases hp with hp | hp | hp
    · exact .inr (.inr (.inr (hp ▸ htd)))
    · exact .inr (.inr (.inr (hp ▸ htq)))
    · exact hp⟩
  have hK : Keep _ := ⟨And.intro hT (And.intro htx (And.intro hE hok))⟩
  have hG : Keep _ := ⟨@gfor_ctr w mean mg mb g tb td lim tlim ou gn pa q sz ((lim, instObj 362 dl) :: (dl, liD ql md t1 ms t2) :: rest) hg hD⟩
  clear hD hT htx hE hok htd htq hg
  generalize hgo : g.objs lim sz ++ (lim, instObj 362 dl) :: (dl, liD ql md t1 ms t2) :: rest = go at hmem hG ⊢
  generalize hgv : g.val = gv at hG ⊢
  walk_at "begin"
  have hR : IsRest rest := trivial
  intro dp un gd cn cs a ccd cl outer A₀ base h₀ L m s Q E B F X N T hk hd hu hret hexc
  have dum48 : Unit := ()
  have dum49 : Unit := ()
  revert hn hmd hraw hrl hN hK hgo hmem hgv hG hR B F X N T hk hd hu hret hexc
  revert w mean mg mb g tb lim tlim dl ql md ms sz t1 t2 tr rest n fu txt raw Tx its out td q ou gn pa go gv dp un gd cn cs a ccd cl outer A₀ base h₀ L m s Q E dum48 dum49
  refine @pick50 _ _ _ _ _ _ _ _ _ _ _ _ _ _ _ _ _ _ _ _ _ _ _ _ _ _ _ _ _ _ _ _ _ _ _ _ _ _ _ _ _ _ _ _ _ _ _ _ _ _ _ ?ne132 ?_
  (case ne132 => walk_at "ne")
  generalize ck50 _ = tU
  generalize hd2 tU = w, tl2 tU = tU
  generalize hd2 tU = mean, tl2 tU = tU
  generalize hd2 tU = mg, tl2 tU = tU
  generalize hd2 tU = mb, tl2 tU = tU
  generalize hd2 tU = g, tl2 tU = tU
  generalize hd2 tU = tb, tl2 tU = tU
  generalize hd2 tU = lim, tl2 tU = tU
  generalize hd2 tU = tlim, tl2 tU = tU
  generalize hd2 tU = dl, tl2 tU = tU
  generalize hd2 tU = ql, tl2 tU = tU
  generalize hd2 tU = md, tl2 tU = tU
  generalize hd2 tU = ms, tl2 tU = tU
  generalize hd2 tU = sz, tl2 tU = tU
  generalize hd2 tU = t1, tl2 tU = tU
  generalize hd2 tU = t2, tl2 tU = tU
  generalize hd2 tU = tr, tl2 tU = tU
  generalize hd2 tU = rest, tl2 tU = tU
  generalize hd2 tU = n, tl2 tU = tU
  generalize hd2 tU = fu, tl2 tU = tU
  generalize hd2 tU = txt, tl2 tU = tU
  generalize hd2 tU = raw, tl2 tU = tU
  generalize hd2 tU = Tx, tl2 tU = tU
  generalize hd2 tU = its, tl2 tU = tU
  generalize hd2 tU = out, tl2 tU = tU
  generalize hd2 tU = td, tl2 tU = tU
  generalize hd2 tU = q, tl2 tU = tU
  generalize hd2 tU = ou, tl2 tU = tU
  generalize hd2 tU = gn, tl2 tU = tU
  generalize hd2 tU = pa, tl2 tU = tU
  generalize hd2 tU = go, tl2 tU = tU
  generalize hd2 tU = gv, tl2 tU = tU
  generalize hd2 tU = dp, tl2 tU = tU
  generalize hd2 tU = un, tl2 tU = tU
  generalize hd2 tU = gd, tl2 tU = tU
  generalize hd2 tU = cn, tl2 tU = tU
  generalize hd2 tU = cs, tl2 tU = tU
  generalize hd2 tU = a, tl2 tU = tU
  generalize hd2 tU = ccd, tl2 tU = tU
  generalize hd2 tU = cl, tl2 tU = tU
  generalize hd2 tU = outer, tl2 tU = tU
  generalize hd2 tU = A₀, tl2 tU = tU
  generalize hd2 tU = base, tl2 tU = tU
  generalize hd2 tU = h₀, tl2 tU = tU
  generalize hd2 tU = L, tl2 tU = tU
  generalize hd2 tU = m, tl2 tU = tU
  generalize hd2 tU = s, tl2 tU = tU
  generalize hd2 tU = Q, tl2 tU = tU
  generalize hd2 tU = E
  intro hn hmd hraw hrl hN hK hgo hmem hgv hG hR B F X N T hk hd hu hret hexc
  replace N := news_sub N hmem.out
  clear hmem
  refine wpAny_call ?_
  k_dflt (walk_at "enter with defaults")
  rename_i pv137_9 pv137_8 pv137_7 pv137_6 pv137_5 pv137_4 pv137_3 pv137_2 pv137_1
  have dum3 : Unit := ()
  revert pv137_6 pv137_5 pv137_4 pv137_3 pv137_2 pv137_1 qk ek
  revert pv137_9 pv137_8 pv137_7 dum3
  refine @pick4 _ _ _ _ _ ?ne137 ?_
  (case ne137 => walk_at "ne")
  generalize ck4 _ = tU
  generalize hd2 tU = pv137_9, tl2 tU = tU
  generalize hd2 tU = pv137_8, tl2 tU = tU
  generalize hd2 tU = pv137_7
  intro pv137_6 pv137_5 pv137_4 pv137_3 pv137_2 pv137_1 qk ek
  k_steps
  refine Halt.at ?_
  refine Ctr.use hG.out (by k_asm) ?_ (by rintro _ _ _ _ _ _ _ _ ⟨⟩)
  clear hG
  (repeat (rename News _ _ _ _ => Nq; clear Nq))
  refine rts_EEEEEEvppn ?_
  intro gr dg ol q' ts no hup hD h' tk' F1 N1
  revert qk ek hup hD F1 N1
  revert gr dg ol q' ts no h' tk'
  refine @pick8 _ _ _ _ _ _ _ _ _ ?ne145 ?_
  (case ne145 => walk_at "ne")
  generalize ck8 _ = tU
  generalize hd2 tU = gr, tl2 tU = tU
  generalize hd2 tU = dg, tl2 tU = tU
  generalize hd2 tU = ol, tl2 tU = tU
  generalize hd2 tU = q', tl2 tU = tU
  generalize hd2 tU = ts, tl2 tU = tU
  generalize hd2 tU = no, tl2 tU = tU
  generalize hd2 tU = h', tl2 tU = tk'
  intro qk ek hup hD F1 N1
  k_steps
  refine Halt.at ?_
  rename News _ _ _ _ => NN
  refine rtx_pppp ?_ (hK.out)
  intro hT htx hE hok
  clear hK
  have hD1 := dis_head hD
  refine rtx_EEEpppppppppppppppppp ?_ (start_led (rest := rest) (ql := ql) (qg := q') (news_sub NN (by walk_at "perm")) (by walk_at "dis"))
  intro K r0 fl e0 e1 e2 e3 e4 e5 e6 e7 e8 e9 e10 e11 e12 er1 er2 er3 hDs N1
  clear hD hD1 NN hgo hgv
  clear qk ek
  clear qk ek
  (repeat (rename _ ∧ _ => z; clear z))
  subst e0 e1 e2 e3 e4 e5 e6 e7 e8 e9 e10 e11 e12
  have hS0 : StrsAre ([] : List Value) (opens [r0]) := by rw [opens_none er2]; exact .nil
  have hx0 : ∀ r ∈ [r0], r.x.length ≤ 1000 := fun r hr => by rw [List.mem_singleton.mp hr, er1]; exact hrl
  refine Ctr.use (top_ctr hDs hS0 (show [r0].length < 50 by simp) hx0) N1 ?_ (by rintro _ _ _ _ _ _ _ _ ⟨⟩)
  refine rts_vEEEppn ?_
  intro nr1 no1 os1 hS1 hD1 h' tk' F1 N2
  rename_i pv165_9 _ pv165_8 _ _ _ _ _ _ _ _ _ _ _ _ _ _ _ _ _ _ _ _ _ _ _ _ _ _ _ _ _ _ _ _ _ pv165_7 pv165_6 pv165_5 pv165_4 pv165_3 pv165_2 pv165_1
  have dum9 : Unit := ()
  have dum10 : Unit := ()
  clear N1 pv165_6 pv165_5 pv165_4 pv165_3 pv165_2 pv165_1
  revert qk ek pv165_8 er1 er2 er3 hDs pv165_7 hup hmd hE hret hexc hS0 hx0 hS1 hD1 F1 N2
  revert pv165_9 K r0 fl nr1 no1 os1 h' tk' dum9 dum10
  refine @pick11 _ _ _ _ _ _ _ _ _ _ _ _ ?ne165 ?_
  (case ne165 => walk_at "ne")
  generalize ck11 _ = tU
  generalize hd2 tU = pv165_9, tl2 tU = tU
  generalize hd2 tU = K, tl2 tU = tU
  generalize hd2 tU = r0, tl2 tU = tU
  generalize hd2 tU = fl, tl2 tU = tU
  generalize hd2 tU = nr1, tl2 tU = tU
  generalize hd2 tU = no1, tl2 tU = tU
  generalize hd2 tU = os1, tl2 tU = tU
  generalize hd2 tU = h', tl2 tU = tU
  generalize hd2 tU = tk'
  intro qk ek pv165_8 er1 er2 er3 hDs pv165_7 hup hmd hE hret hexc hS0 hx0 hS1 hD1 F1 N2
  have hR0 : Rows n [r0] [(none, its)] := .cons ⟨by rw [er2]; rfl, ⟨[], by rw [er1, hraw]; rfl, er3⟩, hok, er1 ▸ hrl⟩ .nil
  refine rtx_EEpppp ?_ (hR0.pop hE ⟨Nat.le_refl 1, Nat.zero_le 20⟩)
  intro fu' ps0 hfu hR1 hE1 hi1
  clear hR0 hx0 hS0 hDs er1 er2 er3 hE hok hraw
  k_steps
  refine Halt.at ?_
  rename Fr _ _ _ _ => F0
  rename News _ _ _ _ => N0
  refine rtx_Ep ?_ (fr_map F0 (a := Str.ofString "pending") (b := Str.ofString "stack") (c := Str.ofString "found") (d := Str.ofString "table") rfl rfl rfl rfl)
  intro g0 hg0
  refine While_inv2 (VInv n Tx K out fu fl tb g0 rest) F0 N0
    ⟨_, ps0, os1, [], _, _, _, _, _, [], [], hg0, popDone_idem _, hR1, hi1, hE1, hS1, hD1, .nil, rfl, by simpa using hfu, by simp only [List.length_nil]; omega, rfl⟩ ?_ (by passes_own)
  clear hg0 F0 N0 hD1 hS1 hE1 hi1 hR1 hfu
  (repeat (rename News _ _ _ _ => Nq; clear Nq))
  intro i m₁ news₁ h₁ tk₁ F1 N1
  refine rtx_EEEEEEEEEEEpppppppppppp ?_
  intro stk ps os ys nr no nf sz ts f fv hm1 hpd hRw hi hEv hS hD hfv hf hb1 hb2 hnw
  replace F1 := fr_eq F1 hm1
  replace N1 := news_eq N1 hnw
  clear hnw
  clear hm1
  cases hRw with
  | nil =>
    cases hEv with
    | fin =>
      have hfv' : StrsAre fv.toArray.toList ys := by rw [List.toList_toArray]; exact hfv
      have hw : (ys.map (·.length)).sum + ys.length ≤ 1048576 := by rw [sum_len, ← hf]; omega
      unfold led at N1
      rw [rowsV_nil, rowsO_nil] at N1
      dsimp only [List.cons_append, List.nil_append] at N1
      cases hS
      k_steps
      refine hret _ _ _ _ ⟨f, sz, rfl, ⟨_, by rw [join_empty, ← hf]⟩, ts, no, rfl⟩ (by k_asm) (news_sub (news_sub (news := (K.gr, instObj 234 K.dg) :: (K.dg, grD K.qg K.lim sz ts K.ol) :: (K.ol, listOf ([] : List Value).toArray no) :: (K.lim, instObj 362 K.dl) :: (K.dl, liD K.ql K.md K.t1 K.ms K.t2) :: rest) (by k_asm) (by walk_at "perm")) ?_)
      intro p hp
      rcases List.mem_append.mp hp with hp | hp
      · exact List.mem_append_left ((K.lim, instObj 362 K.dl) :: (K.dl, liD K.ql K.md K.t1 K.ms K.t2) :: rest) (hup _ _ _ _ hp)
      · exact .tail _ (.tail _ (.tail _ hp))
  | @cons r p stk ps hr hrs =>
    obtain ⟨pnm, pits⟩ := p
    have hno := not_over hpd
    refine rtx_Epp ?_ (hr.cut)
    intro pre hcut hat
    have hrok := hr.ok
    have hrlen := hr.len
    have hrnm := hr.nm
    clear hr
    obtain ⟨cs', rr, rfl, hcs, hrr⟩ := split_its n pits hrok
    obtain ⟨i', hi', hEv1⟩ := hEv.chs cs'
    subst hi'
    clear hEv
    have hEv := hEv1
    clear hEv1
    have hvn := valNe hD
    obtain ⟨rp, rd, rq, rx, rtx, rnm, ra, rta⟩ := r
    dsimp only at hno hcut hat hrlen hrnm hvn
    subst hat
    rw [cpsOf_app, cpsOf_chs, ← List.append_assoc] at hcut
    have hxl : rx.length = pre.length + cs'.length + (cpsOf rr).length := by rw [len_is, hcut, List.length_append, List.length_append]
    replace hno := Keep.mk hno
    have u1 : Keep (K.st ≠ fl) := ⟨hvn.st_fl⟩
    have u2 : Keep (K.ds ≠ fl) := ⟨hvn.ds_fl⟩
    have u3 : Keep (K.rl ≠ fl) := ⟨hvn.rl_fl⟩
    have u4 : Keep (K.gr ≠ fl) := ⟨hvn.gr_fl⟩
    have u5 : Keep (K.dg ≠ fl) := ⟨hvn.dg_fl⟩
    have u6 : Keep (K.ol ≠ fl) := ⟨hvn.ol_fl⟩
    have u7 : Keep (K.lim ≠ fl) := ⟨hvn.lim_fl⟩
    have u8 : Keep (K.dl ≠ fl) := ⟨hvn.dl_fl⟩
    have u9 : Keep (rp ≠ fl) := ⟨hvn.p_fl⟩
    have u10 : Keep (rd ≠ fl) := ⟨hvn.d_fl⟩
    have u11 := hvn.R_fl
    replace N1 := led_open N1
    dsimp only at N1
    have hlen1 : (Row.mk rp rd rq rx rtx rnm pre.length rta :: stk).length ≤ 21 := by
      have := (Rows.cons ⟨hrnm, ⟨pre, by rw [cpsOf_app, cpsOf_chs, ← List.append_assoc]; exact hcut, rfl⟩, hrok, hrlen⟩ hrs : Rows n (Row.mk rp rd rq rx rtx rnm pre.length rta :: stk) _).len
      rw [this]
      exact Nat.le_trans hi.1 (Nat.succ_le_succ hi.2)
    have hlen2 : ∀ a' ta', (Row.mk rp rd rq rx rtx rnm a' ta' :: stk).length < 50 := fun _ _ => Nat.lt_of_le_of_lt hlen1 (by decide)
    have hxs2 : ∀ a' ta', ∀ r ∈ Row.mk rp rd rq rx rtx rnm a' ta' :: stk, r.x.length ≤ 1000 := fun _ _ => (fmc (hrlen) (hrs.short))
    have hR2 : IsRest (rowsO stk ++ rest) := trivial
    rename_i pv246_1
    revert qk ek hfv hf hrs hi hrok hcs hrr hb1 hb2 hEv hrlen hcut hrnm hvn hpd hS hD F1 hxl hno u9 u10 u11 N1 hlen1 hlen2 hxs2 hR2
    revert pv246_1 g0 h₁ tk₁ os ys nr no nf sz ts f fv stk ps pnm pre cs' rr i' rp rd rq rx rtx rnm rta
    refine @pick27 _ _ _ _ _ _ _ _ _ _ _ _ _ _ _ _ _ _ _ _ _ _ _ _ _ _ _ _ ?ne246 ?_
    (case ne246 => walk_at "ne")
    generalize ck27 _ = tU
    generalize hd2 tU = pv246_1, tl2 tU = tU
    generalize hd2 tU = g0, tl2 tU = tU
    generalize hd2 tU = h₁, tl2 tU = tU
    generalize hd2 tU = tk₁, tl2 tU = tU
    generalize hd2 tU = os, tl2 tU = tU
    generalize hd2 tU = ys, tl2 tU = tU
    generalize hd2 tU = nr, tl2 tU = tU
    generalize hd2 tU = no, tl2 tU = tU
    generalize hd2 tU = nf, tl2 tU = tU
    generalize hd2 tU = sz, tl2 tU = tU
    generalize hd2 tU = ts, tl2 tU = tU
    generalize hd2 tU = f, tl2 tU = tU
    generalize hd2 tU = fv, tl2 tU = tU
    generalize hd2 tU = stk, tl2 tU = tU
    generalize hd2 tU = ps, tl2 tU = tU
    generalize hd2 tU = pnm, tl2 tU = tU
    generalize hd2 tU = pre, tl2 tU = tU
    generalize hd2 tU = cs', tl2 tU = tU
    generalize hd2 tU = rr, tl2 tU = tU
    generalize hd2 tU = i', tl2 tU = tU
    generalize hd2 tU = rp, tl2 tU = tU
    generalize hd2 tU = rd, tl2 tU = tU
    generalize hd2 tU = rq, tl2 tU = tU
    generalize hd2 tU = rx, tl2 tU = tU
    generalize hd2 tU = rtx, tl2 tU = tU
    generalize hd2 tU = rnm, tl2 tU = rta
    intro qk ek hfv hf hrs hi hrok hcs hrr hb1 hb2 hEv hrlen hcut hrnm hvn hpd hS hD F1 hxl hno u9 u10 u11 N1 hlen1 hlen2 hxs2 hR2
    k_steps
    refine Halt.at ?_
    refine Ctr.use (run_ctr (nm := nmV rnm) hrlen hvn.p_d ?_ hcut (fun c hc => ⟨(hcs c hc).1, (hcs c hc).2.1⟩) ?_) (by k_asm) ?_ (by rintro _ _ _ _ _ _ _ _ ⟨⟩)
    · exact (fmc (hvn.st_d) ((fmc (hvn.ds_d) ((fmc (hvn.rl_d) ((fmc (hvn.gr_d) ((fmc (hvn.dg_d) ((fmc (hvn.ol_d) ((fmc (hvn.lim_d) ((fmc (hvn.dl_d) ((fmc (hvn.fl_d) (hvn.R_d))))))))))))))))))
    · rcases hrr with rfl | ⟨k, r', rfl, hk⟩
      · rintro c ⟨⟩
      · intro c hc
        have : c = 38 := by simpa [cpsOf, It.cps] using hc.symm
        exact .inl this
    refine rts_EEvn ?_
    intro t2 ta2 h' tk' F1 N1
    revert qk ek F1 N1
    revert t2 ta2 h' tk'
    refine @pick4 _ _ _ _ _ ?ne258 ?_
    (case ne258 => walk_at "ne")
    generalize ck4 _ = tU
    generalize hd2 tU = t2, tl2 tU = tU
    generalize hd2 tU = ta2, tl2 tU = tU
    generalize hd2 tU = h', tl2 tU = tk'
    intro qk ek F1 N1
    k_steps
    refine Halt.at ?_
    refine Ctr.use (blank_ctr (x := ⟨cs'.toArray⟩) (by rw [len_is]; simp only [List.toList_toArray]; omega) (fun c hc => (hcs c (by simpa using hc)).2.2)) (by k_asm) ?_ (by rintro _ _ _ _ _ _ _ _ ⟨⟩)
    refine rts_oEvcn ?_
    intro t3 h' tk' F1 N1
    have dum3 : Unit := ()
    revert qk ek F1 N1
    revert t3 h' tk' dum3
    refine @pick4 _ _ _ _ _ ?ne264 ?_
    (case ne264 => walk_at "ne")
    generalize ck4 _ = tU
    generalize hd2 tU = t3, tl2 tU = tU
    generalize hd2 tU = h', tl2 tU = tU
    generalize hd2 tU = tk'
    intro qk ek F1 N1
    have hfl : fv.length ≤ 20000 := by rw [strsAre_len hfv]; omega
    k_steps
    refine Halt.at ?_
    refine Ctr.use (is_over_ctr (nm := nmV rnm) hrlen) (by k_asm) ?_ (by rintro _ _ _ _ _ _ _ _ ⟨⟩)
    refine rts_vn ?_
    intro h' tk' F1 N1
    revert qk ek F1 N1
    revert h' tk'
    refine @pick2 _ _ _ ?ne271 ?_
    (case ne271 => walk_at "ne")
    generalize ck2 _ = tU
    generalize hd2 tU = h', tl2 tU = tk'
    intro qk ek F1 N1
    rename News _ _ _ _ => NN
    rw [List.push_toArray] at NN
    replace NN := Keep.mk NN
    (repeat (rename News _ _ _ _ => Nq; clear Nq))
    replace NN := NN.out
    rcases hrr with rfl | ⟨k, r', rfl, hk⟩
    · have hov : ((((pre ++ cs').length : Nat) : Int) == ((rx.length : Nat) : Int)) = true := by
        rw [hxl, List.length_append]
        simp [cpsOf]
      rw [hov]
      k_steps
      refine Halt.at ?_
      refine Ctr.use (top_ctr (K := K) (stk := ⟨rp, rd, rq, rx, rtx, rnm, (pre ++ cs').length, ta2⟩ :: stk) (rest := (fl, listOf (fv ++ [Value.str ⟨cs'.toArray⟩ t3]).toArray _) :: rest) (dis_row hD rfl rfl) hS (hlen2 _ _) (hxs2 _ _)) (led_close NN) ?_ (by rintro _ _ _ _ _ _ _ _ ⟨⟩)
      refine rts_vEEEppn ?_
      intro nr1 no1 os1 hS1 hD1 h' tk' F1 N1
      have dum5 : Unit := ()
      revert qk ek hS1 hD1 F1 N1
      revert nr1 no1 os1 h' tk' dum5
      refine @pick6 _ _ _ _ _ _ _ ?ne287 ?_
      (case ne287 => walk_at "ne")
      generalize ck6 _ = tU
      generalize hd2 tU = nr1, tl2 tU = tU
      generalize hd2 tU = no1, tl2 tU = tU
      generalize hd2 tU = os1, tl2 tU = tU
      generalize hd2 tU = h', tl2 tU = tU
      generalize hd2 tU = tk'
      intro qk ek hS1 hD1 F1 N1
      k_steps
      have hrv : RowIs n (Row.mk rp rd rq rx rtx rnm (pre ++ cs').length ta2) (pnm, []) := ⟨hrnm, ⟨pre ++ cs', hcut, rfl⟩, by simp, hrlen⟩
      refine rtx_EEpppp ?_ ((Rows.cons hrv hrs).pop hEv hi)
      intro m' ps' hm' hR3 hE3 hi3
      have hpos : 0 < cs'.length := by
        rcases Nat.eq_zero_or_pos cs'.length with z | z
        · exfalso
          exact hno.out (by rw [hxl, z]; rfl)
        · exact z
      exact ⟨_, _, _, _, m', rfl, by k_asm, by k_asm, by omega, _, ps', os1, ys ++ [⟨cs'.toArray⟩], _, _, _, _, _, f ++ cs', _, one_pend, popDone_idem _, hR3, hi3, hE3, hS1, hD1, strsAre_snoc hfv _ _, by rw [hf, List.flatMap_append]; simp, by rw [List.length_append]; omega, by rw [List.length_append, List.length_singleton]; omega, rfl⟩
    · have hov : ((((pre ++ cs').length : Nat) : Int) == ((rx.length : Nat) : Int)) = false := by
        rw [hxl, List.length_append]
        simp [cpsOf, It.cps]
        omega
      rw [hov]
      have hlt : (pre ++ cs').length < rx.length := by
        rw [hxl, List.length_append]
        simp [cpsOf, It.cps]
      have hit : Keep (Txt.item rx ((pre ++ cs').length : Nat) = ⟨#[38]⟩) := ⟨item_is (by rw [hcut]; simp [cpsOf, It.cps])⟩
      have hk4 : k < 4 := Nat.lt_of_lt_of_le hk hn
      have hcut2 : rx.cps.toList = (pre ++ cs') ++ 38 :: 101 :: (48 + k) :: 59 :: cpsOf r' := hcut
      k_steps
      · exfalso
        rename (_ = _) => hq
        rw [hit.out] at hq
        exact absurd hq (by decide)
      refine Halt.at ?_
      refine Ctr.use (reference_ctr (nm := nmV rnm) hrlen hvn.p_d ?_ hcut2 (by omega)) NN ?_ (by rintro _ _ _ _ _ _ _ _ ⟨⟩)
      · exact (fmc (hvn.st_d) ((fmc (hvn.ds_d) ((fmc (hvn.rl_d) ((fmc (hvn.gr_d) ((fmc (hvn.dg_d) ((fmc (hvn.ol_d) ((fmc (hvn.lim_d) ((fmc (hvn.dl_d) ((fmc (hvn.fl_d) (hvn.R_d))))))))))))))))))
      refine rts_EEvn ?_
      intro t4 ta4 h' tk' F1 N1
      revert qk ek hk hi hrok hEv hcut hxl hk4 hcut2 F1 N1
      revert k r' t4 ta4 h' tk'
      refine @pick6 _ _ _ _ _ _ _ ?ne319 ?_
      (case ne319 => walk_at "ne")
      generalize ck6 _ = tU
      generalize hd2 tU = k, tl2 tU = tU
      generalize hd2 tU = r', tl2 tU = tU
      generalize hd2 tU = t4, tl2 tU = tU
      generalize hd2 tU = ta4, tl2 tU = tU
      generalize hd2 tU = h', tl2 tU = tk'
      intro qk ek hk hi hrok hEv hcut hxl hk4 hcut2 F1 N1
      replace N1 := Keep.mk N1
      (repeat (rename News _ _ _ _ => Nq; clear Nq))
      replace N1 := N1.out
      k_steps
      refine Halt.at ?_
      have hRw2 : Rows n (Row.mk rp rd rq rx rtx rnm ((pre ++ cs').length + 4) ta4 :: stk) ((pnm, r') :: ps) := .cons ⟨hrnm, cutRef hcut2, fun i hi => hrok i (List.mem_append_right _ (.tail _ hi)), hrlen⟩ hrs
      have hRw1 : Rows n (Row.mk rp rd rq rx rtx rnm ((pre ++ cs').length + 4) ta4 :: stk) ((pnm, r') :: ps) := hRw2
      have hk2 := htx k hk
      refine Ctr.use (sign_ctr (K := K) (k := k) (stk := Row.mk rp rd rq rx rtx rnm ((pre ++ cs').length + 4) ta4 :: stk) (rest := (fl, listOf (fv ++ [Value.str ⟨cs'.toArray⟩ t3]).toArray _) :: rest) (dis_row hD rfl rfl) hS (hlen2 _ _) (hT.mono fun p hp => List.mem_cons_of_mem _ hp) hk4 hk hk2.2.2) (led_close N1) ?_ ?_
      · refine rts_pppoEvcEEEEppppn ?_
        intro te r2 nr' no' ts' hm hl hb e1 e2 e3 hD2 h' tk' F1 N1
        have dum7 : Unit := ()
        revert qk ek e1 e2 e3 hD2 F1 N1
        revert te r2 nr' no' ts' h' tk' dum7
        refine @pick8 _ _ _ _ _ _ _ _ _ ?ne331 ?_
        (case ne331 => walk_at "ne")
        generalize ck8 _ = tU
        generalize hd2 tU = te, tl2 tU = tU
        generalize hd2 tU = r2, tl2 tU = tU
        generalize hd2 tU = nr', tl2 tU = tU
        generalize hd2 tU = no', tl2 tU = tU
        generalize hd2 tU = ts', tl2 tU = tU
        generalize hd2 tU = h', tl2 tU = tU
        generalize hd2 tU = tk'
        intro qk ek e1 e2 e3 hD2 F1 N1
        obtain ⟨m2, rfl, hEv2⟩ := hEv.go hRw2 hm hl hb hk2.1
        have hvn2 := valNe hD2
        obtain ⟨rp2, rd2, rq2, rx2, rtx2, rnm2, ra2, rta2⟩ := r2
        dsimp only at e1 e2 e3 hvn2
        subst e1 e2 e3
        have w1 : Keep (rp2 ≠ fl) := ⟨hvn2.p_fl⟩
        have w2 : Keep (rd2 ≠ fl) := ⟨hvn2.d_fl⟩
        have w3 := hvn2.R_fl
        replace N1 := Keep.mk (led_open N1)
        (repeat (rename News _ _ _ _ => Nq; clear Nq))
        replace N1 := N1.out
        dsimp only at N1
        have hR3 : IsRest (rowsO (Row.mk rp rd rq rx rtx rnm ((pre ++ cs').length + 4) ta4 :: stk) ++ rest) := trivial
        have hfl2 : (fv ++ [Value.str ⟨cs'.toArray⟩ t3]).length ≤ 20001 := by rw [List.length_append, List.length_singleton]; omega
        have hS2 : StrsAre _ (opens (Row.mk rp2 rd2 rq2 (txt k) rtx2 (some (en k, t4)) 0 rta2 :: Row.mk rp rd rq rx rtx rnm ((pre ++ cs').length + 4) ta4 :: stk)) := (opens_some (r := Row.mk rp2 rd2 rq2 (txt k) rtx2 (some (en k, t4)) 0 rta2) rfl (Row.mk rp rd rq rx rtx rnm ((pre ++ cs').length + 4) ta4 :: stk)).symm ▸ strsAre_snoc hS (en k) t4
        k_steps
        refine Halt.at ?_
        rename News _ _ _ _ => NN
        rw [List.push_toArray] at NN
        refine Ctr.use (top_ctr (K := K) (stk := Row.mk rp2 rd2 rq2 (txt k) rtx2 (some (en k, t4)) 0 rta2 :: Row.mk rp rd rq rx rtx rnm ((pre ++ cs').length + 4) ta4 :: stk) (rest := (fl, listOf ((fv ++ [Value.str ⟨cs'.toArray⟩ t3]) ++ [Value.str ⟨#[]⟩ te]).toArray _) :: rest) (dis_row hD2 rfl rfl) hS2 (Nat.lt_of_le_of_lt (Nat.succ_le_succ hlen1) (by decide)) ((fmc (hk2.2.2) (hxs2 _ _)))) (led_close NN) ?_ (by rintro _ _ _ _ _ _ _ _ ⟨⟩)
        refine rts_vEEEppn ?_
        intro nr1 no1 os1 hS1 hD1 h' tk' F1 N1
        rename_i pv354_1 _ _
        clear NN
        revert qk ek hEv2 hb1 hb2 hEv hvn2 hD2 w1 w2 pv354_1 hS2 hS1 hD1 F1 N1
        revert m2 rp2 rd2 rq2 rtx2 rta2 nr1 no1 os1 h' tk'
        refine @pick11 _ _ _ _ _ _ _ _ _ _ _ _ ?ne354 ?_
        (case ne354 => walk_at "ne")
        generalize ck11 _ = tU
        generalize hd2 tU = m2, tl2 tU = tU
        generalize hd2 tU = rp2, tl2 tU = tU
        generalize hd2 tU = rd2, tl2 tU = tU
        generalize hd2 tU = rq2, tl2 tU = tU
        generalize hd2 tU = rtx2, tl2 tU = tU
        generalize hd2 tU = rta2, tl2 tU = tU
        generalize hd2 tU = nr1, tl2 tU = tU
        generalize hd2 tU = no1, tl2 tU = tU
        generalize hd2 tU = os1, tl2 tU = tU
        generalize hd2 tU = h', tl2 tU = tk'
        intro qk ek hEv2 hb1 hb2 hEv hvn2 hD2 w1 w2 pv354_1 hS2 hS1 hD1 F1 N1
        k_steps
        have hi2 := hi.put (r' := r') (its' := Tx k) (k := k) (by have e := hRw2.count; have e2 : (ops ((pnm, cs'.map It.ch ++ .ref k :: r') :: ps)).length = (ops ((pnm, r') :: ps)).length := (by cases pnm <;> rfl); omega)
        have hrv : RowIs n (Row.mk rp2 rd2 rq2 (txt k) rtx2 (some (en k, t4)) 0 rta2) (some k, Tx k) := ⟨rfl, ⟨[], hk2.1, rfl⟩, hk2.2.1, hk2.2.2⟩
        refine rtx_EEpppp ?_ ((Rows.cons hrv hRw1).pop hEv2 hi2)
        intro m' ps' hm' hR3 hE3 hi3
        exact ⟨_, _, _, _, m', rfl, by k_asm, by k_asm, by omega, _, ps', os1, ys ++ [⟨cs'.toArray⟩] ++ [⟨#[]⟩], _, _, _, _, _, f ++ cs', _, one_pend, popDone_idem _, hR3, hi3, hE3, hS1, hD1, strsAre_snoc (strsAre_snoc hfv _ _) _ _, by rw [hf, List.flatMap_append, List.flatMap_append]; simp, by rw [List.length_append]; omega, by rw [List.length_append, List.length_append, List.length_singleton, List.length_singleton]; omega, rfl⟩
      · rintro e C t vs newsX G h' tk' ⟨hC, rfl⟩ F1 R1 U1
        k_steps
        exact hexc _ _ _ _ _ _ _ _ ⟨hEv.fall hRw2 hk2.1 hC, rfl⟩ (by assumption) (raisedS_sub (by assumption) (by walk_at "perm")) (by assumption)
end
end Mine
namespace Mine
/-- what a reading that is told gives back, and what of the ledger stays -/
def ToldIs (g : Gin) (lim : Addr) (o1 o2 : Addr × Obj) (rest : List (Addr × Obj)) : Out → Value → List (Addr × Obj) → Prop
  | .txt f sz', v, news' => (∃ t, v = .str ⟨f.toArray⟩ t) ∧ ∃ ts' no', news' = (g.upd ts' no').objs lim sz' ++ o1 :: o2 :: rest
  | .lim, v, news' => (∃ t, v = .int 1 t) ∧ news' = o1 :: o2 :: rest
  | .ent, v, news' => (∃ t, v = .int 2 t) ∧ news' = o1 :: o2 :: rest
/-- a contract of a def within which faults are caught: the ground of the caller's frame is another one behind it -/
def CtrS (w : World) (mean : ExcName → Option Value) (mg mb : Str → Option Value) (need : Nat) (f : Addr) (args : List Value) (news : List (Addr × Obj)) (Post : Value → List (Addr × Obj) → Prop) : Prop :=
  ∀ (dp un : Nat) (gd : Option (List Code)) (cn : Str) (cs : Scope) (a : Addr) (ccd : Value) (outer : List Env) (A₀ : Around) (base h₀ : Heap) (L : Addr) (m : Str → Option Value) (s : Shared) (Q E : Value → Shared → Prop),
    Below A₀ base outer h₀ → Fr h₀ L s.heap m → (hd.heap_39 w.params).In h₀ → News h₀ L s.heap news → Top VW LO mean mg mb h₀ → (hd.heap_39 w.params).In base → Top VW LO mean mg mb base → KtsDicts (outer.filterMap (·.frame)) h₀ →
    cs.kind = .function → dp + need < recursionLimit → un + 8 * need < cLine →
    (∀ v news' h' tk' h₁, Post v news' → KtsTurn (outer.filterMap (·.frame)) h₀ h₁ → Fr h₁ L h' m → News h₁ L h' news' → Below A₀ base outer h₁ → (hd.heap_39 w.params).In h₁ → Top VW LO mean mg mb h₁ → KtsDicts (outer.filterMap (·.frame)) h₁ → Q v { s with heap := h', toks := tk' }) →
    wpAny (model PG w) (ktrTop dp un gd cn cs L a ccd [] outer) (call (.ref f) args) Q E s
section
local macro_rules | `(tactic| walk_at "call ref") => `(tactic| (k_here; (with_reducible show wpAny _ _ (call (Value.ref 330) _) _ _ _); (try dsimp only); refine Halt.go ?_))
theorem told_ctr {w : World} {mean : ExcName → Option Value} {mg mb : Str → Option Value} {g : Gin} {tb lim tlim dl : Addr} {ql : M3} {md ms sz : Int} {t1 t2 tr : Tok} {rest : List (Addr × Obj)} {n fu : Nat} {txt : Nat → Str} {raw : Str} {Tx : Nat → List It} {its : List It} {out : Out}
    (hg : g = .fresh → tlim = lim ∧ sz = 0) (hD : Dis (g.objs lim sz ++ (lim, instObj 362 dl) :: (dl, liD ql md t1 ms t2) :: rest)) (hT : IsTab w tb tlim n txt rest) (hn : n ≤ 4) (hmd : md ≤ 20)
    (hraw : raw.cps.toList = cpsOf its) (hok : ∀ i ∈ its, i.ok n) (hrl : raw.length ≤ 1000) (htx : ∀ k < n, (txt k).cps.toList = cpsOf (Tx k) ∧ (∀ i ∈ Tx k, i.ok n) ∧ (txt k).length ≤ 1000) (hE : Ev Tx md ms out fu [(none, its)] sz []) (hN : fu ≤ 10000) :
    CtrS w mean mg mb 32 550 [.str raw tr, .ref tb, g.val] (g.objs lim sz ++ (lim, instObj 362 dl) :: (dl, liD ql md t1 ms t2) :: rest)
      (ToldIs g lim (lim, instObj 362 dl) (dl, liD ql md t1 ms t2) rest out) := by
  have dum24 : Unit := ()
  have dum25 : Unit := ()
  have dum26 : Unit := ()
  revert hg hD hT hn hmd hraw hok hrl htx hE hN
  revert w mean mg mb g tb lim tlim dl ql md ms sz t1 t2 tr rest n fu txt raw Tx its out dum24 dum25 dum26
  refine @pick27 _ _ _ _ _ _ _ _ _ _ _ _ _ _ _ _ _ _ _ _ _ _ _ _ _ _ _ _ ?ne71 ?_
  (case ne71 => walk_at "ne")
  generalize ck27 _ = tU
  generalize hd2 tU = w, tl2 tU = tU
  generalize hd2 tU = mean, tl2 tU = tU
  generalize hd2 tU = mg, tl2 tU = tU
  generalize hd2 tU = mb, tl2 tU = tU
  generalize hd2 tU = g, tl2 tU = tU
  generalize hd2 tU = tb, tl2 tU = tU
  generalize hd2 tU = lim, tl2 tU = tU
  generalize hd2 tU = tlim, tl2 tU = tU
  generalize hd2 tU = dl, tl2 tU = tU
  generalize hd2 tU = ql, tl2 tU = tU
  generalize hd2 tU = md, tl2 tU = tU
  generalize hd2 tU = ms, tl2 tU = tU
  generalize hd2 tU = sz, tl2 tU = tU
  generalize hd2 tU = t1, tl2 tU = tU
  generalize hd2 tU = t2, tl2 tU = tU
  generalize hd2 tU = tr, tl2 tU = tU
  generalize hd2 tU = rest, tl2 tU = tU
  generalize hd2 tU = n, tl2 tU = tU
  generalize hd2 tU = fu, tl2 tU = tU
  generalize hd2 tU = txt, tl2 tU = tU
  generalize hd2 tU = raw, tl2 tU = tU
  generalize hd2 tU = Tx, tl2 tU = tU
  generalize hd2 tU = its, tl2 tU = tU
  generalize hd2 tU = out
  intro hg hD hT hn hmd hraw hok hrl htx hE hN
  have hV : Keep _ := ⟨@value_ctr w mean mg mb g tb lim tlim dl ql md ms sz t1 t2 tr rest n fu txt raw Tx its out hg hD hT hn hmd hraw hok hrl htx hE hN⟩
  clear hg hD hT hn hmd hraw hok hrl htx hE hN
  generalize hgo : g.objs lim sz ++ (lim, instObj 362 dl) :: (dl, liD ql md t1 ms t2) :: rest = go at hV ⊢
  generalize hgv : g.val = gv at hV ⊢
  unfold CtrS
  delta PG VW LO at *
  k_fill
  have hR : IsRest rest := trivial
  intro dp un gd cn cs a ccd outer A₀ base h₀ L m s Q E B F X N T XB TB D hk hd hu hret
  refine wpAny_call ?_
  k_dflt (refine' code_defS ?k1 ?k2 ?k3 ?k4 ?k5 ?XB ?TB ?D ?T0 ?kA ?k6 ?k7 ?k8 ?k9 ?kB ?_ ?cK ?c2 ?c3 ?c4 ?c5; (case kA => exact rfl); (case k2 => k_asm); (case k1 => k_asm); (case XB => assumption); (case TB => assumption); (case D => assumption); (case T0 => exact KtsTurn.refl); (case k3 => k_asm); (case k4 => k_asm); (case k5 => k_asm); (case k6 => k_is); (case k7 => k_is); (case k8 => k_room); (case k9 => first | exact binds_K (by k_in) rfl (by k_is) rfl rfl rfl | exact BindsTo.of_eq rfl); (case kB => exact locs rfl); (case cK => exact hk); (case c2 => exact rfl); (case c3 => exact rfl); (case c4 => exact rfl); (case c5 => decide); k_whole; intro g' L' h' FG' F' N' B' X' T' D'; (try dsimp only); (try k_lift B'); (try k_fold))
  k_steps
  refine Halt.at ?_
  refine Ctr.use hV.out (by k_asm) ?_ ?_
  · rintro v news' h' tk' ⟨f, sz', rfl, ⟨t, rfl⟩, ts', no', rfl⟩ F1 N1
    clear hV
    k_sweep
    k_steps
    exact hret _ _ _ _ _ ⟨⟨_, rfl⟩, _, _, rfl⟩ KtsTurn.refl (by k_asm) (by k_asm) (by k_asm) (by k_asm) (by k_asm) (by k_asm)
  · rintro e C t vs newsX G h' tk' ⟨hC, rfl⟩ F1 R1 U1
    clear hV
    rcases hC with ⟨rfl, rfl⟩ | ⟨rfl, rfl⟩
    · k_steps
      exact hret _ _ _ _ _ ⟨⟨_, rfl⟩, rfl⟩ (by with_reducible assumption) (by k_asm) (by k_asm) (by k_asm) (by k_asm) (by k_asm) (by k_asm)
    · k_steps
      exact hret _ _ _ _ _ ⟨⟨_, rfl⟩, rfl⟩ (by with_reducible assumption) (by k_asm) (by k_asm) (by k_asm) (by k_asm) (by k_asm) (by k_asm)
end
end Mine
namespace Mine
section
local macro_rules | `(tactic| walk_at "call ref") => `(tactic| (k_here; (with_reducible show wpAny _ _ (call (Value.ref 189) _) _ _ _); refine Halt.go ?_))
local macro_rules | `(tactic| walk_at "compareOp In str ref") => `(tactic| (k_here; k_dflt (refine kda_in (knd := PySem.strKind _ _) (by k_asm) (by k_mem) (by with_reducible assumption) (by with_reducible assumption) (strKind_is _ _ _ _) false (by with_reducible assumption) ?_)))
local macro_rules | `(tactic| walk_at "setItem ref str") => `(tactic| (k_here; k_dflt (refine' kda_set (knd := PySem.strKind _ _) ?F ?N ?U ?d (strKind_is _ _ _ _) ?z ?_; (case F => k_asm); (case N => k_asm); (case U => k_updF); (case d => k_asm); (case z => rw [sizeLine_eq]; omega)); intro h' o' F' N' hd'; (try dsimp only at N'); (try k_sweep)))
theorem declare_ctr {w : World} {mean : ExcName → Option Value} {mg mb : Str → Option Value} {tb td lim ou gn pa : Addr} {rest : List (Addr × Obj)} {q : M4} {o : Obj} {kvs : List (Str × Value)} {nm x : Str} {tn tx : Tok}
    (hd : o.IsDictOf (PySem.strKind PG w) kvs) (hlo : (gn == sysModules) = false) (hv : valueAt kvs nm = none) (hl : kvs.length ≤ 100) (h1 : tb ≠ gn) (h2 : td ≠ gn) (hr : ∀ p ∈ rest, p.1 ≠ gn) (hn : nm = ⟨#[101, 48]⟩ ∨ nm = ⟨#[101, 49]⟩ ∨ nm = ⟨#[101, 50]⟩ ∨ nm = ⟨#[101, 51]⟩) :
    Ctr w mean mg mb 6 438 [.ref tb, .bool false, .str nm tn, .str x tx] ((tb, instObj 497 td) :: (td, tbD q lim ou gn pa) :: (gn, o) :: rest)
      (fun v news' => ∃ ep ed q2 o', v = .bool true ∧ o'.IsDictOf (PySem.strKind PG w) (kvs ++ [(nm, .ref ep)]) ∧ @LT.lt Nat _ tb ed ∧ @LT.lt Nat _ td ed ∧ @LT.lt Nat _ gn ed ∧ (∀ p ∈ rest, p.1 < ed) ∧ @LT.lt Nat _ ed ep ∧
        news' = (ep, instObj 397 ed) :: (ed, enD q2 nm tn x tx) :: (tb, instObj 497 td) :: (td, tbD q lim ou gn pa) :: (gn, o') :: rest)
      (fun _ _ => False) := by
  have hvi : (valueAt kvs nm).isSome = false := by rw [hv]; rfl
  have hp : Keep _ := ⟨@pre_nm w mean mg mb tn ((tb, instObj 497 td) :: (td, tbD q lim ou gn pa) :: (gn, o) :: rest) nm hn⟩
  clear hn
  unfold Ctr
  delta PG VW LO at *
  k_fill
  have hR : IsRest rest := trivial
  intro dp un gd cn cs a ccd cl outer A₀ base h₀ L m s Q E B F X N T hk hdp hu hret hexc
  have dum35 : Unit := ()
  have dum36 : Unit := ()
  have dum37 : Unit := ()
  revert hd hlo hv hl h1 h2 hr hvi hp hR B F X N T hk hdp hu hret hexc
  revert w mean mg mb tb td lim ou gn pa rest q o kvs nm x tn tx dp un gd cn cs a ccd cl outer A₀ base h₀ L m s Q E dum35 dum36 dum37
  refine @pick38 _ _ _ _ _ _ _ _ _ _ _ _ _ _ _ _ _ _ _ _ _ _ _ _ _ _ _ _ _ _ _ _ _ _ _ _ _ _ _ ?ne70 ?_
  (case ne70 => walk_at "ne")
  generalize ck38 _ = tU
  generalize hd2 tU = w, tl2 tU = tU
  generalize hd2 tU = mean, tl2 tU = tU
  generalize hd2 tU = mg, tl2 tU = tU
  generalize hd2 tU = mb, tl2 tU = tU
  generalize hd2 tU = tb, tl2 tU = tU
  generalize hd2 tU = td, tl2 tU = tU
  generalize hd2 tU = lim, tl2 tU = tU
  generalize hd2 tU = ou, tl2 tU = tU
  generalize hd2 tU = gn, tl2 tU = tU
  generalize hd2 tU = pa, tl2 tU = tU
  generalize hd2 tU = rest, tl2 tU = tU
  generalize hd2 tU = q, tl2 tU = tU
  generalize hd2 tU = o, tl2 tU = tU
  generalize hd2 tU = kvs, tl2 tU = tU
  generalize hd2 tU = nm, tl2 tU = tU
  generalize hd2 tU = x, tl2 tU = tU
  generalize hd2 tU = tn, tl2 tU = tU
  generalize hd2 tU = tx, tl2 tU = tU
  generalize hd2 tU = dp, tl2 tU = tU
  generalize hd2 tU = un, tl2 tU = tU
  generalize hd2 tU = gd, tl2 tU = tU
  generalize hd2 tU = cn, tl2 tU = tU
  generalize hd2 tU = cs, tl2 tU = tU
  generalize hd2 tU = a, tl2 tU = tU
  generalize hd2 tU = ccd, tl2 tU = tU
  generalize hd2 tU = cl, tl2 tU = tU
  generalize hd2 tU = outer, tl2 tU = tU
  generalize hd2 tU = A₀, tl2 tU = tU
  generalize hd2 tU = base, tl2 tU = tU
  generalize hd2 tU = h₀, tl2 tU = tU
  generalize hd2 tU = L, tl2 tU = tU
  generalize hd2 tU = m, tl2 tU = tU
  generalize hd2 tU = s, tl2 tU = tU
  generalize hd2 tU = Q, tl2 tU = tU
  generalize hd2 tU = E
  intro hd hlo hv hl h1 h2 hr hvi hp hR B F X N T hk hdp hu hret hexc
  refine wpAny_call ?_
  k_dflt (walk_at "enter with defaults")
  rename_i pv73_9 pv73_8 pv73_7 pv73_6 pv73_5 pv73_4 pv73_3 pv73_2 pv73_1
  have dum3 : Unit := ()
  revert pv73_6 pv73_5 pv73_4 pv73_3 pv73_2 pv73_1 qk ek
  revert pv73_9 pv73_8 pv73_7 dum3
  refine @pick4 _ _ _ _ _ ?ne73 ?_
  (case ne73 => walk_at "ne")
  generalize ck4 _ = tU
  generalize hd2 tU = pv73_9, tl2 tU = tU
  generalize hd2 tU = pv73_8, tl2 tU = tU
  generalize hd2 tU = pv73_7
  intro pv73_6 pv73_5 pv73_4 pv73_3 pv73_2 pv73_1 qk ek
  k_steps
  refine Halt.at ?_
  refine Ctr.use hp.out (by k_asm) ?_ (by rintro _ _ _ _ _ _ _ _ ⟨⟩)
  refine rts_vn ?_
  intro h' tk' F1 N1
  k_sweep
  revert qk ek F1 N1
  revert h' tk'
  refine @pick2 _ _ _ ?ne80 ?_
  (case ne80 => walk_at "ne")
  generalize ck2 _ = tU
  generalize hd2 tU = h', tl2 tU = tk'
  intro qk ek F1 N1
  k_steps
  rename Obj.IsDictOf _ _ _ => hdd
  rw [stored_absent hv] at hdd
  rename RestLt _ _ => hX
  exact hret _ _ _ _ ⟨_, _, ⟨_, _, _, _, _, _, _, _⟩, _, rfl, hdd, by omega, by omega, by omega, hX, by omega, rfl⟩ (by k_asm) (by k_asm)
end
end Mine
namespace Mine
/-- the shape of a text ahead of which texts stand: signs and references to j -/
def Of (j : Option Nat) (its : List It) : Prop := ∀ i ∈ its, (∃ c, i = .ch c) ∨ ∃ k, i = .ref k ∧ j = some k
def refs : List It → Nat
  | [] => 0
  | .ch _ :: l => refs l
  | .ref _ :: l => refs l + 1
/-- what a text comes to where each reference comes to e -/
def fill (e : List Nat) : List It → List Nat
  | [] => []
  | .ch c :: l => c :: fill e l
  | .ref _ :: l => e ++ fill e l
/-- what the k-th text comes to -/
def full (T : Nat → List It) : Nat → List Nat
  | 0 => fill [] (T 0)
  | k + 1 => fill (full T k) (T (k + 1))
/-- the signs that are put in for a reference to the k-th text -/
def cost (T : Nat → List It) : Nat → Nat
  | 0 => (cpsOf (T 0)).length
  | k + 1 => (cpsOf (T (k + 1))).length + refs (T (k + 1)) * cost T k
def pre? : Nat → Option Nat
  | 0 => none
  | k + 1 => some k
/-- the texts as they are built, up to the m-th -/
def Texts (T : Nat → List It) (m : Nat) : Prop := ∀ k < m, Of (pre? k) (T k) ∧ (T k).length ≤ 5 ∧ refs (T k) ≤ 2
def steps : Nat → Nat
  | 0 => 7
  | k + 1 => 7 + 2 * steps k
section
variable {T : Nat → List It} {md ms : Int} {o : Out}
theorem Of.tl {j : Option Nat} {i : It} {its : List It} (h : Of j (i :: its)) : Of j its := fun x hx => h x (.tail _ hx)
theorem ops_cons {nm : Option Nat} {its its' : List It} {ps : List PRow} : ops ((nm, its) :: ps) = ops ((nm, its') :: ps) := by cases nm <;> rfl
/-- a text is read through, where each reference is put in as a whole -/
theorem Ev.through (k : Nat) (ps : List PRow) (nm : Option Nat) (N : Nat)
    (hfull : ∀ {n : Nat} {its : List It} {sz : Int} {f : List Nat}, sz + (cost T k : Nat) ≤ ms → Ev T md ms o n ((nm, its) :: ps) (sz + (cost T k : Nat)) (f ++ full T k) → ∃ n', n' ≤ n + N ∧ Ev T md ms o n' ((nm, .ref k :: its) :: ps) sz f) :
    ∀ (its r : List It) {n : Nat} {sz : Int} {f : List Nat}, Of (some k) its → sz + ((refs its * cost T k : Nat) : Int) ≤ ms →
      Ev T md ms o n ((nm, r) :: ps) (sz + ((refs its * cost T k : Nat) : Int)) (f ++ fill (full T k) its) → ∃ n', n' ≤ n + its.length + refs its * N ∧ Ev T md ms o n' ((nm, its ++ r) :: ps) sz f
  | [], r, n, sz, f, _, _, h => ⟨n, by simp, by simpa [refs, fill] using h⟩
  | .ch c :: its, r, n, sz, f, ho, hb, h => by
    obtain ⟨n', h1, h2⟩ := Ev.through k ps nm N hfull its r (n := n) (sz := sz) (f := f ++ [c]) ho.tl hb (by simpa [refs, fill] using h)
    exact ⟨n' + 1, by simp only [refs, List.length_cons]; (first | lia | omega), .ch h2⟩
  | .ref j :: its, r, n, sz, f, ho, hb, h => by
    have hj : j = k := by
      rcases ho _ (.head _) with ⟨c, e⟩ | ⟨k', e, e'⟩
      · cases e
      · cases e; cases e'; rfl
    subst hj
    have e : ((refs (.ref j :: its) * cost T j : Nat) : Int) = (cost T j : Nat) + ((refs its * cost T j : Nat) : Int) := by
      simp only [refs]; rw [Nat.add_mul, Nat.one_mul]; (first | lia | omega)
    rw [e] at hb h
    obtain ⟨n', h1, h2⟩ := Ev.through j ps nm N hfull its r (n := n) (sz := sz + (cost T j : Nat)) (f := f ++ full T j) ho.tl (by (first | lia | omega)) (by
      rw [Int.add_assoc, List.append_assoc]; exact h)
    obtain ⟨n'', h3, h4⟩ := hfull (n := n') (its := its ++ r) (sz := sz) (f := f) (by (first | lia | omega)) h2
    refine ⟨n'', ?_, h4⟩
    simp only [refs, List.length_cons]
    rw [Nat.add_mul, Nat.one_mul]
    (first | lia | omega)
theorem Ev.sole (k : Nat) : ∀ (its r : List It) {n : Nat} {nm : Option Nat} {ps : List PRow} {sz : Int} {f : List Nat}, Of none its → Ev T md ms o n ((nm, r) :: ps) sz (f ++ fill [] its) → ∃ n', n' ≤ n + its.length ∧ Ev T md ms o n' ((nm, its ++ r) :: ps) sz f
  | [], r, n, nm, ps, sz, f, _, h => ⟨n, by simp, by simpa [fill] using h⟩
  | .ch c :: its, r, n, nm, ps, sz, f, ho, h => by
    obtain ⟨n', h1, h2⟩ := Ev.sole k its r (n := n) (nm := nm) (ps := ps) (sz := sz) (f := f ++ [c]) ho.tl (by simpa [fill] using h)
    exact ⟨n' + 1, by simp only [List.length_cons]; (first | lia | omega), .ch h2⟩
  | .ref j :: its, r, n, nm, ps, sz, f, ho, h => by
    rcases ho _ (.head _) with ⟨c, e⟩ | ⟨k', e, e'⟩
    · cases e
    · cases e'
theorem refs_none {its : List It} (h : Of none its) : refs its = 0 := by
  induction its with
  | nil => rfl
  | cons i l ih =>
    rcases h _ (.head _) with ⟨c, rfl⟩ | ⟨k', e, e'⟩
    · exact ih h.tl
    · cases e'
theorem refs_le (l : List It) : refs l ≤ l.length := by
  induction l with
  | nil => exact Nat.le_refl _
  | cons i l ih => cases i <;> simp [refs] <;> (first | lia | omega)
/-- a reference is put in as a whole -/
theorem Ev.whole {m : Nat} (hT : Texts T m) : ∀ (k : Nat), k < m → ∀ {n : Nat} {nm : Option Nat} {its : List It} {ps : List PRow} {sz : Int} {f : List Nat},
    (∀ j ≤ k, j ∉ ops ((nm, its) :: ps)) → ((ops ((nm, its) :: ps)).length : Int) + k < md → sz + (cost T k : Nat) ≤ ms →
    Ev T md ms o n ((nm, its) :: ps) (sz + (cost T k : Nat)) (f ++ full T k) → ∃ n', n' ≤ n + steps k ∧ Ev T md ms o n' ((nm, .ref k :: its) :: ps) sz f
  | 0, hk, n, nm, its, ps, sz, f, hno, hd, hb, h => by
    obtain ⟨h1, h2, h3⟩ := hT 0 hk
    have hp : Ev T md ms o (n + 1) ((some 0, []) :: (nm, its) :: ps) (sz + (cost T 0 : Nat)) (f ++ fill [] (T 0)) := .pop h
    obtain ⟨n', hn, h'⟩ := Ev.sole 0 (T 0) [] h1 hp
    rw [List.append_nil] at h'
    exact ⟨n' + 1, by unfold steps; (first | lia | omega), .enter (by rw [ops_cons (its' := its)]; exact hno 0 (Nat.le_refl _)) (by rw [ops_cons (its' := its)]; (first | lia | omega)) hb h'⟩
  | k + 1, hk, n, nm, its, ps, sz, f, hno, hd, hb, h => by
    obtain ⟨h1, h2, h3⟩ := hT (k + 1) hk
    have hp : Ev T md ms o (n + 1) ((some (k + 1), []) :: (nm, its) :: ps) (sz + (cost T (k + 1) : Nat)) (f ++ fill (full T k) (T (k + 1))) := .pop h
    have e : (cost T (k + 1) : Int) = ((cpsOf (T (k + 1))).length : Nat) + ((refs (T (k + 1)) * cost T k : Nat) : Int) := by
      show ((_ + _ : Nat) : Int) = _; (first | lia | omega)
    rw [e, ← Int.add_assoc] at hp
    rw [e] at hb
    obtain ⟨n', hn, h'⟩ := Ev.through (o := o) (md := md) (ms := ms) k ((nm, its) :: ps) (some (k + 1)) (steps k) (fun {n} {its'} {sz} {f} hb' h' => by
      refine Ev.whole hT k (Nat.lt_of_succ_lt hk) (nm := some (k + 1)) (its := its') (ps := (nm, its) :: ps) ?_ ?_ hb' h'
      · intro j hj hm
        rcases List.mem_cons.mp (show j ∈ (k + 1) :: ops ((nm, its) :: ps) from hm) with rfl | hm
        · (first | lia | omega)
        · exact hno j (by (first | lia | omega)) hm
      · show ((((k + 1) :: ops ((nm, its) :: ps)).length : Nat) : Int) + k < md
        rw [List.length_cons]; (first | lia | omega)) (T (k + 1)) [] (n := n + 1) (sz := sz + ((cpsOf (T (k + 1))).length : Nat)) (f := f) h1 (by (first | lia | omega)) hp
    rw [List.append_nil] at h'
    have hm : refs (T (k + 1)) * steps k ≤ 2 * steps k := Nat.mul_le_mul_right _ h3
    exact ⟨n' + 1, by unfold steps; (first | lia | omega), .enter (by rw [ops_cons (its' := its)]; exact hno _ (Nat.le_refl _)) (by rw [ops_cons (its' := its)]; (first | lia | omega)) (by (first | lia | omega)) h'⟩
/-- a text is read and is too much on the way -/
theorem Ev.tooBig (k : Nat) (ps : List PRow) (nm : Option Nat) (N : Nat)
    (hfull : ∀ {n : Nat} {its : List It} {sz : Int} {f : List Nat}, sz + (cost T k : Nat) ≤ ms → Ev T md ms .lim n ((nm, its) :: ps) (sz + (cost T k : Nat)) (f ++ full T k) → ∃ n', n' ≤ n + N ∧ Ev T md ms .lim n' ((nm, .ref k :: its) :: ps) sz f)
    (hover : ∀ {its : List It} {sz : Int} {f : List Nat}, sz ≤ ms → ms < sz + (cost T k : Nat) → ∃ n', n' ≤ N ∧ Ev T md ms .lim n' ((nm, .ref k :: its) :: ps) sz f) :
    ∀ (its r : List It) {sz : Int} {f : List Nat}, Of (some k) its → sz ≤ ms → ms < sz + ((refs its * cost T k : Nat) : Int) →
      ∃ n', n' ≤ its.length + refs its * N ∧ Ev T md ms .lim n' ((nm, its ++ r) :: ps) sz f
  | [], r, sz, f, _, h1, h2 => by simp only [refs, Nat.zero_mul] at h2; (first | lia | omega)
  | .ch c :: its, r, sz, f, ho, h1, h2 => by
    obtain ⟨n', h3, h4⟩ := Ev.tooBig k ps nm N hfull hover its r (sz := sz) (f := f ++ [c]) ho.tl h1 h2
    exact ⟨n' + 1, by simp only [refs, List.length_cons]; (first | lia | omega), .ch h4⟩
  | .ref j :: its, r, sz, f, ho, h1, h2 => by
    have hj : j = k := by
      rcases ho _ (.head _) with ⟨c, e⟩ | ⟨k', e, e'⟩
      · cases e
      · cases e; cases e'; rfl
    subst hj
    have e : ((refs (.ref j :: its) * cost T j : Nat) : Int) = (cost T j : Nat) + ((refs its * cost T j : Nat) : Int) := by
      simp only [refs]; rw [Nat.add_mul, Nat.one_mul]; (first | lia | omega)
    rw [e] at h2
    have e2 : refs (.ref j :: its) * N = refs its * N + N := by simp only [refs]; rw [Nat.add_mul, Nat.one_mul]
    rw [e2]
    by_cases hc : ms < sz + (cost T j : Nat)
    · obtain ⟨n', h3, h4⟩ := hover (its := its ++ r) (sz := sz) (f := f) h1 hc
      exact ⟨n', by (first | lia | omega), h4⟩
    · obtain ⟨n', h3, h4⟩ := Ev.tooBig j ps nm N hfull hover its r (sz := sz + (cost T j : Nat)) (f := f ++ full T j) ho.tl (by (first | lia | omega)) (by (first | lia | omega))
      obtain ⟨n'', h5, h6⟩ := hfull (n := n') (its := its ++ r) (sz := sz) (f := f) (by (first | lia | omega)) h4
      exact ⟨n'', by simp only [refs, List.length_cons]; (first | lia | omega), h6⟩
theorem Ev.over {m : Nat} (hT : Texts T m) : ∀ (k : Nat), k < m → ∀ {nm : Option Nat} {its : List It} {ps : List PRow} {sz : Int} {f : List Nat},
    (∀ j ≤ k, j ∉ ops ((nm, its) :: ps)) → ((ops ((nm, its) :: ps)).length : Int) + k < md → sz ≤ ms → ms < sz + (cost T k : Nat) →
    ∃ n', n' ≤ steps k ∧ Ev T md ms .lim n' ((nm, .ref k :: its) :: ps) sz f
  | 0, hk, nm, its, ps, sz, f, hno, hd, hb, h => by
    refine ⟨0 + 1, by decide, .limit (by rw [ops_cons (its' := its)]; exact hno 0 (Nat.le_refl _)) ?_⟩
    have : (cost T 0 : Int) = ((cpsOf (T 0)).length : Nat) := rfl
    (first | lia | omega)
  | k + 1, hk, nm, its, ps, sz, f, hno, hd, hb, h => by
    obtain ⟨h1, h2, h3⟩ := hT (k + 1) hk
    have e : (cost T (k + 1) : Int) = ((cpsOf (T (k + 1))).length : Nat) + ((refs (T (k + 1)) * cost T k : Nat) : Int) := by
      show ((_ + _ : Nat) : Int) = _; (first | lia | omega)
    rw [e] at h
    by_cases hc : sz + ((cpsOf (T (k + 1))).length : Nat) ≤ ms
    · have hno' : ∀ its', ∀ j ≤ k, j ∉ ops ((some (k + 1), its') :: (nm, its) :: ps) := by
        intro its' j hj hm
        rcases List.mem_cons.mp (show j ∈ (k + 1) :: ops ((nm, its) :: ps) from hm) with rfl | hm
        · (first | lia | omega)
        · exact hno j (by (first | lia | omega)) hm
      have hd' : ∀ its', ((ops ((some (k + 1), its') :: (nm, its) :: ps)).length : Int) + k < md := by
        intro its'
        show ((((k + 1) :: ops ((nm, its) :: ps)).length : Nat) : Int) + k < md
        rw [List.length_cons]; (first | lia | omega)
      obtain ⟨n', hn, h'⟩ := Ev.tooBig (md := md) (ms := ms) k ((nm, its) :: ps) (some (k + 1)) (steps k) (fun {n} {its'} {sz} {f} hb' h' => Ev.whole hT k (Nat.lt_of_succ_lt hk) (hno' _) (hd' _) hb' h')
        (fun {its'} {sz} {f} ha hb' => Ev.over hT k (Nat.lt_of_succ_lt hk) (hno' _) (hd' _) ha hb') (T (k + 1)) [] (sz := sz + ((cpsOf (T (k + 1))).length : Nat)) (f := f) h1 hc (by (first | lia | omega))
      rw [List.append_nil] at h'
      have hm : refs (T (k + 1)) * steps k ≤ 2 * steps k := Nat.mul_le_mul_right _ h3
      exact ⟨n' + 1, by unfold steps; (first | lia | omega), .enter (by rw [ops_cons (its' := its)]; exact hno _ (Nat.le_refl _)) (by rw [ops_cons (its' := its)]; (first | lia | omega)) hc h'⟩
    · exact ⟨0 + 1, by unfold steps; (first | lia | omega), .limit (by rw [ops_cons (its' := its)]; exact hno _ (Nat.le_refl _)) (fun h => hc h.2)⟩
/-- the depth does not do -/
theorem Ev.deep {m : Nat} (hT : Texts T m) (hr : ∀ k, 0 < k → k < m → 0 < refs (T k)) : ∀ (k : Nat), k < m → ∀ {nm : Option Nat} {its : List It} {ps : List PRow} {sz : Int} {f : List Nat},
    (∀ j ≤ k, j ∉ ops ((nm, its) :: ps)) → md ≤ ((ops ((nm, its) :: ps)).length : Int) + k → ∃ n', n' ≤ steps k ∧ Ev T md ms .lim n' ((nm, .ref k :: its) :: ps) sz f := by
  intro k
  induction k with
  | zero =>
    intro hk nm its ps sz f hno hd
    exact ⟨0 + 1, by decide, .limit (by rw [ops_cons (its' := its)]; exact hno 0 (Nat.le_refl _)) (by rw [ops_cons (its' := its)]; (first | lia | omega))⟩
  | succ k ihk =>
    intro hk nm its ps sz f hno hd
    by_cases hc : ((ops ((nm, .ref (k + 1) :: its) :: ps)).length : Int) < md ∧ sz + ((cpsOf (T (k + 1))).length : Nat) ≤ ms
    · obtain ⟨h1, h2, h3⟩ := hT (k + 1) hk
      have h4 := hr (k + 1) (Nat.succ_pos _) hk
      have key : ∀ (its' : List It) (f : List Nat), Of (some k) its' → 0 < refs its' → ∃ n', n' ≤ its'.length + steps k ∧ Ev T md ms .lim n' ((some (k + 1), its') :: (nm, its) :: ps) (sz + ((cpsOf (T (k + 1))).length : Nat)) f := by
        intro its'
        induction its' with
        | nil => intro f _ h; simp [refs] at h
        | cons i l ih =>
          intro f ho hp
          cases i with
          | ch c =>
            obtain ⟨n', a, b⟩ := ih (f ++ [c]) ho.tl hp
            exact ⟨n' + 1, by rw [List.length_cons]; (first | lia | omega), .ch b⟩
          | ref j =>
            have hj : j = k := by
              rcases ho _ (.head _) with ⟨c, e⟩ | ⟨k', e, e'⟩
              · cases e
              · cases e; cases e'; rfl
            subst hj
            obtain ⟨n', a, b⟩ := ihk (Nat.lt_of_succ_lt hk) (nm := some (j + 1)) (its := l) (ps := (nm, its) :: ps) (sz := sz + ((cpsOf (T (j + 1))).length : Nat)) (f := f) (by
              intro i hi hm
              rcases List.mem_cons.mp (show i ∈ (j + 1) :: ops ((nm, its) :: ps) from hm) with rfl | hm
              · (first | lia | omega)
              · exact hno i (by (first | lia | omega)) hm) (by
              show md ≤ ((((j + 1) :: ops ((nm, its) :: ps)).length : Nat) : Int) + j
              rw [List.length_cons]; (first | lia | omega))
            exact ⟨n', by (first | lia | omega), b⟩
      obtain ⟨n', a, b⟩ := key (T (k + 1)) f h1 h4
      exact ⟨n' + 1, by unfold steps; (first | lia | omega), .enter (by rw [ops_cons (its' := its)]; exact hno _ (Nat.le_refl _)) hc.1 hc.2 b⟩
    · exact ⟨0 + 1, by unfold steps; (first | lia | omega), .limit (by rw [ops_cons (its' := its)]; exact hno _ (Nat.le_refl _)) hc⟩
end
end Mine
namespace Mine
open StrLaws Builtin Builtin.Str
/-- what a text comes to where each reference is set off by z and the rest of it -/
def out (z tail : List Nat) : List It → List Nat
  | [] => []
  | .ch c :: l => c :: out z tail l
  | .ref _ :: l => z ++ tail ++ out z tail l
theorem not_at {x : Str} {ys : List Nat} {k : Nat} (h : x.cps.toList[k]? ≠ some 38) : ¬ At x ⟨(38 :: ys).toArray⟩ x.length k := by
  intro hA
  have h2 := hA.2
  rw [subAt_eq] at h2
  have h3 := eq_of_beq h2
  refine h ?_
  have e : ((x.cps.toList.drop k).take (⟨(38 :: ys).toArray⟩ : Str).length)[0]? = some 38 := by rw [h3]; simp
  have hl : (⟨(38 :: ys).toArray⟩ : Str).length = ys.length + 1 := by simp [Str.length]
  rw [hl, List.getElem?_take_of_lt (by (first | lia | omega)), List.getElem?_drop] at e
  exact e
theorem at_is {x : Str} {ys a b : List Nat} (h : x.cps.toList = a ++ (38 :: ys) ++ b) : At x ⟨(38 :: ys).toArray⟩ x.length a.length := by
  have hl : (⟨(38 :: ys).toArray⟩ : Str).length = ys.length + 1 := by simp [Str.length]
  have hx : x.length = x.cps.toList.length := by simp [Str.length]
  refine ⟨?_, ?_⟩
  · rw [hl, hx, h, List.length_append, List.length_append, List.length_cons]; (first | lia | omega)
  · rw [subAt_eq, hl, h, List.append_assoc, List.drop_left, List.take_left' (by simp)]
    simp
theorem sub_mid {x : Str} {pre mid post : List Nat} (h : x.cps.toList = pre ++ mid ++ post) : (strSub x pre.length (pre.length + mid.length)).cps.toList = mid := by
  rw [strSub_toList, h, List.append_assoc, List.drop_left, Nat.add_sub_cancel_left, List.take_left]
theorem join_cons {z p : Str} {q : Str} {r : List Str} : (Str.join z (p :: q :: r)).cps.toList = p.cps.toList ++ z.cps.toList ++ (Str.join z (q :: r)).cps.toList := by
  show (p ++ z ++ Str.join z (q :: r)).cps.toList = _
  simp only [Str.cps_append, Array.toList_append]
theorem chain_its {x : Str} {ys tail : List Nat} {j : Nat} (hy : [38, 101, 48 + j, 59] = 38 :: ys ++ tail) (ht : 38 ∉ tail) (z : List Nat) :
    ∀ (its : List It) (mid pre cuts : List Nat) (f : Nat), Of (some j) its → (∀ c, It.ch c ∈ its → c ≠ 38) → x.cps.toList = pre ++ mid ++ cpsOf its → 38 ∉ mid →
      ChainG x ⟨(38 :: ys).toArray⟩ x.length pre.length cuts f → (∀ k, f ≤ k → ¬ At x ⟨(38 :: ys).toArray⟩ x.length k) →
      cuts.length = refs its ∧ (Str.join ⟨z.toArray⟩ (partsFrom x (ys.length + 1) pre.length cuts)).cps.toList = mid ++ out z tail its
  | [], mid, pre, cuts, f, ho, hc, hx, hm, hG, hn => by
    have hxl : x.length = x.cps.toList.length := by simp [Str.length]
    cases cuts with
    | nil =>
      refine ⟨rfl, ?_⟩
      show (strSub x pre.length x.length).cps.toList = mid ++ []
      have e : x.length = pre.length + mid.length := by rw [hxl, hx]; simp [cpsOf]
      rw [e, sub_mid hx, List.append_nil]
    | cons c r =>
      exfalso
      have hA := hG.2.1
      refine not_at ?_ hA
      rw [hx]
      simp only [cpsOf, List.append_nil]
      have h1 := hG.1
      rw [List.getElem?_append_right h1]
      intro h
      exact hm (List.mem_of_getElem? h)
  | .ch c :: its, mid, pre, cuts, f, ho, hc, hx, hm, hG, hn => by
    have hc1 := hc c (.head _)
    obtain ⟨h1, h2⟩ := chain_its hy ht z its (mid ++ [c]) pre cuts f ho.tl (fun c' h => hc c' (.tail _ h)) (by rw [hx]; simp [cpsOf, It.cps]) (by
      intro h
      rcases List.mem_append.mp h with h | h
      · exact hm h
      · exact hc1 (List.mem_singleton.mp h).symm) hG hn
    refine ⟨h1, ?_⟩
    rw [h2]
    simp [out]
  | .ref i :: its, mid, pre, cuts, f, ho, hc, hx, hm, hG, hn => by
    have hi : i = j := by
      rcases ho _ (.head _) with ⟨c, e⟩ | ⟨k', e, e'⟩
      · cases e
      · cases e; cases e'; rfl
    subst hi
    have hx' : x.cps.toList = (pre ++ mid) ++ (38 :: ys) ++ (tail ++ cpsOf its) := by
      rw [hx]
      simp only [cpsOf, It.cps]
      rw [hy]
      simp only [List.append_assoc, List.cons_append]
    have hA := at_is hx'
    rw [List.length_append] at hA
    cases cuts with
    | nil =>
      exfalso
      have e : f = pre.length := hG
      exact hn _ (by (first | lia | omega)) hA
    | cons c r =>
      obtain ⟨g1, g2, g3, g4⟩ := hG
      have hcp : c = pre.length + mid.length := by
        rcases Nat.lt_trichotomy c (pre.length + mid.length) with h | h | h
        · exfalso
          refine not_at ?_ g2
          rw [hx, List.append_assoc, List.getElem?_append_right g1, List.getElem?_append_left (by (first | lia | omega))]
          intro h
          exact hm (List.mem_of_getElem? h)
        · exact h
        · exfalso
          exact g3 _ (by (first | lia | omega)) h hA
      subst hcp
      have hl : (⟨(38 :: ys).toArray⟩ : Str).length = ys.length + 1 := by simp [Str.length]
      have el : (pre ++ mid ++ (38 :: ys)).length = pre.length + mid.length + (⟨(38 :: ys).toArray⟩ : Str).length := by rw [hl]; simp; (first | lia | omega)
      obtain ⟨h1, h2⟩ := chain_its hy ht z its tail (pre ++ mid ++ (38 :: ys)) r f ho.tl (fun c' h => hc c' (.tail _ h)) (by rw [hx']; simp only [List.append_assoc]) ht (by rw [el]; exact g4) hn
      refine ⟨by simp only [List.length_cons, refs]; (first | lia | omega), ?_⟩
      show (Str.join ⟨z.toArray⟩ (strSub x pre.length (pre.length + mid.length) :: partsFrom x (ys.length + 1) (pre.length + mid.length + (ys.length + 1)) r)).cps.toList = _
      rw [el, hl] at h2
      obtain ⟨p, q, e⟩ := partsFrom_ne x (ys.length + 1) (pre.length + mid.length + (ys.length + 1)) r
      rw [e] at h2 ⊢
      rw [join_cons, h2, sub_mid hx]
      simp [out]
/-- each reference gives way to t -/
def putIn (t : List It) : List It → List It
  | [] => []
  | .ch c :: l => .ch c :: putIn t l
  | .ref _ :: l => t ++ putIn t l
theorem out_putIn (t : List It) : ∀ its, out (cpsOf t) [] its = cpsOf (putIn t its)
  | [] => rfl
  | .ch c :: l => by simp only [out, putIn, cpsOf, It.cps, out_putIn t l]; rfl
  | .ref _ :: l => by simp only [out, putIn, cpsOf_app, out_putIn t l, List.append_nil]
theorem fill_app (e : List Nat) : ∀ a b, fill e (a ++ b) = fill e a ++ fill e b
  | [], _ => rfl
  | .ch c :: a, b => by simp only [List.cons_append, fill, fill_app e a b]
  | .ref _ :: a, b => by simp only [List.cons_append, fill, fill_app e a b, List.append_assoc]
theorem fill_putIn (e : List Nat) (t : List It) : ∀ its, fill e (putIn t its) = fill (fill e t) its
  | [] => rfl
  | .ch c :: l => by simp only [putIn, fill, fill_putIn e t l]
  | .ref _ :: l => by simp only [putIn, fill, fill_app, fill_putIn e t l]
theorem fill_sole : ∀ {its : List It}, Of none its → fill [] its = cpsOf its
  | [], _ => rfl
  | .ch c :: l, h => by simp only [fill, cpsOf, It.cps, fill_sole h.tl]; rfl
  | .ref k :: l, h => by
    rcases h _ (.head _) with ⟨c, e⟩ | ⟨k', e, e'⟩
    · cases e
    · cases e'
theorem of_putIn {j i : Option Nat} {t : List It} (ht : Of i t) : ∀ {its : List It}, Of j its → Of i (putIn t its)
  | [], _ => fun x hx => by cases hx
  | .ch c :: l, h => fun x hx => by
    rcases List.mem_cons.mp hx with rfl | hx
    · exact .inl ⟨c, rfl⟩
    · exact of_putIn ht h.tl x hx
  | .ref k :: l, h => fun x hx => by
    rcases List.mem_append.mp hx with hx | hx
    · exact ht x hx
    · exact of_putIn ht h.tl x hx
theorem signs_putIn {P : Nat → Prop} {t : List It} (ht : ∀ c, It.ch c ∈ t → P c) : ∀ {its : List It}, (∀ c, It.ch c ∈ its → P c) → ∀ c, It.ch c ∈ putIn t its → P c
  | [], _ => fun x hx => by cases hx
  | .ch c :: l, h => fun x hx => by
    rcases List.mem_cons.mp hx with e | hx
    · cases e; exact h _ (.head _)
    · exact signs_putIn ht (fun c hc => h c (.tail _ hc)) x hx
  | .ref k :: l, h => fun x hx => by
    rcases List.mem_append.mp hx with hx | hx
    · exact ht x hx
    · exact signs_putIn ht (fun c hc => h c (.tail _ hc)) x hx
theorem whole_is (its : List It) : ∀ {x : Str}, x.cps.toList = cpsOf its → x = ⟨(cpsOf its).toArray⟩ := fun {x} h => by
  apply Str.ext'
  rw [← h]
theorem replace_its {x z : Str} {j : Nat} {its t : List It} (ho : Of (some j) its) (hc : ∀ c, It.ch c ∈ its → c ≠ 38) (hx : x.cps.toList = cpsOf its) (hz : z.cps.toList = cpsOf t) :
    (Txt.replace x ⟨#[38, 101, 48 + j, 59]⟩ z).cps.toList = cpsOf (putIn t its) := by
  obtain ⟨f, hG, hn⟩ := occ_tight x ⟨#[38, 101, 48 + j, 59]⟩ (by show 1 ≤ 4; (first | lia | omega))
  have key := (chain_its (x := x) (ys := [101, 48 + j, 59]) (tail := []) (j := j) rfl (by simp) (cpsOf t) its [] [] _ f ho hc (by simpa using hx) (by simp) hG hn).2
  rw [out_putIn, List.nil_append] at key
  rw [← whole_is t hz] at key
  unfold Txt.replace
  have h4 : ((⟨#[38, 101, 48 + j, 59]⟩ : Str).length == 0) = false := rfl
  rw [h4, Bool.false_and, Bool.or_false]
  cases he : (occurrences x ⟨#[38, 101, 48 + j, 59]⟩ 0 x.length (x.length + 1)).isEmpty
  · rw [if_neg Bool.false_ne_true, glued_eq_join, partsBetween_eq]
    exact key
  · rw [if_pos rfl]
    rw [List.isEmpty_iff.mp he] at key
    rw [← sub_whole x]
    exact key
theorem count_its {x : Str} {j : Nat} {its : List It} (ho : Of (some j) its) (hc : ∀ c, It.ch c ∈ its → c ≠ 38) (hx : x.cps.toList = cpsOf its) : Txt.count x ⟨#[38]⟩ = (refs its : Nat) := by
  obtain ⟨f, hG, hn⟩ := occ_tight x ⟨#[38]⟩ (by show 1 ≤ 1; (first | lia | omega))
  by_cases hj : 48 + j = 38
  · (first | lia | omega)
  · have key := (chain_its (x := x) (ys := []) (tail := [101, 48 + j, 59]) (j := j) rfl (by simp; (first | lia | omega)) [] its [] [] _ f ho hc (by simpa using hx) (by simp) hG hn).1
    show ((_ : Nat) : Int) = _
    exact congrArg _ key
end Mine
namespace Mine
def Plain (c : Nat) : Prop := c ≠ 38 ∧ c ≠ 60 ∧ c ≠ 9 ∧ c ≠ 10 ∧ c ≠ 13
/-- the texts as the law builds them -/
structure Built (T : Nat → List It) (m : Nat) : Prop where
  texts : Texts T m
  signs : ∀ k < m, ∀ c, It.ch c ∈ T k → Plain c
  some : ∀ k, 0 < k → k < m → 0 < refs (T k)
/-- a value as the law builds it: it opens with a reference to the last text -/
structure BuiltRaw (W : List It) (m : Nat) : Prop where
  of : Of (Option.some (m - 1)) W
  signs : ∀ c, It.ch c ∈ W → Plain c
  len : W.length ≤ 5
  two : refs W ≤ 2
  head : ∃ W', W = .ref (m - 1) :: W'
section
variable {T : Nat → List It} {md ms : Int}
theorem steps_le {k : Nat} (hk : k < 4) : steps k ≤ 105 := by
  have := lt4 (k := k) (by first | assumption | (first | lia | omega))
  rcases this with rfl | rfl | rfl | rfl <;> decide
theorem ops_one (W : List It) : ops [(none, W)] = [] := rfl
theorem run_ok {m : Nat} {W : List It} (hT : Built T m) (hW : BuiltRaw W m) (hm : 0 < m) (hm4 : m ≤ 4) {sz : Int} (hd : (m : Int) ≤ md) (hs : sz + ((refs W * cost T (m - 1) : Nat) : Int) ≤ ms) :
    ∃ fu ≤ 10000, Ev T md ms (.txt (fill (full T (m - 1)) W) (sz + ((refs W * cost T (m - 1) : Nat) : Int))) fu [(none, W)] sz [] := by
  have h0 : Ev T md ms (.txt (fill (full T (m - 1)) W) (sz + ((refs W * cost T (m - 1) : Nat) : Int))) (0 + 1) [(none, [])] (sz + ((refs W * cost T (m - 1) : Nat) : Int)) ([] ++ fill (full T (m - 1)) W) := .pop (.fin _ _)
  obtain ⟨n', h1, h2⟩ := Ev.through (m - 1) [] none (steps (m - 1)) (fun {n} {its} {sz} {f} hb h => by
    refine Ev.whole hT.texts (m - 1) (by (first | lia | omega)) (nm := none) (its := its) (ps := []) ?_ ?_ hb h
    · intro j _ hj; cases hj
    · show ((0 : Nat) : Int) + ((m - 1 : Nat) : Int) < md
      (first | lia | omega)) W [] hW.of hs h0
  rw [List.append_nil] at h2
  refine ⟨n', ?_, h2⟩
  have a := hW.len
  have b := hW.two
  have c := steps_le (k := m - 1) (by (first | lia | omega))
  have d : refs W * steps (m - 1) ≤ 2 * 105 := Nat.mul_le_mul b c
  (first | lia | omega)
theorem run_over {m : Nat} {W : List It} (hT : Built T m) (hW : BuiltRaw W m) (hm : 0 < m) (hm4 : m ≤ 4) {sz : Int} (hd : (m : Int) ≤ md) (hsz : sz ≤ ms) (hs : ms < sz + ((refs W * cost T (m - 1) : Nat) : Int)) :
    ∃ fu ≤ 10000, Ev T md ms .lim fu [(none, W)] sz [] := by
  have hno : ∀ its : List It, ∀ j ≤ m - 1, j ∉ ops [((none : Option Nat), its)] := fun its j _ hj => by cases hj
  have hdd : ∀ its : List It, ((ops [((none : Option Nat), its)]).length : Int) + ((m - 1 : Nat) : Int) < md := fun its => by
    show ((0 : Nat) : Int) + ((m - 1 : Nat) : Int) < md
    (first | lia | omega)
  obtain ⟨n', h1, h2⟩ := Ev.tooBig (md := md) (ms := ms) (m - 1) [] none (steps (m - 1)) (fun {n} {its} {sz} {f} hb h => Ev.whole hT.texts (m - 1) (by (first | lia | omega)) (hno _) (hdd _) hb h)
    (fun {its} {sz} {f} ha hb => Ev.over hT.texts (m - 1) (by (first | lia | omega)) (hno _) (hdd _) ha hb) W [] (sz := sz) (f := []) hW.of hsz hs
  rw [List.append_nil] at h2
  refine ⟨n', ?_, h2⟩
  have a := hW.len
  have b := hW.two
  have c := steps_le (k := m - 1) (by (first | lia | omega))
  have d : refs W * steps (m - 1) ≤ 2 * 105 := Nat.mul_le_mul b c
  (first | lia | omega)
theorem run_deep {m : Nat} {W : List It} (hT : Built T m) (hW : BuiltRaw W m) (hm : 0 < m) (hm4 : m ≤ 4) {sz : Int} (hd : md < (m : Int)) : ∃ fu ≤ 10000, Ev T md ms .lim fu [(none, W)] sz [] := by
  obtain ⟨W', e⟩ := hW.head
  rw [e]
  obtain ⟨n', h1, h2⟩ := Ev.deep (md := md) (ms := ms) hT.texts hT.some (m - 1) (by (first | lia | omega)) (nm := none) (its := W') (ps := []) (sz := sz) (f := []) (fun j _ hj => by cases hj) (by
    show md ≤ ((0 : Nat) : Int) + ((m - 1 : Nat) : Int)
    (first | lia | omega))
  have c := steps_le (k := m - 1) (by (first | lia | omega))
  exact ⟨n', by (first | lia | omega), h2⟩
/-- the first reference of a text -/
theorem Ev.first {o : Out} {k : Nat} {nm : Option Nat} {ps : List PRow} {sz : Int} : ∀ (its : List It) (_ : Of (some k) its) (_ : 0 < refs its),
    ∃ cs r, its.length = cs.length + 1 + r.length ∧ ∀ {n : Nat} {f : List Nat}, Ev T md ms o n ((nm, .ref k :: r) :: ps) sz (f ++ cs) → Ev T md ms o (n + cs.length) ((nm, its) :: ps) sz f
  | [], _, h => by simp [refs] at h
  | .ref j :: its, ho, _ => by
    have hj : j = k := by
      rcases ho _ (.head _) with ⟨c, e⟩ | ⟨k', e, e'⟩
      · cases e
      · cases e; cases e'; rfl
    subst hj
    exact ⟨[], its, by simp; (first | lia | omega), fun h => by simpa using h⟩
  | .ch c :: its, ho, h => by
    obtain ⟨cs, r, h1, h2⟩ := Ev.first (o := o) (nm := nm) (ps := ps) (sz := sz) its ho.tl h
    exact ⟨c :: cs, r, by simp only [List.length_cons]; (first | lia | omega), fun {n} {f} hE => .ch (h2 (by simpa using hE))⟩
/-- a ring: the readings come round to a text that is open -/
theorem Ev.ring {m : Nat} {nxt : Nat → Nat} (hT : ∀ k < m, Of (some (nxt k)) (T k) ∧ 0 < refs (T k) ∧ (T k).length ≤ 5 ∧ (cpsOf (T k)).length ≤ 40) (a : Nat) :
    ∀ (d : Nat), a + d < m → ∀ {nm : Option Nat} {its : List It} {ps : List PRow} {sz : Int} {f : List Nat}, (∀ j, a ≤ j → j ≤ a + d → j ∉ ops ((nm, its) :: ps)) → ((ops ((nm, its) :: ps)).length : Int) + d < md → sz + 40 * (d + 1) ≤ ms →
      (nxt a ∈ ops ((nm, its) :: ps) ∨ (a ≤ nxt a ∧ nxt a ≤ a + d)) → (∀ j, a < j → j ≤ a + d → nxt j = j - 1) → ∃ n, n ≤ 7 * (d + 1) ∧ Ev T md ms .ent n ((nm, .ref (a + d) :: its) :: ps) sz f := by
  intro d
  induction d with
  | zero =>
    intro hm nm its ps sz f hno hd hs hx hnx
    obtain ⟨h1, h2, h3, h4⟩ := hT a hm
    obtain ⟨cs, r, h5, h6⟩ := Ev.first (T := T) (md := md) (ms := ms) (o := .ent) (nm := some a) (ps := (nm, its) :: ps) (sz := sz + ((cpsOf (T a)).length : Nat)) (T a) h1 h2
    have hw : Ev T md ms .ent (0 + 1) ((some a, .ref (nxt a) :: r) :: (nm, its) :: ps) (sz + ((cpsOf (T a)).length : Nat)) (f ++ cs) := .within (by
      show nxt a ∈ a :: ops ((nm, its) :: ps)
      rcases hx with h | ⟨h, h'⟩
      · exact .tail _ h
      · have : nxt a = a := by (first | lia | omega)
        rw [this]; exact .head _)
    refine ⟨0 + 1 + cs.length + 1, by (first | lia | omega), .enter (by rw [ops_cons (its' := its)]; exact hno a (Nat.le_refl _) (Nat.le_refl _)) (by rw [ops_cons (its' := its)]; (first | lia | omega)) (by show sz + ((cpsOf (T a)).length : Nat) ≤ ms; (first | lia | omega)) (h6 hw)⟩
  | succ d ih =>
    intro hm nm its ps sz f hno hd hs hx hnx
    obtain ⟨h1, h2, h3, h4⟩ := hT (a + (d + 1)) hm
    have e : nxt (a + (d + 1)) = a + d := by rw [hnx _ (by (first | lia | omega)) (Nat.le_refl _)]; (first | lia | omega)
    rw [e] at h1
    obtain ⟨cs, r, h5, h6⟩ := Ev.first (T := T) (md := md) (ms := ms) (o := .ent) (nm := some (a + (d + 1))) (ps := (nm, its) :: ps) (sz := sz + ((cpsOf (T (a + (d + 1)))).length : Nat)) (T (a + (d + 1))) h1 h2
    obtain ⟨n, g1, g2⟩ := ih (by (first | lia | omega)) (nm := some (a + (d + 1))) (its := r) (ps := (nm, its) :: ps) (sz := sz + ((cpsOf (T (a + (d + 1)))).length : Nat)) (f := f ++ cs) (by
      intro j ha hb hj
      rcases List.mem_cons.mp (show j ∈ (a + (d + 1)) :: ops ((nm, its) :: ps) from hj) with rfl | hj
      · (first | lia | omega)
      · exact hno j ha (by (first | lia | omega)) hj) (by
      show ((((a + (d + 1)) :: ops ((nm, its) :: ps)).length : Nat) : Int) + d < md
      rw [List.length_cons]; (first | lia | omega)) (by (first | lia | omega)) (by
      rcases hx with h | ⟨h, h'⟩
      · exact .inl (.tail _ h)
      · by_cases hq : nxt a ≤ a + d
        · exact .inr ⟨h, hq⟩
        · left
          have : nxt a = a + (d + 1) := by (first | lia | omega)
          rw [this]; exact .head _) (fun j ha hb => hnx j ha (by (first | lia | omega)))
    exact ⟨n + cs.length + 1, by (first | lia | omega), .enter (by rw [ops_cons (its' := its)]; exact hno _ (by (first | lia | omega)) (Nat.le_refl _)) (by rw [ops_cons (its' := its)]; (first | lia | omega)) (by (first | lia | omega)) (h6 g2)⟩
/-- the texts of the ring: the first one refers to the far one -/
def ringOf (T : Nat → List It) (far : Nat) : Nat → List It := fun k => if k = 0 then [.ch 113, .ref far] else T k
theorem cps_len : ∀ its : List It, (cpsOf its).length ≤ 4 * its.length
  | [] => Nat.le_refl _
  | i :: l => by
    have := cps_len l
    simp only [cpsOf, List.length_append, List.length_cons]
    cases i <;> simp only [It.cps, List.length_cons, List.length_nil] <;> (first | lia | omega)
theorem ring_fits {m far : Nat} (hT : Built T m) : ∀ k < m, Of (some (if k = 0 then far else k - 1)) (ringOf T far k) ∧ 0 < refs (ringOf T far k) ∧ (ringOf T far k).length ≤ 5 ∧ (cpsOf (ringOf T far k)).length ≤ 40 := by
  intro k hk
  have hl : (ringOf T far k).length ≤ 5 := by
    unfold ringOf
    split
    · show 2 ≤ 5; (first | lia | omega)
    · exact (hT.texts k hk).2.1
  refine ⟨?_, ?_, hl, by have := cps_len (ringOf T far k); (first | lia | omega)⟩
  · unfold ringOf
    by_cases h : k = 0
    · rw [if_pos h, if_pos h]
      intro i hi
      rcases List.mem_cons.mp hi with rfl | hi
      · exact .inl ⟨_, rfl⟩
      · exact .inr ⟨far, List.mem_singleton.mp hi, rfl⟩
    · rw [if_neg h, if_neg h]
      have := (hT.texts k hk).1
      cases k with
      | zero => exact absurd rfl h
      | succ k => exact this
  · unfold ringOf
    by_cases h : k = 0
    · rw [if_pos h]; show 0 < 1; (first | lia | omega)
    · rw [if_neg h]; exact hT.some k (by (first | lia | omega)) hk
theorem ring_last {m far : Nat} (hT : Built T m) (hm : 0 < m) (hm4 : m ≤ 4) (hf : far < m) (hmd : 20 ≤ md) (hms : 1000 ≤ ms) : ∃ fu ≤ 10000, Ev (ringOf T far) md ms .ent fu [(none, [.ref (m - 1)])] 0 [] := by
  obtain ⟨n, h1, h2⟩ := Ev.ring (md := md) (ms := ms) (nxt := fun k => if k = 0 then far else k - 1) (ring_fits hT (far := far)) 0 (m - 1) (by (first | lia | omega)) (nm := none) (its := []) (ps := []) (sz := 0) (f := [])
    (fun j _ _ hj => by cases hj) (by show ((0 : Nat) : Int) + ((m - 1 : Nat) : Int) < md; (first | lia | omega)) (by (first | lia | omega)) (.inr ⟨Nat.zero_le _, by simp only [if_true]; (first | lia | omega)⟩) (fun j hj _ => by
      show (if j = 0 then far else j - 1) = j - 1
      rw [if_neg (by (first | lia | omega))])
  rw [Nat.zero_add] at h2
  exact ⟨n, by (first | lia | omega), h2⟩
theorem ring_first {m far : Nat} (hT : Built T m) (hm : 0 < m) (hm4 : m ≤ 4) (hf : far < m) (hmd : 20 ≤ md) (hms : 1000 ≤ ms) : ∃ fu ≤ 10000, Ev (ringOf T far) md ms .ent fu [(none, [.ref 0])] 0 [] := by
  by_cases h0 : far = 0
  · subst h0
    obtain ⟨n, h1, h2⟩ := Ev.ring (md := md) (ms := ms) (nxt := fun k => if k = 0 then 0 else k - 1) (ring_fits hT (far := 0)) 0 0 (by (first | lia | omega)) (nm := none) (its := []) (ps := []) (sz := 0) (f := [])
      (fun j _ _ hj => by cases hj) (by show ((0 : Nat) : Int) + ((0 : Nat) : Int) < md; (first | lia | omega)) (by (first | lia | omega)) (.inr ⟨Nat.le_refl _, by simp⟩) (fun j hj hj' => by (first | lia | omega))
    exact ⟨n, by (first | lia | omega), h2⟩
  · obtain ⟨n, h1, h2⟩ := Ev.ring (md := md) (ms := ms) (nxt := fun k => if k = 0 then far else k - 1) (ring_fits hT (far := far)) 1 (far - 1) (by (first | lia | omega)) (nm := some 0) (its := []) (ps := [(none, [])]) (sz := 0 + 5) (f := [113])
      (fun j h _ hj => by
        have : j = 0 := by simpa [ops] using hj
        (first | lia | omega)) (by show ((1 : Nat) : Int) + ((far - 1 : Nat) : Int) < md; (first | lia | omega)) (by (first | lia | omega)) (.inl (by simp [ops])) (fun j hj _ => by
        show (if j = 0 then far else j - 1) = j - 1
        rw [if_neg (by (first | lia | omega))])
    have e : 1 + (far - 1) = far := by (first | lia | omega)
    rw [e] at h2
    have h3 : Ev (ringOf T far) md ms .ent (n + 1) [(some 0, [.ch 113, .ref far]), (none, [])] (0 + 5) [] := .ch h2
    refine ⟨n + 1 + 1, by (first | lia | omega), .enter (by simp [ops]) (by show ((0 : Nat) : Int) < md; (first | lia | omega)) (by show (0 : Int) + ((5 : Nat) : Int) ≤ ms; (first | lia | omega)) h3⟩
theorem run_plain (cs : List Nat) : ∀ {sz : Int} {f : List Nat}, Ev T md ms (.txt (f ++ cs) sz) (cs.length + 1) [(none, cs.map It.ch)] sz f := by
  induction cs with
  | nil => intro sz f; rw [List.append_nil]; exact .pop (.fin _ _)
  | cons c cs ih =>
    intro sz f
    have := ih (sz := sz) (f := f ++ [c])
    rw [List.append_assoc] at this
    exact .ch this
end
/-- what plain replacing makes, from the k-th text down -/
def replaced (T : Nat → List It) : Nat → List It → List It
  | 0, W => W
  | k + 1, W => replaced T k (putIn (T k) W)
theorem replaced_is {T : Nat → List It} : ∀ (k : Nat) {W : List It}, (∀ i < k, Of (pre? i) (T i)) → Of (pre? k) W → cpsOf (replaced T k W) = match k with | 0 => cpsOf W | i + 1 => fill (full T i) W
  | 0, W, _, _ => rfl
  | k + 1, W, hT, hW => by
    have ih := replaced_is k (W := putIn (T k) W) (fun i hi => hT i (by (first | lia | omega))) (of_putIn (hT k (Nat.lt_succ_self k)) hW)
    show cpsOf (replaced T k (putIn (T k) W)) = fill (full T k) W
    rw [ih]
    cases k with
    | zero =>
      show cpsOf (putIn (T 0) W) = fill (fill [] (T 0)) W
      rw [← fill_putIn, fill_sole (of_putIn (hT 0 (Nat.lt_succ_self 0)) hW)]
    | succ i =>
      show fill (full T i) (putIn (T (i + 1)) W) = fill (fill (full T i) (T (i + 1))) W
      rw [fill_putIn]
end Mine
namespace Mine
/-- a contract that tells of the count of names given, ahead of the call and after it -/
def CtrT (w : World) (mean : ExcName → Option Value) (mg mb : Str → Option Value) (need : Nat) (f : Addr) (args : List Value) (news : List (Addr × Obj))
    (Pre : Nat → Prop) (Post : Value → List (Addr × Obj) → Nat → Prop) : Prop :=
  ∀ (dp un : Nat) (gd : Option (List Code)) (cn : Str) (cs : Scope) (a : Addr) (ccd : Value) (cl : List (Str × Addr)) (outer : List Env) (A₀ : Around) (base h₀ : Heap) (L : Addr) (m : Str → Option Value) (s : Shared) (Q E : Value → Shared → Prop),
    Below A₀ base outer h₀ → Fr h₀ L s.heap m → (hd.heap_39 w.params).In h₀ → News h₀ L s.heap news → Top VW LO mean mg mb h₀ → cs.kind = .function → dp + need < recursionLimit → un + 8 * need < cLine → Pre s.toks →
    (∀ v news' h' tk', Post v news' tk' → Fr h₀ L h' m → News h₀ L h' news' → Q v { s with heap := h', toks := tk' }) →
    wpAny (model PG w) (ktrTop dp un gd cn cs L a ccd cl outer) (call (.ref f) args) Q E s
theorem CtrT.use {w : World} {mean : ExcName → Option Value} {mg mb : Str → Option Value} {need : Nat} {f : Addr} {args : List Value} {news : List (Addr × Obj)}
    {Pre : Nat → Prop} {Post : Value → List (Addr × Obj) → Nat → Prop} (C : CtrT w mean mg mb need f args news Pre Post)
    {dp un : Nat} {gd : Option (List Code)} {cn : Str} {cs : Scope} {a : Addr} {ccd : Value} {cl : List (Str × Addr)} {outer : List Env} {A₀ : Around} {base h₀ : Heap} {L : Addr} {m : Str → Option Value} {h : Heap} {gn : Array GenState} {dr : Drawn} {tk : Nat} {os : OsState} {Q E : Value → Shared → Prop}
    (N : News h₀ L h news) (hp : Pre tk)
    (ret : ∀ v news' h' tk', tk ≤ tk' → Post v news' tk' → Fr h₀ L h' m → News h₀ L h' news' → Q v ⟨h', gn, dr, tk', os⟩)
    (B : Below A₀ base outer h₀ := by k_asm) (F : Fr h₀ L h m := by k_asm) (X : (hd.heap_39 w.params).In h₀ := by k_asm) (T : Top VW LO mean mg mb h₀ := by k_asm)
    (hk : cs.kind = .function := by first | exact rfl | assumption) (hd : dp + need < recursionLimit := by ktr_room) (hu : un + 8 * need < cLine := by ktr_units) :
    wpAny (model PG w) (ktrTop dp un gd cn cs L a ccd cl outer) (call (.ref f) args) Q E ⟨h, gn, dr, tk, os⟩ :=
  wpAny_T (C _ _ _ _ _ _ _ _ _ _ _ _ _ _ ⟨h, gn, dr, tk, os⟩ _ _ B F X N T hk hd hu hp fun v news' h' tk' p F' N' hle => ret v news' h' tk' hle p F' N')
/-- a contract's use, with what the call can't have taken back -/
theorem Ctr.useT {w : World} {mean : ExcName → Option Value} {mg mb : Str → Option Value} {need : Nat} {f : Addr} {args : List Value} {news : List (Addr × Obj)}
    {Post : Value → List (Addr × Obj) → Prop} {PostE : Addr → List (Addr × Obj) → Prop} (C : Ctr w mean mg mb need f args news Post PostE)
    {dp un : Nat} {gd : Option (List Code)} {cn : Str} {cs : Scope} {a : Addr} {ccd : Value} {cl : List (Str × Addr)} {outer : List Env} {A₀ : Around} {base h₀ : Heap} {L : Addr} {m : Str → Option Value} {h : Heap} {gn : Array GenState} {dr : Drawn} {tk : Nat} {os : OsState} {Q E : Value → Shared → Prop}
    (N : News h₀ L h news) (hE : ∀ C newsX, ¬ PostE C newsX)
    (ret : ∀ v news' h' tk', tk ≤ tk' → Post v news' → Fr h₀ L h' m → News h₀ L h' news' → Q v ⟨h', gn, dr, tk', os⟩)
    (B : Below A₀ base outer h₀ := by k_asm) (F : Fr h₀ L h m := by k_asm) (X : (hd.heap_39 w.params).In h₀ := by k_asm) (T : Top VW LO mean mg mb h₀ := by k_asm)
    (hk : cs.kind = .function := by first | exact rfl | assumption) (hd : dp + need < recursionLimit := by ktr_room) (hu : un + 8 * need < cLine := by ktr_units) :
    wpAny (model PG w) (ktrTop dp un gd cn cs L a ccd cl outer) (call (.ref f) args) Q E ⟨h, gn, dr, tk, os⟩ :=
  wpAny_T (C _ _ _ _ _ _ _ _ _ _ _ _ _ _ ⟨h, gn, dr, tk, os⟩ _ _ B F X N T hk hd hu (fun v news' h' tk' p F' N' hle => ret v news' h' tk' hle p F' N') fun _ _ _ _ _ _ _ _ p => absurd p (hE _ _))
/-- the texts as they stand in a list, item by item -/
inductive Txts (tk : Nat) : List (List It) → List Value → Prop
  | nil : Txts tk [] []
  | cons {its : List It} {x : Str} {t : Tok} {Ts : List (List It)} {fv : List Value} (h : x.cps.toList = cpsOf its) (h0 : 0 < t) (h1 : t < tk) (r : Txts tk Ts fv) : Txts tk (its :: Ts) (.str x t :: fv)
theorem Txts.mono {tk tk' : Nat} {Ts : List (List It)} {fv : List Value} (h : Txts tk Ts fv) (hle : tk ≤ tk') : Txts tk' Ts fv := by
  induction h with
  | nil => exact .nil
  | cons h h0 h1 _ ih => exact .cons h h0 (Nat.lt_of_lt_of_le h1 hle) ih
theorem Txts.snoc {tk : Nat} {Ts : List (List It)} {fv : List Value} (h : Txts tk Ts fv) {its : List It} {x : Str} {t : Tok} (hx : x.cps.toList = cpsOf its) (h0 : 0 < t) (h1 : t < tk) : Txts tk (Ts ++ [its]) (fv ++ [.str x t]) := by
  induction h with
  | nil => exact .cons hx h0 h1 .nil
  | cons h h0 h1 _ ih => exact .cons h h0 h1 ih
theorem Txts.len {tk : Nat} {Ts : List (List It)} {fv : List Value} (h : Txts tk Ts fv) : fv.length = Ts.length := by
  induction h with
  | nil => rfl
  | cons _ _ _ _ ih => simp [ih]
theorem Txts.get {tk : Nat} {Ts : List (List It)} {fv : List Value} (h : Txts tk Ts fv) : ∀ k < Ts.length, ∃ x t, fv[k]? = some (.str x t) ∧ x.cps.toList = cpsOf (Ts.getD k []) ∧ 0 < t ∧ t < tk := by
  induction h with
  | nil => intro k hk; exact absurd hk (Nat.not_lt_zero _)
  | @cons its x t Ts fv h h0 h1 _ ih =>
    intro k hk
    cases k with
    | zero => exact ⟨x, t, rfl, h, h0, h1⟩
    | succ k => exact ih k (Nat.lt_of_succ_lt_succ hk)
/-- a text as it is built for a place in the row -/
structure ItsOk (j : Option Nat) (its : List It) : Prop where
  of : Of j its
  len : its.length ≤ 5
  two : refs its ≤ 2
  signs : ∀ c, It.ch c ∈ its → Plain c
  some : j ≠ none → 0 < refs its
theorem built_snoc {Ts : List (List It)} {its : List It} (h : Built (fun k => Ts.getD k []) Ts.length) (hi : ItsOk (pre? Ts.length) its) : Built (fun k => (Ts ++ [its]).getD k []) (Ts ++ [its]).length := by
  have e : ∀ k < (Ts ++ [its]).length, (k < Ts.length ∧ (Ts ++ [its]).getD k [] = Ts.getD k []) ∨ (k = Ts.length ∧ (Ts ++ [its]).getD k [] = its) := by
    intro k hk
    rw [List.length_append, List.length_singleton] at hk
    by_cases hc : k < Ts.length
    · left
      refine ⟨hc, ?_⟩
      simp only [List.getD_eq_getElem?_getD, List.getElem?_append_left hc]
    · right
      have : k = Ts.length := by (first | lia | omega)
      subst this
      refine ⟨rfl, ?_⟩
      simp
  refine ⟨?_, ?_, ?_⟩
  · intro k hk
    rcases e k hk with ⟨h1, h2⟩ | ⟨h1, h2⟩
    · dsimp only
      rw [h2]
      exact h.texts k h1
    · dsimp only
      rw [h2, h1]
      exact ⟨hi.of, hi.len, hi.two⟩
  · intro k hk
    show ∀ c, It.ch c ∈ (Ts ++ [its]).getD k [] → Plain c
    rcases e k hk with ⟨h1, h2⟩ | ⟨h1, h2⟩
    · rw [h2]; exact h.signs k h1
    · rw [h2]; exact hi.signs
  · intro k h0 hk
    show 0 < refs ((Ts ++ [its]).getD k [])
    rcases e k hk with ⟨h1, h2⟩ | ⟨h1, h2⟩
    · rw [h2]; exact h.some k h0 h1
    · rw [h2]
      refine hi.some ?_
      rw [← h1]
      cases k with
      | zero => exact absurd h0 (Nat.lt_irrefl 0)
      | succ k => exact fun q => nomatch q
theorem built_nil : Built (fun k => ([] : List (List It)).getD k []) ([] : List (List It)).length := ⟨fun _ hk => absurd hk (Nat.not_lt_zero _), fun _ hk => absurd hk (Nat.not_lt_zero _), fun _ _ hk => absurd hk (Nat.not_lt_zero _)⟩
end Mine
namespace Mine
section
variable {prog : Program} {w : World} {A : Around} {E : Value → Shared → Prop} {h : Heap} {gn : Array GenState} {dr : Drawn} {tk : Nat} {os : OsState} {h₀ : Heap} {L : Addr} {m : Str → Option Value} {news : List (Addr × Obj)} {Q : Value → Shared → Prop}
/-- a list of one text, some times over -/
theorem mulS {D : Addr} {a : Str} {t u : Tok} {c r : Nat} {x : Int} (F : Fr h₀ L h m) (N : News h₀ L h news) (hm : (D, listOf #[.str a t] c) ∈ news) (hx : x = (r : Int)) (h1 : 1 ≤ r) (h8 : r ≤ 8)
    (hq : ∀ D' h', Fr h₀ L h' m → News h₀ L h' ((D', listOf (strValues (List.replicate r (a, t))).toArray 0) :: news) → (∀ p ∈ news, p.1 < D') → Q (.ref D') ⟨h', gn, dr, tk, os⟩) :
    wpAny (model prog w) A (binaryOp .Mult (.ref D) (.int x u)) Q E ⟨h, gn, dr, tk, os⟩ := by
  have dum21 : Unit := ()
  revert F N hm hx h1 h8 hq
  revert prog w A E h gn dr tk os h₀ L m news Q D a t u c r x dum21
  refine @pick22 _ _ _ _ _ _ _ _ _ _ _ _ _ _ _ _ _ _ _ _ _ _ _ ?ne58 ?_
  (case ne58 => walk_at "ne")
  generalize ck22 _ = tU
  generalize hd2 tU = prog, tl2 tU = tU
  generalize hd2 tU = w, tl2 tU = tU
  generalize hd2 tU = A, tl2 tU = tU
  generalize hd2 tU = E, tl2 tU = tU
  generalize hd2 tU = h, tl2 tU = tU
  generalize hd2 tU = gn, tl2 tU = tU
  generalize hd2 tU = dr, tl2 tU = tU
  generalize hd2 tU = tk, tl2 tU = tU
  generalize hd2 tU = os, tl2 tU = tU
  generalize hd2 tU = h₀, tl2 tU = tU
  generalize hd2 tU = L, tl2 tU = tU
  generalize hd2 tU = m, tl2 tU = tU
  generalize hd2 tU = news, tl2 tU = tU
  generalize hd2 tU = Q, tl2 tU = tU
  generalize hd2 tU = D, tl2 tU = tU
  generalize hd2 tU = a, tl2 tU = tU
  generalize hd2 tU = t, tl2 tU = tU
  generalize hd2 tU = u, tl2 tU = tU
  generalize hd2 tU = c, tl2 tU = tU
  generalize hd2 tU = r, tl2 tU = tU
  generalize hd2 tU = x
  intro F N hm hx h1 h8 hq
  subst hx
  refine mul_list (s := ⟨h, gn, dr, tk, os⟩) F N (N _ hm).1 (by (first | lia | omega)) (by (first | lia | omega)) (by show 1 * _ ≤ _; simp; (first | lia | omega)) fun h' F' N' => hq _ h' F' ?_ fun p hp => Heap.lt_size (N p hp).1
  have e : List.foldl (fun x1 x2 => x1 ++ x2) #[] (List.replicate (if (#[Value.str a t] : Array Value).isEmpty = true then 0 else ((r : Nat) : Int).toNat) #[Value.str a t]) = (strValues (List.replicate r (a, t))).toArray := by
    have : r = 1 ∨ r = 2 ∨ r = 3 ∨ r = 4 ∨ r = 5 ∨ r = 6 ∨ r = 7 ∨ r = 8 := by (first | lia | omega)
    rcases this with rfl | rfl | rfl | rfl | rfl | rfl | rfl | rfl <;> rfl
  rw [e] at N'
  exact N'
theorem strValues_app (a b : List (Str × Tok)) : strValues (a ++ b) = strValues a ++ strValues b := List.map_append
theorem addS {D1 D2 : Addr} {l1 l2 : List (Str × Tok)} {c1 c2 : Nat} (F : Fr h₀ L h m) (N : News h₀ L h news) (hm1 : (D1, listOf (strValues l1).toArray c1) ∈ news) (hm2 : (D2, listOf (strValues l2).toArray c2) ∈ news) (hs : l1.length + l2.length ≤ 1000)
    (hq : ∀ D' h', Fr h₀ L h' m → News h₀ L h' ((D', listOf (strValues (l1 ++ l2)).toArray 0) :: news) → (∀ p ∈ news, p.1 < D') → Q (.ref D') ⟨h', gn, dr, tk, os⟩) :
    wpAny (model prog w) A (binaryOp .Add (.ref D1) (.ref D2)) Q E ⟨h, gn, dr, tk, os⟩ := by
  refine kmk_add_lit (s := ⟨h, gn, dr, tk, os⟩) (zs := strValues (l1 ++ l2)) F N (News.isList N hm1) (News.isList N hm2) ?_ hq ?_
  · rw [strValues_app]
  · have e1 : (strValues l1).length = l1.length := by simp [strValues]
    have e2 : (strValues l2).length = l2.length := by simp [strValues]
    rw [sizeLine_eq]
    simp only [List.toList_toArray, e1, e2]
    (first | lia | omega)
theorem revS {value slice : PySem.Expr} {D : Addr} {l : List (Str × Tok)} {c : Nat} {uk : Tok} {ops : List Value} (F : Fr h₀ L h m) (N : News h₀ L h news) (hm : (D, listOf (strValues l).toArray c) ∈ news) (hz : l.length ≤ 1000)
    (hq : ∀ D' h', Fr h₀ L h' m → News h₀ L h' ((D', listOf (strValues l.reverse).toArray 0) :: news) → (∀ p ∈ news, p.1 < D') → Q (.ref D') ⟨h', gn, dr, tk, os⟩)
    (hs : subscripted slice false (.ref D) (.ref h.objs.size) = operate ops (getItem (.ref D) (.ref h.objs.size))) (ht : ∀ r, letTemporaryGo value (.ref D) r = pure ()) :
    wpAny (model prog w) A (subscriptTail value slice (.ref D) (.ref h.objs.size)) Q E ⟨h.push { cls := .type "slice", data := .fields #[.none, .none, .int (-1) uk] }, gn, dr, tk, os⟩ := by
  refine krv_lit (s := ⟨h, gn, dr, tk, os⟩) (zs := strValues l.reverse) F N (News.isList N hm) (IsPart.int _ _) ?_ hq hs ht ?_
  · rw [List.toList_toArray]; unfold strValues; rw [List.map_reverse]
  · have e1 : (strValues l).length = l.length := by simp [strValues]
    rw [sizeLine_eq, List.size_toArray, e1]; (first | lia | omega)
theorem upS {value slice : PySem.Expr} {D : Addr} {l : List (Str × Tok)} {c k : Nat} {x : Int} {uk : Tok} (F : Fr h₀ L h m) (N : News h₀ L h news) (hm : (D, listOf (strValues l).toArray c) ∈ news) (hz : l.length ≤ 1000) (hx : x = (k : Int))
    (hq : ∀ D' h', Fr h₀ L h' m → News h₀ L h' ((D', listOf (strValues (l.take k)).toArray 0) :: news) → (∀ p ∈ news, p.1 < D') → Q (.ref D') ⟨h', gn, dr, tk, os⟩)
    (hs : subscripted slice false (.ref D) (.ref h.objs.size) = operate [.ref h.objs.size, .ref D] (getItem (.ref D) (.ref h.objs.size))) (ht : ∀ r, letTemporaryGo value (.ref D) r = pure ()) :
    wpAny (model prog w) A (subscriptTail value slice (.ref D) (.ref h.objs.size)) Q E ⟨h.push { cls := .type "slice", data := .fields #[.none, .int x uk, .none] }, gn, dr, tk, os⟩ := by
  subst hx
  refine kms_slice_lit (s := ⟨h, gn, dr, tk, os⟩) (zs := strValues (l.take k)) F N (News.isList N hm) .none (IsPart.int _ _) ?_ hq hs ht ?_
  · have e1 : (strValues l).length = l.length := by simp [strValues]
    show ((strValues l).drop 0).take ((if ((k : Nat) : Int) < 0 then (strValues l).length - (-((k : Nat) : Int)).toNat else min ((k : Nat) : Int).toNat (strValues l).length) - 0) = _
    rw [if_neg (by (first | lia | omega)), Int.toNat_natCast, List.drop_zero, Nat.sub_zero, kmk_take_min]
    unfold strValues
    rw [List.map_take]
  · have e1 : (strValues l).length = l.length := by simp [strValues]
    rw [sizeLine_eq, List.size_toArray, e1]; (first | lia | omega)
end
end Mine
namespace Mine
/-- the parts of a text, in a row: some references, some signs -/
def partsL (i r k : Nat) (t t1 t2 : Tok) : List (Str × Tok) := List.replicate r (⟨#[38, 101, 48 + i, 59]⟩, t) ++ [(Str.ofString "x", t1), (Str.ofString "yz", t2)].take k
theorem parts_ok {i r k : Nat} {t t1 t2 : Tok} (hr : 1 ≤ r) (hr2 : r ≤ 2) (hk : k ≤ 2) (l : List (Str × Tok)) (hl : l = partsL i r k t t1 t2 ∨ l = (partsL i r k t t1 t2).reverse) :
    ∃ its, ItsOk (some i) its ∧ ((l.map (·.1)).flatMap fun y => y.cps.toList) = cpsOf its ∧ ((l.map (·.1)).map (·.length)).sum ≤ 1000 ∧ ∀ p ∈ l, p.2 = t ∨ p.2 = t1 ∨ p.2 = t2 := by
  have dum7 : Unit := ()
  revert hr hr2 hk hl
  revert i r k t t1 t2 l dum7
  refine @pick8 _ _ _ _ _ _ _ _ _ ?ne57 ?_
  (case ne57 => walk_at "ne")
  generalize ck8 _ = tU
  generalize hd2 tU = i, tl2 tU = tU
  generalize hd2 tU = r, tl2 tU = tU
  generalize hd2 tU = k, tl2 tU = tU
  generalize hd2 tU = t, tl2 tU = tU
  generalize hd2 tU = t1, tl2 tU = tU
  generalize hd2 tU = t2, tl2 tU = tU
  generalize hd2 tU = l
  intro hr hr2 hk hl
  have key : ∀ (j : Nat) (its : List It), (∀ x ∈ its, x = .ref i ∨ x = .ch 120 ∨ x = .ch 121 ∨ x = .ch 122) → its.length ≤ 5 → 0 < refs its → refs its ≤ 2 → ItsOk (some i) its := by
    intro _ its h1 h2 h3 h4
    refine ⟨fun x hx => ?_, h2, h4, fun c hc => ?_, fun _ => h3⟩
    · rcases h1 x hx with rfl | rfl | rfl | rfl
      · exact .inr ⟨i, rfl, rfl⟩
      · exact .inl ⟨_, rfl⟩
      · exact .inl ⟨_, rfl⟩
      · exact .inl ⟨_, rfl⟩
    · unfold Plain
      rcases h1 _ hc with e | e | e | e <;> cases e <;> decide
  have ex : Str.ofString "x" = ⟨#[120]⟩ := by decide
  have ey : Str.ofString "yz" = ⟨#[121, 122]⟩ := by decide
  unfold partsL at hl
  rw [ex, ey] at hl
  have hr' : r = 1 ∨ r = 2 := by (first | lia | omega)
  have hk' := lt3 (k := k) (by first | assumption | (first | lia | omega))
  have fin : ∀ its : List It, (∀ x ∈ its, x = .ref i ∨ x = .ch 120 ∨ x = .ch 121 ∨ x = .ch 122) ∧ its.length ≤ 5 ∧ 0 < refs its ∧ refs its ≤ 2 → ((l.map (·.1)).flatMap fun y => y.cps.toList) = cpsOf its →
      (((l.map (·.1)).map (·.length)).sum ≤ 1000 ∧ ∀ p ∈ l, p.2 = t ∨ p.2 = t1 ∨ p.2 = t2) → ∃ its, ItsOk (some i) its ∧ ((l.map (·.1)).flatMap fun y => y.cps.toList) = cpsOf its ∧ ((l.map (·.1)).map (·.length)).sum ≤ 1000 ∧ ∀ p ∈ l, p.2 = t ∨ p.2 = t1 ∨ p.2 = t2 :=
    fun its h e h' => ⟨its, key 0 its h.1 h.2.1 h.2.2.1 h.2.2.2, e, h'.1, h'.2⟩
  rcases hr' with rfl | rfl <;> rcases hk' with rfl | rfl | rfl <;> rcases hl with rfl | rfl
  · exact fin [.ref i] (by simp [refs]) rfl (by simp [Str.length])
  · exact fin [.ref i] (by simp [refs]) rfl (by simp [Str.length])
  · exact fin [.ref i, .ch 120] (by simp [refs]) rfl (by simp [Str.length])
  · exact fin [.ch 120, .ref i] (by simp [refs]) rfl (by simp [Str.length])
  · exact fin [.ref i, .ch 120, .ch 121, .ch 122] (by simp [refs]) rfl (by simp [Str.length])
  · exact fin [.ch 121, .ch 122, .ch 120, .ref i] (by simp [refs]) rfl (by simp [Str.length])
  · exact fin [.ref i, .ref i] (by simp [refs]) rfl (by simp [Str.length])
  · exact fin [.ref i, .ref i] (by simp [refs]) rfl (by simp [Str.length])
  · exact fin [.ref i, .ref i, .ch 120] (by simp [refs]) rfl (by simp [Str.length])
  · exact fin [.ch 120, .ref i, .ref i] (by simp [refs]) rfl (by simp [Str.length])
  · exact fin [.ref i, .ref i, .ch 120, .ch 121, .ch 122] (by simp [refs]) rfl (by simp [Str.length])
  · exact fin [.ch 121, .ch 122, .ch 120, .ref i, .ref i] (by simp [refs]) rfl (by simp [Str.length])
section
variable {prog : Program} {w : World} {A : Around} {E : Value → Shared → Prop} {s : Shared} {Q : Value → Shared → Prop}
/-- short texts set together with nothing between -/
theorem join_E {D : Addr} {l : List (Str × Tok)} {vs : Array Value} {t : Tok} {cs : List Nat} (hl : s.heap.IsList D vs) (hv : vs = (strValues l).toArray) (hs : ((l.map (·.1)).map (·.length)).sum ≤ 1000) (hc : ((l.map (·.1)).flatMap fun y => y.cps.toList) = cs)
    (h0 : 0 < s.toks) (hb : ∀ p ∈ l, 0 < p.2 ∧ p.2 < s.toks) (hq : ∀ y t' k, y.cps.toList = cs → 0 < t' → t' < k → s.toks ≤ k → Q (.str y t') { s with toks := k }) : wpAny (model prog w) A (call (.builtin "str.join") [.str (Str.ofString "") t, .ref D]) Q E s := by
  subst hv
  refine join_T (texts := l.map (·.1)) hl rfl ?_ h0 (fun p hp => hb p (hp ▸ List.mem_singleton.mpr rfl)) fun t' k a b c => hq _ _ _ ?_ a b c
  · have : (Str.ofString "").length = 0 := by decide
    rw [this, Nat.mul_zero]
    (first | lia | omega)
  · rw [join_empty, ← hc]
theorem str_numN {h : Heap} {gn : Array GenState} {dr : Drawn} {tk : Nat} {os : OsState} {a : Int} {i : Nat} {t : Tok} (e : a = (i : Int)) (h1 : i < 4) (hq : Q (.str ⟨#[48 + i]⟩ tk) ⟨h, gn, dr, tk + 1, os⟩) : wpAny (model prog w) A (call (.type "str") [.int a t]) Q E ⟨h, gn, dr, tk, os⟩ := by
  subst e
  exact str_num (by (first | lia | omega)) (by (first | lia | omega)) (by simpa using hq)
theorem refs_chs (l : List Nat) : refs (l.map It.ch) = 0 := by
  induction l with
  | nil => rfl
  | cons c l ih => exact ih
/-- the count of names is let go, but for what it is above -/
theorem gen_T {α : Type} {c : Sem α} {Q : α → Shared → Prop} {h : Heap} {gns : _} {d : _} {o : _} {x : Nat} (H : ∀ tk, x < tk → wpAny (model prog w) A c Q E ⟨h, gns, d, tk, o⟩) : wpAny (model prog w) A c Q E ⟨h, gns, d, x + 1, o⟩ := H _ (Nat.lt_succ_self x)
theorem gen_T0 {α : Type} {c : Sem α} {Q : α → Shared → Prop} {h : Heap} {gns : _} {d : _} {o : _} {x : Nat} (H : ∀ tk, x ≤ tk → wpAny (model prog w) A c Q E ⟨h, gns, d, tk, o⟩) : wpAny (model prog w) A c Q E ⟨h, gns, d, x, o⟩ := H _ (Nat.le_refl x)
theorem fr_map4 {h₀ h : Heap} {L : Addr} {m : Str → Option Value} (_ : Fr h₀ L h m) {a b c d : Str} {va vb : Value} (ha : m a = some va) (hb : m b = some vb) :
    ∃ (g : Str → Option Value) (vc vd : Option Value), ∀ y, m y = if y = d then vd else if y = c then vc else if y = a then some va else if y = b then some vb else g y := by
  refine ⟨m, m c, m d, fun y => ?_⟩
  split
  · next e => rw [e]
  · split
    · next e => rw [e]
    · split
      · next e => rw [e, ha]
      · split
        · next e => rw [e, hb]
        · rfl
end
section
variable {prog : Program} {w : World} {A : Around} {E : Value → Shared → Prop} {h : Heap} {gn : Array GenState} {dr : Drawn} {tk : Nat} {os : OsState} {Q : Value → Shared → Prop}
/-- the parts set together: a text of the shape that is wanted, under a name of its own -/
theorem join_parts {D : Addr} {i : Nat} {l : List (Str × Tok)} {t t1 t2 : Nat} {u : Tok} (hl : h.IsList D (strValues l).toArray)
    (hP : ∃ its, ItsOk (some i) its ∧ ((l.map (·.1)).flatMap fun y => y.cps.toList) = cpsOf its ∧ ((l.map (·.1)).map (·.length)).sum ≤ 1000 ∧ ∀ p ∈ l, p.2 = t ∨ p.2 = t1 ∨ p.2 = t2)
    (h0 : 0 < t ∧ 0 < t1 ∧ 0 < t2) (h1 : t < tk ∧ t1 < tk ∧ t2 < tk)
    (hq : ∀ its y (t' k : Nat), ItsOk (some i) its → y.cps.toList = cpsOf its → 0 < t' → t' < k → tk ≤ k → Q (.str y t') ⟨h, gn, dr, k, os⟩) : wpAny (model prog w) A (call (.builtin "str.join") [.str (Str.ofString "") u, .ref D]) Q E ⟨h, gn, dr, tk, os⟩ := by
  obtain ⟨its, a, b, c, d⟩ := hP
  refine join_E (s := ⟨h, gn, dr, tk, os⟩) hl rfl c b (Nat.lt_of_le_of_lt (Nat.zero_le _) h1.1) (fun p hp => ?_) fun y t' k e1 e2 e3 e4 => hq its y t' k a e1 e2 e3 e4
  rcases d p hp with e | e | e <;> rw [e]
  · exact ⟨h0.1, h1.1⟩
  · exact ⟨h0.2.1, h1.2.1⟩
  · exact ⟨h0.2.2, h1.2.2⟩
end
theorem news_pick {h₀ h : Heap} {L : Addr} {p q o a b c f : Addr × Obj} {r : List (Addr × Obj)} (N : News h₀ L h (p :: q :: o :: a :: b :: c :: f :: r)) : News h₀ L h (o :: p :: f :: r) := fun x hx => N x (by
  simp only [List.mem_cons] at hx ⊢
  grind)
end Mine
namespace Mine
section
variable {prog : Program} {w : World} {A : Around} {E : Value → Shared → Prop} {h : Heap} {gn : Array GenState} {dr : Drawn} {tk : Nat} {os : OsState}
theorem item_at {value slice : PySem.Expr} {l : Addr} {vs : List Value} {i : Nat} {k : Int} {u : Tok} {v : Value} {Q : Value → Shared → Prop} (hl : h.IsList l vs.toArray) (hk : k = (i : Int)) (hlen : vs.length ≤ 1000) (hx : vs[i]? = some v) (hq : Q v ⟨h, gn, dr, tk, os⟩)
    (hs : subscripted slice false (.ref l) (.int k u) = operate [.ref l, .int k u] (getItem (.ref l) (.int k u)) := by with_unfolding_all rfl) :
    wpAny (model prog w) A (subscriptTail value slice (.ref l) (.int k u)) Q E ⟨h, gn, dr, tk, os⟩ := by
  subst hk
  have hi : i < vs.length := by
    rcases Nat.lt_or_ge i vs.length with z | z
    · exact z
    · rw [List.getElem?_eq_none z] at hx; cases hx
  exact tail_any hl.typeIs slot_list_getitem.lookup (wpAny_getItem_list hl (by omega) (by omega) (by simpa using hx) hq) hs
theorem len_at {l : Addr} {vs : List Value} {n : Nat} {Q : Value → Shared → Prop} (hl : h.IsList l vs.toArray) (hn : vs.length = n) (hlen : vs.length ≤ 1000) (hq : Q (.int (n : Int) (tk + 1)) ⟨h, gn, dr, tk + 1 + 1, os⟩) : wpAny (model prog w) A (call (.builtin "len") [.ref l]) Q E ⟨h, gn, dr, tk, os⟩ := by
  subst hn
  exact Calls.call_len_list hl (by rw [List.size_toArray]; omega) hq
end
theorem range_fit {n : Nat} (h : n ≤ 4) : Builtin.Range.small 0 (n : Int) 1 = true ∧ Builtin.Range.rangeSize 0 (n : Int) 1 = (n : Int) := by
  have := le4 (k := n) (by first | assumption | omega)
  rcases this with rfl | rfl | rfl | rfl | rfl <;> decide
theorem en_cases {i : Nat} (h : i < 4) : en i = ⟨#[101, 48]⟩ ∨ en i = ⟨#[101, 49]⟩ ∨ en i = ⟨#[101, 50]⟩ ∨ en i = ⟨#[101, 51]⟩ := by
  have := lt4 (k := i) (by first | assumption | omega)
  rcases this with rfl | rfl | rfl | rfl
  · exact .inl rfl
  · exact .inr (.inl rfl)
  · exact .inr (.inr (.inl rfl))
  · exact .inr (.inr (.inr rfl))
theorem fr_map2 {h₀ h : Heap} {L : Addr} {m : Str → Option Value} (_ : Fr h₀ L h m) {a b : Str} {va vb : Value} (ha : m a = some va) (hb : m b = some vb) :
    ∃ (g : Str → Option Value), ∀ y, m y = if y = a then some va else if y = b then some vb else g y := by
  refine ⟨m, fun y => ?_⟩
  split
  · next e => rw [e, ha]
  · split
    · next e => rw [e, hb]
    · rfl
theorem dis_perm {l l' : List (Addr × Obj)} (h : Dis l) (hp : (l'.map (·.1)).Perm (l.map (·.1))) : Dis l' := hp.nodup_iff.mpr h
structure TbSt where
  o : Obj
  kvs : List (Str × Value)
  ents : List (Addr × Obj)
/-- the entities that are declared so far -/
def Ents (w : World) (n : Nat) (txt : Nat → Str) (c : TbSt) : Prop :=
  c.o.IsDictOf (PySem.strKind PG w) c.kvs ∧ c.kvs.length = n ∧ (∀ k < n, ∃ ep ed q2 tn tx, valueAt c.kvs (en k) = some (.ref ep) ∧ (ep, instObj 397 ed) ∈ c.ents ∧ (ed, enD q2 (en k) tn (txt k) tx) ∈ c.ents) ∧ ∀ k, n ≤ k → valueAt c.kvs (en k) = none
theorem ents_nil {w : World} {txt : Nat → Str} {o : Obj} (h : o.IsDictOf (PySem.strKind PG w) []) : Ents w 0 txt ⟨o, [], []⟩ := ⟨h, rfl, fun _ hk => absurd hk (Nat.not_lt_zero _), fun _ _ => rfl⟩
theorem ents_more {w : World} {n : Nat} {txt : Nat → Str} {c : TbSt} {o' : Obj} {ep ed : Addr} {q2 : M4} {tn tx : Tok} (h : Ents w n txt c) (hd : o'.IsDictOf (PySem.strKind PG w) (c.kvs ++ [(en n, .ref ep)])) :
    Ents w (n + 1) txt ⟨o', c.kvs ++ [(en n, .ref ep)], (ep, instObj 397 ed) :: (ed, enD q2 (en n) tn (txt n) tx) :: c.ents⟩ := by
  obtain ⟨h1, h2, h3, h4⟩ := h
  have hap : ∀ k, valueAt (c.kvs ++ [(en n, Value.ref ep)]) (en k) = match valueAt c.kvs (en k) with | some v => some v | none => if n = k then some (.ref ep) else none := by
    intro k
    unfold valueAt
    rw [List.find?_append]
    cases hf : List.find? (fun kv => decide (kv.1 = en k)) c.kvs with
    | some v => rfl
    | none =>
      by_cases e : n = k
      · simp [e]
      · have e' : ¬ en n = en k := fun z => e (en_inj.mp z)
        simp [e, e']
  refine ⟨hd, by rw [List.length_append, h2]; rfl, fun k hk => ?_, fun k hk => ?_⟩
  · rcases Nat.lt_or_ge k n with z | z
    · obtain ⟨ep', ed', q', tn', tx', a, b, d⟩ := h3 k z
      exact ⟨ep', ed', q', tn', tx', by show valueAt _ _ = _; rw [hap, a], .tail _ (.tail _ b), .tail _ (.tail _ d)⟩
    · have : k = n := by omega
      subst this
      exact ⟨ep, ed, q2, tn, tx, by show valueAt _ _ = _; rw [hap, h4 k (Nat.le_refl _)]; exact if_pos rfl, .head _, .tail _ (.head _)⟩
  · show valueAt _ _ = _
    rw [hap, h4 k (by omega)]
    exact if_neg (by omega)
section
local macro_rules | `(tactic| walk_at "call builtin:len") => `(tactic| (k_here; (try dsimp only); refine len_at (News.isList (by k_asm) (by k_mem)) (by with_reducible assumption) (by with_reducible assumption) ?_))
local macro_rules | `(tactic| walk_at "call ref") => `(tactic| (k_here; (with_reducible show wpAny _ _ (call (Value.ref 438) _) _ _ _); (try dsimp only); refine Halt.go ?_))
local macro_rules | `(tactic| walk_at "exec For") => `(tactic| (k_here; refine Halt.go ?_))
local macro_rules | `(tactic| walk_at "exec For Name Call cons nil") => `(tactic| (k_here; refine Halt.go ?_))
local macro_rules | `(tactic| walk_at "pyIter ref") => `(tactic| (k_here; (try dsimp only); refine Halt.go ?_))
local macro_rules | `(tactic| walk_at "call type:str") => `(tactic| (k_here; (try dsimp only); refine str_numN (by assumption) (by assumption) ?_))
local macro_rules | `(tactic| walk_at "binaryOp Add str str") => `(tactic| (k_here; (try dsimp only); refine add_en ?_))
local macro_rules | `(tactic| walk_at "subscriptTail Name Name ref int") => `(tactic| (k_here; (try dsimp only); refine item_at (News.isList (by k_asm) (by k_mem)) (by with_reducible assumption) (by with_reducible assumption) (by with_reducible assumption) ?_))
abbrev TbM (tb tl : Addr) (g0 : Str → Option Value) (_ : TbSt) (y : Str) : Option Value := if y = Str.ofString "table" then some (Value.ref tb) else if y = Str.ofString "texts" then some (Value.ref tl) else g0 y
abbrev TbL (tb td : Addr) (q : M4) (lim ou gnn pa tl : Addr) (fv : List Value) (nf : Nat) (R0 : List (Addr × Obj)) (c : TbSt) : List (Addr × Obj) := (tb, instObj 497 td) :: (td, tbD q lim ou gnn pa) :: (gnn, c.o) :: (tl, listOf fv.toArray nf) :: (c.ents ++ R0)
abbrev TbP (w : World) (txt : Nat → Str) (tb td : Addr) (q : M4) (lim ou gnn pa tl : Addr) (fv : List Value) (nf : Nat) (R0 : List (Addr × Obj)) (i _ : Nat) (c : TbSt) : Prop := Ents w i txt c ∧ Dis (TbL tb td q lim ou gnn pa tl fv nf R0 c)
theorem mktab_ctr {w : World} {mean : ExcName → Option Value} {mg mb : Str → Option Value} {tl : Addr} {rest : List (Addr × Obj)} {fv : List Value} {nf n : Nat} {txt : Nat → Str} {dep sz : Int} {t1 t2 : Tok}
    (hD : Dis ((tl, listOf fv.toArray nf) :: rest)) (hn : fv.length = n) (hn4 : n ≤ 4) (hfv : ∀ k < n, ∃ t, fv[k]? = some (.str (txt k) t)) :
    Ctr w mean mg mb 10 529 [.ref tl, .int dep t1, .int sz t2] ((tl, listOf fv.toArray nf) :: rest)
      (fun v news' => ∃ tb lim dl ql t1 t2 td q ou gn pa c oou opa, v = .ref tb ∧ Ents w n txt c ∧ (gn == sysModules) = false ∧
        Dis ((lim, instObj 362 dl) :: (dl, liD ql dep t1 sz t2) :: (tb, instObj 497 td) :: (td, tbD q lim ou gn pa) :: (gn, c.o) :: (c.ents ++ (ou, oou) :: (pa, opa) :: (tl, listOf fv.toArray nf) :: rest)) ∧
        news' = (lim, instObj 362 dl) :: (dl, liD ql dep t1 sz t2) :: (tb, instObj 497 td) :: (td, tbD q lim ou gn pa) :: (gn, c.o) :: (c.ents ++ (ou, oou) :: (pa, opa) :: (tl, listOf fv.toArray nf) :: rest))
      (fun _ _ => False) := by
  have hfl : fv.length ≤ 1000 := by omega
  unfold Ctr
  delta PG VW LO at *
  k_fill
  have hR : IsRest rest := trivial
  intro dp un gd cn cs a ccd cl outer A₀ base h₀ L m s Q E B F X N T hk hdp hu hret hexc
  have dum31 : Unit := ()
  revert hD hn hn4 hfv hfl hR B F X N T hk hdp hu hret hexc
  revert w mean mg mb tl rest fv nf n txt dep sz t1 t2 dp un gd cn cs a ccd cl outer A₀ base h₀ L m s Q E dum31
  refine @pick32 _ _ _ _ _ _ _ _ _ _ _ _ _ _ _ _ _ _ _ _ _ _ _ _ _ _ _ _ _ _ _ _ _ ?ne145 ?_
  (case ne145 => walk_at "ne")
  generalize ck32 _ = tU
  generalize hd2 tU = w, tl2 tU = tU
  generalize hd2 tU = mean, tl2 tU = tU
  generalize hd2 tU = mg, tl2 tU = tU
  generalize hd2 tU = mb, tl2 tU = tU
  generalize hd2 tU = tl, tl2 tU = tU
  generalize hd2 tU = rest, tl2 tU = tU
  generalize hd2 tU = fv, tl2 tU = tU
  generalize hd2 tU = nf, tl2 tU = tU
  generalize hd2 tU = n, tl2 tU = tU
  generalize hd2 tU = txt, tl2 tU = tU
  generalize hd2 tU = dep, tl2 tU = tU
  generalize hd2 tU = sz, tl2 tU = tU
  generalize hd2 tU = t1, tl2 tU = tU
  generalize hd2 tU = t2, tl2 tU = tU
  generalize hd2 tU = dp, tl2 tU = tU
  generalize hd2 tU = un, tl2 tU = tU
  generalize hd2 tU = gd, tl2 tU = tU
  generalize hd2 tU = cn, tl2 tU = tU
  generalize hd2 tU = cs, tl2 tU = tU
  generalize hd2 tU = a, tl2 tU = tU
  generalize hd2 tU = ccd, tl2 tU = tU
  generalize hd2 tU = cl, tl2 tU = tU
  generalize hd2 tU = outer, tl2 tU = tU
  generalize hd2 tU = A₀, tl2 tU = tU
  generalize hd2 tU = base, tl2 tU = tU
  generalize hd2 tU = h₀, tl2 tU = tU
  generalize hd2 tU = L, tl2 tU = tU
  generalize hd2 tU = m, tl2 tU = tU
  generalize hd2 tU = s, tl2 tU = tU
  generalize hd2 tU = Q, tl2 tU = tU
  generalize hd2 tU = E
  intro hD hn hn4 hfv hfl hR B F X N T hk hdp hu hret hexc
  refine wpAny_call ?_
  k_dflt cell_enter
  k_steps
  refine Halt.at ?_
  refine For_T ?_
  k_steps
  refine Halt.at ?_
  rename Fr _ _ _ _ => Fq
  rename News _ _ _ _ => Nq
  rename IsRange _ _ _ _ _ _ _ _ => rgq
  rename_i lim dl hx0 rX l1a l2a g1 L1 hx1 B1 X1 T1 qk1 ek1 hx2 hx3 F1 N1 Tc1 kX1 tb td hx4 l1b l2b g2 L2 hx5 B2 X2 T2 hx6 ou hx7 oou loa hsa fsa hia fia l1c hx8 gnn hx9 ogn log hsg fsg hig fig l1d hx10 pa hx11 opa lop hsp fsp hip fip l1e hx12 F3 N3 Tc2 kX2 hx13 F4 N4 hx14 tkc t1u u1u v1u aK
  clear F4 N4 F3 N3 F1 N1 fsa hia fia fsg hig fig fsp hip fip hsa hsp loa lop aK
  refine rtx_Ep ?_ (fr_map2 Fq (a := Str.ofString "table") (b := Str.ofString "texts") rfl rfl)
  intro g0 hg0
  replace Fq := fr_eq Fq hg0
  clear hg0
  obtain ⟨q, ql, hq⟩ : ∃ q ql, News _ _ _ ((tb, instObj 497 td) :: (td, tbD q lim ou gnn pa) :: (gnn, ogn) :: (tl, listOf fv.toArray nf) :: (lim, instObj 362 dl) :: (dl, liD ql dep t1 sz t2) :: (ou, oou) :: (pa, opa) :: rest) :=
    ⟨⟨_, _, _, _, _, _, _, _⟩, ⟨_, _, _, _, 0, 0⟩, news_sub Nq (by walk_at "perm")⟩
  clear Nq
  have hrt := dis_head hD
  have hD0 : Dis ((tb, instObj 497 td) :: (td, tbD q lim ou gnn pa) :: (gnn, ogn) :: (tl, listOf fv.toArray nf) :: (lim, instObj 362 dl) :: (dl, liD ql dep t1 sz t2) :: (ou, oou) :: (pa, opa) :: rest) := by
    have a1 : ∀ p ∈ rest, p.1 ≠ tb := RestLt.ne rX (by omega)
    have a2 : ∀ p ∈ rest, p.1 ≠ td := RestLt.ne rX (by omega)
    have a3 : ∀ p ∈ rest, p.1 ≠ gnn := RestLt.ne rX (by omega)
    have a4 : ∀ p ∈ rest, p.1 ≠ lim := RestLt.ne rX (by omega)
    have a5 : ∀ p ∈ rest, p.1 ≠ dl := RestLt.ne rX (by omega)
    have a6 : ∀ p ∈ rest, p.1 ≠ ou := RestLt.ne rX (by omega)
    have a7 : ∀ p ∈ rest, p.1 ≠ pa := RestLt.ne rX (by omega)
    have hDr := dis_tail hD
    refine dis_cons ?_ (dis_cons ?_ (dis_cons ?_ (dis_cons ?_ (dis_cons ?_ (dis_cons ?_ (dis_cons ?_ (dis_cons ?_ hDr))))))) <;> walk_at "disall"
  clear rX l1a l2a l1b l2b l1c l1d l1e
  generalize hR0 : (lim, instObj 362 dl) :: (dl, liD ql dep t1 sz t2) :: (ou, oou) :: (pa, opa) :: rest = R0 at hq hD0
  rename_i pv178_8 pv178_7 _ pv178_6 pv178_5 pv178_4 pv178_3 pv178_2 pv178_1
  revert pv178_6 pv178_5 pv178_4 pv178_3 pv178_2 pv178_1 B1 X1 T1 qk1 ek1 Tc1 kX1 B2 X2 T2 qk ek log hsg Tc2 kX2 rgq Fq hR0 hq hD0
  revert pv178_8 pv178_7 lim dl g1 L1 tb td g2 L2 ou oou gnn ogn pa opa hx13 tk hx14 tkc t1u u1u v1u g0 q ql R0
  refine @pick27 _ _ _ _ _ _ _ _ _ _ _ _ _ _ _ _ _ _ _ _ _ _ _ _ _ _ _ _ ?ne178 ?_
  (case ne178 => walk_at "ne")
  generalize ck27 _ = tU
  generalize hd2 tU = pv178_8, tl2 tU = tU
  generalize hd2 tU = pv178_7, tl2 tU = tU
  generalize hd2 tU = lim, tl2 tU = tU
  generalize hd2 tU = dl, tl2 tU = tU
  generalize hd2 tU = g1, tl2 tU = tU
  generalize hd2 tU = L1, tl2 tU = tU
  generalize hd2 tU = tb, tl2 tU = tU
  generalize hd2 tU = td, tl2 tU = tU
  generalize hd2 tU = g2, tl2 tU = tU
  generalize hd2 tU = L2, tl2 tU = tU
  generalize hd2 tU = ou, tl2 tU = tU
  generalize hd2 tU = oou, tl2 tU = tU
  generalize hd2 tU = gnn, tl2 tU = tU
  generalize hd2 tU = ogn, tl2 tU = tU
  generalize hd2 tU = pa, tl2 tU = tU
  generalize hd2 tU = opa, tl2 tU = tU
  generalize hd2 tU = hx13, tl2 tU = tU
  generalize hd2 tU = tk, tl2 tU = tU
  generalize hd2 tU = hx14, tl2 tU = tU
  generalize hd2 tU = tkc, tl2 tU = tU
  generalize hd2 tU = t1u, tl2 tU = tU
  generalize hd2 tU = u1u, tl2 tU = tU
  generalize hd2 tU = v1u, tl2 tU = tU
  generalize hd2 tU = g0, tl2 tU = tU
  generalize hd2 tU = q, tl2 tU = tU
  generalize hd2 tU = ql, tl2 tU = R0
  intro pv178_6 pv178_5 pv178_4 pv178_3 pv178_2 pv178_1 B1 X1 T1 qk1 ek1 Tc1 kX1 B2 X2 T2 qk ek log hsg Tc2 kX2 rgq Fq hR0 hq hD0
  refine for_rangeT (n := n) (TbM tb tl g0) (TbL tb td q lim ou gnn pa tl fv nf R0) (TbP w txt tb td q lim ou gnn pa tl fv nf R0)
    ⟨ogn, [], []⟩ rfl rfl (by passes_own) (fun _ _ _ _ _ h => h) rfl rgq (range_fit hn4).1 (range_fit hn4).2 Fq hq rfl ⟨ents_nil hsg, hD0⟩ ?_ ?_
  · intro c i t h tk own hi hoff
    refine rtx_pp ?_
    intro hE hDc F4 N4
    dsimp only [TbM, TbL] at F4 N4 hoff hDc
    have hi4 : i < 4 := by omega
    have he9 : (0 : Int) + (i : Nat) * 1 = (i : Nat) := by omega
    refine rtx_Ep ?_ (hfv i hi)
    intro tf hfx
    have hgd := dis_pre (pre := [(tb, instObj 497 td), (td, tbD q lim ou gnn pa)]) hDc
    simp only [List.cons_append] at N4
    clear hq Fq hD0 hsg rgq
    generalize hRR : (c.ents ++ R0) ++ own = R at N4
    have hRi : IsRest R := trivial
    revert pv178_2 pv178_1 qk1 ek1 qk ek hi hoff hE hDc F4 hi4 he9 hfx hgd hRR N4 hRi
    revert c i t h tk own tf R
    refine @pick8 _ _ _ _ _ _ _ _ _ ?ne194 ?_
    (case ne194 => walk_at "ne")
    generalize ck8 _ = tU
    generalize hd2 tU = c, tl2 tU = tU
    generalize hd2 tU = i, tl2 tU = tU
    generalize hd2 tU = t, tl2 tU = tU
    generalize hd2 tU = h, tl2 tU = tU
    generalize hd2 tU = tk, tl2 tU = tU
    generalize hd2 tU = own, tl2 tU = tU
    generalize hd2 tU = tf, tl2 tU = R
    intro pv178_2 pv178_1 qk1 ek1 qk ek hi hoff hE hDc F4 hi4 he9 hfx hgd hRR N4 hRi
    show wpAny _ _ _ _ _ _
    k_fold
    k_steps
    refine Halt.at ?_
    rename News _ _ _ _ => NN
    refine Ctr.use (declare_ctr (rest := (tl, listOf fv.toArray nf) :: R) hE.1 log (hE.2.2.2 i (Nat.le_refl _)) (by rw [hE.2.1]; omega) (hgd _ (.head _)) (hgd _ (.tail _ (.head _))) ?_ (en_cases hi4)) (news_sub NN (by walk_at "perm")) ?_ (by rintro _ _ _ _ _ _ _ _ ⟨⟩)
    · refine (fmc (hgd (tl, _) (.tail _ (.tail _ (.head _)))) (fun p hp => ?_))
      rw [← hRR] at hp
      rcases List.mem_append.mp hp with hp | hp
      · exact hgd p (.tail _ (.tail _ (.tail _ hp)))
      · exact hoff.ne (.tail _ (.tail _ (.head _))) p hp
    · refine rts_EEEEvppppppn ?_
      intro ep ed q2 o' hd' e1 e2 e3 e4 e5 h' tk' F5 N5
      k_sweep
      rename_i pv209_2 pv209_1
      revert pv178_2 pv178_1 qk1 ek1 pv209_2 pv209_1 qk ek hd' e1 e2 e3 e4 e5 F5 N5
      revert ep ed q2 o' h' tk'
      refine @pick6 _ _ _ _ _ _ _ ?ne209 ?_
      (case ne209 => walk_at "ne")
      generalize ck6 _ = tU
      generalize hd2 tU = ep, tl2 tU = tU
      generalize hd2 tU = ed, tl2 tU = tU
      generalize hd2 tU = q2, tl2 tU = tU
      generalize hd2 tU = o', tl2 tU = tU
      generalize hd2 tU = h', tl2 tU = tk'
      intro pv178_2 pv178_1 qk1 ek1 pv209_2 pv209_1 qk ek hd' e1 e2 e3 e4 e5 F5 N5
      k_steps
      have hRt : ∀ p ∈ R, @LT.lt Nat _ p.1 ed := fun p hp => e4 p (.tail _ hp)
      have e6 : @LT.lt Nat _ tl ed := e4 (tl, _) (.head _)
      refine' turnT_end ⟨o', c.kvs ++ [(en i, .ref ep)], (ep, instObj 397 ed) :: (ed, enD q2 (en i) ?tn (txt i) tf) :: c.ents⟩ (by k_asm) (by k_asm) (fun y hy => if_neg hy) ⟨?he, ?hq⟩ ?ho1 ?hn ?ho2
      case hn =>
        refine (fmc (by k_mem) ((fmc (by k_mem) ((fmc (by k_mem) ((fmc (by k_mem) ?_)))))))
        refine (fmc (by k_mem) ((fmc (by k_mem) (fun p hp => (by walk_at "tails" : ∀ p ∈ R, p ∈ _) p (hRR ▸ List.mem_append_left _ hp)))))
      case hq =>
        have hk : Dis ((ep, instObj 397 ed) :: (ed, instObj 397 ed) :: (tb, instObj 497 td) :: (td, tbD q lim ou gnn pa) :: (gnn, c.o) :: (tl, listOf fv.toArray nf) :: (c.ents ++ R0)) := by
          have b1 : ∀ p ∈ c.ents ++ R0, @LT.lt Nat _ p.1 ed := fun p hp => hRt p (hRR ▸ List.mem_append_left _ hp)
          have b2 : ∀ p ∈ c.ents ++ R0, p.1 ≠ ed := fun p hp => Nat.ne_of_lt (b1 p hp)
          have b3 : ∀ p ∈ c.ents ++ R0, p.1 ≠ ep := fun p hp => Nat.ne_of_lt (Nat.lt_trans (b1 p hp) e5)
          refine dis_cons ?_ (dis_cons ?_ hDc) <;> walk_at "disall"
        refine dis_perm hk (List.perm_iff_count.mpr fun a => ?_)
        simp only [List.map_cons, List.map_append, List.cons_append, List.count_cons, List.count_append]
        omega
      case ho1 =>
        intro p hp b hb
        have hpe : @LT.lt Nat _ p.1 ed := hRt p (hRR ▸ List.mem_append_right _ hp)
        simp only [List.map_cons, List.map_append, List.cons_append, List.mem_cons, List.mem_append] at hb
        rcases hb with rfl | rfl | rfl | rfl | rfl | rfl | hb | hb
        · exact hoff.ne (.head _) p hp
        · exact hoff.ne (.tail _ (.head _)) p hp
        · exact hoff.ne (.tail _ (.tail _ (.head _))) p hp
        · exact hoff.ne (.tail _ (.tail _ (.tail _ (.head _)))) p hp
        · exact Nat.ne_of_lt (Nat.lt_trans hpe e5)
        · exact Nat.ne_of_lt hpe
        · exact hoff.ne (.tail _ (.tail _ (.tail _ (.tail _ (by simp only [List.map_append]; exact List.mem_append_left _ hb))))) p hp
        · exact hoff.ne (.tail _ (.tail _ (.tail _ (.tail _ (by simp only [List.map_append]; exact List.mem_append_right _ hb))))) p hp
      case ho2 =>
        exact fun p hp => (by walk_at "tails" : ∀ p ∈ R, p ∈ _) p (hRR ▸ List.mem_append_right _ hp)
      case he => exact ents_more hE hd'
  · intro c u h tk
    refine rtx_pp ?_
    intro hE hDc F4 N4
    dsimp only [TbM, TbL] at F4 N4 hDc
    clear hq Fq hD0
    subst hR0
    k_steps
    refine hret _ _ _ _ ⟨tb, lim, dl, ql, t1, t2, td, q, ou, gnn, pa, c, oou, opa, rfl, hE, log, ?_, rfl⟩ (by k_asm) (news_sub (by k_asm) ?_)
    · refine dis_perm hDc (List.perm_iff_count.mpr fun a => ?_)
      simp only [List.map_cons, List.map_append, List.count_cons, List.count_append]
      omega
    · intro p hp
      simp only [List.mem_cons, List.mem_append] at hp ⊢
      grind
end
end Mine
namespace Mine
theorem cost_le {T : Nat → List It} {m : Nat} (hT : Built T m) : ∀ k < m, k < 4 → cost T k ≤ 20 * (2 ^ (k + 1) - 1) := by
  intro k
  induction k with
  | zero =>
    intro hk _
    have := cps_len (T 0)
    have := (hT.texts 0 hk).2.1
    show (cpsOf (T 0)).length ≤ _
    (first | lia | omega)
  | succ k ih =>
    intro hk h4
    have h1 := cps_len (T (k + 1))
    have h2 := (hT.texts (k + 1) hk).2
    have h3 := ih (by (first | lia | omega)) (by (first | lia | omega))
    show (cpsOf (T (k + 1))).length + refs (T (k + 1)) * cost T k ≤ _
    have h5 : refs (T (k + 1)) * cost T k ≤ 2 * cost T k := Nat.mul_le_mul_right _ h2.2
    have h6 := lt3 (k := k) (by first | assumption | (first | lia | omega))
    rcases h6 with rfl | rfl | rfl <;> (first | lia | omega)
theorem cost_le4 {T : Nat → List It} {m : Nat} (hT : Built T m) {k : Nat} (hk : k < m) (h4 : k < 4) : cost T k ≤ 300 := by
  have h := cost_le hT k hk h4
  have := lt4 (k := k) (by first | assumption | (first | lia | omega))
  rcases this with rfl | rfl | rfl | rfl <;> (first | lia | omega)
theorem fr_map3 {h₀ h : Heap} {L : Addr} {m : Str → Option Value} (_ : Fr h₀ L h m) {a b c : Str} {va vb : Value} (ha : m a = some va) (hb : m b = some vb) :
    ∃ (g : Str → Option Value) (vc : Option Value), ∀ y, m y = if y = c then vc else if y = a then some va else if y = b then some vb else g y := by
  refine ⟨m, m c, fun y => ?_⟩
  split
  · next e => rw [e]
  · split
    · next e => rw [e, ha]
    · split
      · next e => rw [e, hb]
      · rfl
structure SzSt where
  vs : List Value
  nf : Nat
  wv : Option Value
section
local macro_rules | `(tactic| walk_at "exec For") => `(tactic| (k_here; refine Halt.go ?_))
local macro_rules | `(tactic| walk_at "exec For Name Call cons nil") => `(tactic| (k_here; refine Halt.go ?_))
local macro_rules | `(tactic| walk_at "pyIter ref") => `(tactic| (k_here; (try dsimp only); refine Halt.go ?_))
local macro_rules | `(tactic| walk_at "subscriptTail Name Name ref int") => `(tactic| (k_here; (try dsimp only); refine item_at (News.isList (by k_asm) (by k_mem)) (by with_reducible assumption) (by with_reducible assumption) (by with_reducible assumption) ?_))
local macro_rules | `(tactic| walk_at "call builtin:len") => `(tactic| (k_here; (try dsimp only); refine len_at (News.isList (by k_asm) (by k_mem)) (by with_reducible assumption) (by with_reducible assumption) ?_))
local macro_rules | `(tactic| walk_at "subscriptTail Name UnaryOp ref int") => `(tactic| (k_here; k_dflt (refine item_last (News.isList (by k_asm) (by k_mem)) (by omega) ?_)))
local macro_rules | `(tactic| walk_at "binaryOp Mult int int") => `(tactic| (k_here; refine mul_int ?_ (PySem.IntMulOk.of_left (PySem.intBits_le_64 (by omega) (by omega)))))
abbrev SzM (fl tl : Addr) (g0 : Str → Option Value) (c : SzSt) (y : Str) : Option Value := if y = Str.ofString "within" then c.wv else if y = Str.ofString "found" then some (Value.ref fl) else if y = Str.ofString "texts" then some (Value.ref tl) else g0 y
abbrev SzL (fl tl : Addr) (fv : List Value) (nf : Nat) (rest : List (Addr × Obj)) (c : SzSt) : List (Addr × Obj) := (fl, listOf c.vs.toArray c.nf) :: (tl, listOf fv.toArray nf) :: rest
abbrev SzP (T : Nat → List It) (i _ : Nat) (c : SzSt) : Prop := c.vs.length = i ∧ (0 < i → ∃ vs t, c.vs = vs ++ [Value.int ((cost T (i - 1) : Nat) : Int) t])
theorem sizes_ctr {w : World} {mean : ExcName → Option Value} {mg mb : Str → Option Value} {tl : Addr} {rest : List (Addr × Obj)} {fv : List Value} {nf n : Nat} {txt : Nat → Str} {T : Nat → List It}
    (ht : ∀ p ∈ rest, p.1 ≠ tl) (hn : fv.length = n) (hn4 : n ≤ 4) (hn1 : 1 ≤ n) (hfv : ∀ k < n, ∃ t, fv[k]? = some (.str (txt k) t)) (hx : ∀ k < n, (txt k).cps.toList = cpsOf (T k)) (hT : Built T n) :
    Ctr w mean mg mb 3 536 [.ref tl] ((tl, listOf fv.toArray nf) :: rest)
      (fun v news' => ∃ D n' vs t, v = .ref D ∧ vs.length ≤ 4 ∧ (∀ p ∈ rest, p.1 ≠ D) ∧ tl ≠ D ∧ news' = (D, listOf (vs ++ [Value.int ((cost T (n - 1) : Nat) : Int) t]).toArray n') :: (tl, listOf fv.toArray nf) :: rest)
      (fun _ _ => False) := by
  have hfl : fv.length ≤ 1000 := by omega
  unfold Ctr
  delta PG VW LO at *
  k_fill
  have hR : IsRest rest := trivial
  intro dp un gd cn cs a ccd cl outer A₀ base h₀ L m s Q E B F X N Tp hk hdp hu hret hexc
  have dum28 : Unit := ()
  have dum29 : Unit := ()
  have dum30 : Unit := ()
  have dum31 : Unit := ()
  revert ht hn hn4 hn1 hfv hx hT hfl hR B F X N Tp hk hdp hu hret hexc
  revert w mean mg mb tl rest fv nf n txt T dp un gd cn cs a ccd cl outer A₀ base h₀ L m s Q E dum28 dum29 dum30 dum31
  refine @pick32 _ _ _ _ _ _ _ _ _ _ _ _ _ _ _ _ _ _ _ _ _ _ _ _ _ _ _ _ _ _ _ _ _ ?ne111 ?_
  (case ne111 => walk_at "ne")
  generalize ck32 _ = tU
  generalize hd2 tU = w, tl2 tU = tU
  generalize hd2 tU = mean, tl2 tU = tU
  generalize hd2 tU = mg, tl2 tU = tU
  generalize hd2 tU = mb, tl2 tU = tU
  generalize hd2 tU = tl, tl2 tU = tU
  generalize hd2 tU = rest, tl2 tU = tU
  generalize hd2 tU = fv, tl2 tU = tU
  generalize hd2 tU = nf, tl2 tU = tU
  generalize hd2 tU = n, tl2 tU = tU
  generalize hd2 tU = txt, tl2 tU = tU
  generalize hd2 tU = T, tl2 tU = tU
  generalize hd2 tU = dp, tl2 tU = tU
  generalize hd2 tU = un, tl2 tU = tU
  generalize hd2 tU = gd, tl2 tU = tU
  generalize hd2 tU = cn, tl2 tU = tU
  generalize hd2 tU = cs, tl2 tU = tU
  generalize hd2 tU = a, tl2 tU = tU
  generalize hd2 tU = ccd, tl2 tU = tU
  generalize hd2 tU = cl, tl2 tU = tU
  generalize hd2 tU = outer, tl2 tU = tU
  generalize hd2 tU = A₀, tl2 tU = tU
  generalize hd2 tU = base, tl2 tU = tU
  generalize hd2 tU = h₀, tl2 tU = tU
  generalize hd2 tU = L, tl2 tU = tU
  generalize hd2 tU = m, tl2 tU = tU
  generalize hd2 tU = s, tl2 tU = tU
  generalize hd2 tU = Q, tl2 tU = tU
  generalize hd2 tU = E
  intro ht hn hn4 hn1 hfv hx hT hfl hR B F X N Tp hk hdp hu hret hexc
  refine wpAny_call ?_
  k_dflt cell_enter
  k_steps
  refine Halt.at ?_
  refine For_T ?_
  k_steps
  refine Halt.at ?_
  rename Fr _ _ _ _ => Fq
  rename News _ _ _ _ => Nq
  rename IsRange _ _ _ _ _ _ _ _ => rgq
  rename_i g1 L1 hx1 FG1 B1 X1 T1 fl hx2 rX l1 hx3 F1 N1 hx4 tk2 t1u u1u v1u aK
  clear F1 N1 aK
  refine rtx_EEp ?_ (fr_map3 Fq (a := Str.ofString "found") (b := Str.ofString "texts") (c := Str.ofString "within") rfl rfl)
  intro g0 wv0 hg0
  replace Fq := fr_eq Fq hg0
  clear hg0
  have hrf : ∀ p ∈ rest, p.1 ≠ fl := RestLt.ne rX (Nat.le_refl _)
  have htf : tl ≠ fl := Nat.ne_of_lt l1.1
  clear rX l1
  have dum12 : Unit := ()
  have dum13 : Unit := ()
  revert FG1 B1 X1 T1 qk ek rgq Nq Fq hrf htf
  revert g1 L1 fl hx3 tk hx4 tk2 t1u u1u v1u g0 wv0 dum12 dum13
  refine @pick14 _ _ _ _ _ _ _ _ _ _ _ _ _ _ _ ?ne131 ?_
  (case ne131 => walk_at "ne")
  generalize ck14 _ = tU
  generalize hd2 tU = g1, tl2 tU = tU
  generalize hd2 tU = L1, tl2 tU = tU
  generalize hd2 tU = fl, tl2 tU = tU
  generalize hd2 tU = hx3, tl2 tU = tU
  generalize hd2 tU = tk, tl2 tU = tU
  generalize hd2 tU = hx4, tl2 tU = tU
  generalize hd2 tU = tk2, tl2 tU = tU
  generalize hd2 tU = t1u, tl2 tU = tU
  generalize hd2 tU = u1u, tl2 tU = tU
  generalize hd2 tU = v1u, tl2 tU = tU
  generalize hd2 tU = g0, tl2 tU = tU
  generalize hd2 tU = wv0
  intro FG1 B1 X1 T1 qk ek rgq Nq Fq hrf htf
  refine for_rangeT (n := n) (SzM fl tl g0) (SzL fl tl fv nf rest) (SzP T)
    ⟨[], 0, wv0⟩ rfl rfl (by passes_own) (fun _ _ _ _ _ h => h) rfl rgq (range_fit hn4).1 (range_fit hn4).2 Fq Nq rfl ⟨rfl, fun h => absurd h (Nat.lt_irrefl 0)⟩ ?_ ?_
  · rintro ⟨cvs, cnf, cwv⟩ i t h tk own hi hoff
    refine rtx_pp ?_
    intro hl hc F4 N4
    dsimp only [SzM, SzL] at F4 N4 hoff
    have hi4 : i < 4 := by omega
    have he9 : (0 : Int) + (i : Nat) * 1 = (i : Nat) := by omega
    refine rtx_Ep ?_ (hfv i hi)
    intro tf hfx
    have hxi := hx i hi
    have hxl : (txt i).length = (cpsOf (T i)).length := by rw [len_is, hxi]
    have hxs : (txt i).length ≤ 1000 := by
      have := cps_len (T i)
      have := (hT.texts i hi).2.1
      omega
    have hcl : cvs.length ≤ 100 := by dsimp only at hl; omega
    dsimp only at hl hc N4 F4
    simp only [List.cons_append] at N4
    clear Fq Nq rgq
    have hob : ∀ p ∈ rest ++ own, p.1 ≠ fl := fun p hp => (List.mem_append.mp hp).elim (hrf p) fun hp => hoff.ne (.head _) p hp
    generalize hRR : rest ++ own = R at N4 hob
    have hRi : IsRest R := trivial
    rcases Nat.eq_zero_or_pos i with h0 | h0
    · subst h0
      revert qk ek hoff hcl hRR N4 hob hRi hl hc F4
      revert cvs cnf cwv t h tk own R
      refine @pick8 _ _ _ _ _ _ _ _ _ ?ne157 ?_
      (case ne157 => walk_at "ne")
      generalize ck8 _ = tU
      generalize hd2 tU = cvs, tl2 tU = tU
      generalize hd2 tU = cnf, tl2 tU = tU
      generalize hd2 tU = cwv, tl2 tU = tU
      generalize hd2 tU = t, tl2 tU = tU
      generalize hd2 tU = h, tl2 tU = tU
      generalize hd2 tU = tk, tl2 tU = tU
      generalize hd2 tU = own, tl2 tU = R
      intro qk ek hoff hcl hRR N4 hob hRi hl hc F4
      show wpAny _ _ _ _ _ _
      k_fold
      k_steps
      · rename Fr _ _ _ _ => F9
        rename News _ _ _ _ => N9
        rw [List.push_toArray] at N9
        have hcs : (((txt 0).length : Nat) : Int) + 0 = ((cost T 0 : Nat) : Int) := by rw [hxl]; rfl
        rw [hcs] at N9
        refine' turnT_end (m' := ?mm) ⟨cvs ++ [Value.int ((cost T 0 : Nat) : Int) ?t9], ?nf, ?mm (Str.ofString "within")⟩ F9 N9 ?hm ⟨by simp [hl], fun _ => ⟨_, _, rfl⟩⟩ hoff ?hn ?ho
        case hn => exact (fmc (by k_mem) ((fmc (by k_mem) (fun p hp => (by walk_at "tails" : ∀ p ∈ R, p ∈ _) p (hRR ▸ List.mem_append_left _ hp)))))
        case ho => exact fun p hp => (by walk_at "tails" : ∀ p ∈ R, p ∈ _) p (hRR ▸ List.mem_append_right _ hp)
        case hm =>
          intro z hz
          simp only [if_neg hz, if_true]
          split
          · next e => subst e; rfl
          · rfl
      all_goals (exfalso; omega)
    · obtain ⟨vs, t0, rfl⟩ := hc h0
      have hvl : vs.length < 100 := by simp at hcl; omega
      have hce := cost_le4 hT (k := i - 1) (by omega) (by omega)
      revert qk ek hi F4 hi4 he9 hfx hxi hxl hxs hRR hob hRi h0 hoff hl hc hcl N4 hvl hce
      revert cnf cwv i t h tk own tf R vs t0
      refine @pick11 _ _ _ _ _ _ _ _ _ _ _ _ ?ne179 ?_
      (case ne179 => walk_at "ne")
      generalize ck11 _ = tU
      generalize hd2 tU = cnf, tl2 tU = tU
      generalize hd2 tU = cwv, tl2 tU = tU
      generalize hd2 tU = i, tl2 tU = tU
      generalize hd2 tU = t, tl2 tU = tU
      generalize hd2 tU = h, tl2 tU = tU
      generalize hd2 tU = tk, tl2 tU = tU
      generalize hd2 tU = own, tl2 tU = tU
      generalize hd2 tU = tf, tl2 tU = tU
      generalize hd2 tU = R, tl2 tU = tU
      generalize hd2 tU = vs, tl2 tU = t0
      intro qk ek hi F4 hi4 he9 hfx hxi hxl hxs hRR hob hRi h0 hoff hl hc hcl N4 hvl hce
      show wpAny _ _ _ _ _ _
      k_fold
      k_steps
      · exfalso; omega
      · rename Fr _ _ _ _ => F9
        rename News _ _ _ _ => N9
        rw [List.push_toArray] at N9
        have hcs : (((txt i).length : Nat) : Int) + ((cost T (i - 1) : Nat) : Int) * Txt.count (txt i) (Str.ofString "&") = ((cost T (i + 1 - 1) : Nat) : Int) := by
          obtain ⟨j, rfl⟩ : ∃ j, i = j + 1 := ⟨i - 1, by omega⟩
          have e : Str.ofString "&" = ⟨#[38]⟩ := by decide
          have hO := (hT.texts (j + 1) hi).1
          rw [e, count_its (j := j) hO (fun c hc => (hT.signs (j + 1) hi c hc).1) hxi, hxl]
          show _ = (((cpsOf (T (j + 1))).length + refs (T (j + 1)) * cost T j : Nat) : Int)
          rw [Int.natCast_add, Int.natCast_mul, Int.mul_comm (refs (T (j + 1)) : Int)]
          rfl
        rw [hcs] at N9
        refine' turnT_end (m' := ?mm2) ⟨(vs ++ [Value.int ((cost T (i - 1) : Nat) : Int) t0]) ++ [Value.int ((cost T (i + 1 - 1) : Nat) : Int) ?t92], ?nf2, ?mm2 (Str.ofString "within")⟩ F9 N9 ?hm ⟨by dsimp only; rw [List.length_append, hl]; rfl, fun _ => ⟨_, _, rfl⟩⟩ hoff ?hn ?ho
        case hn => exact (fmc (by k_mem) ((fmc (by k_mem) (fun p hp => (by walk_at "tails" : ∀ p ∈ R, p ∈ _) p (hRR ▸ List.mem_append_left _ hp)))))
        case ho => exact fun p hp => (by walk_at "tails" : ∀ p ∈ R, p ∈ _) p (hRR ▸ List.mem_append_right _ hp)
        case hm =>
          intro z hz
          simp only [if_neg hz, if_true]
          split
          · next e => subst e; rfl
          · rfl
  · rintro ⟨cvs, cnf, cwv⟩ u h tk
    refine rtx_pp ?_
    intro hl hc F4 N4
    dsimp only [SzM, SzL] at F4 N4
    obtain ⟨vs, t0, rfl⟩ := hc hn1
    k_steps
    refine hret _ _ _ _ ⟨fl, cnf, vs, t0, rfl, ?_, hrf, htf, rfl⟩ (by k_asm) (by k_asm)
    dsimp only at hl
    rw [List.length_append, List.length_singleton] at hl
    omega
end
end Mine
namespace Mine
theorem range_fit2 {n : Nat} (h : n ≤ 4) : Builtin.Range.small ((n : Int) - 1) (-1) (-1) = true ∧ Builtin.Range.rangeSize ((n : Int) - 1) (-1) (-1) = (n : Int) := by
  have := le4 (k := n) (by first | assumption | (first | lia | omega))
  rcases this with rfl | rfl | rfl | rfl | rfl <;> decide
theorem putIn_len {t : List It} (ht : t.length ≤ 5) : ∀ its : List It, (putIn t its).length ≤ its.length * 5
  | [] => Nat.le_refl _
  | .ch c :: l => by
    have := putIn_len ht l
    simp only [putIn, List.length_cons]
    (first | lia | omega)
  | .ref k :: l => by
    have := putIn_len ht l
    simp only [putIn, List.length_append, List.length_cons]
    (first | lia | omega)
theorem text_ne {k : Nat} {its : List It} {z : Str} (ho : Of (pre? k) its) (hc : ∀ c, It.ch c ∈ its → c ≠ 38) (hz : z.cps.toList = cpsOf its) : ((⟨#[38, 101, 48 + k, 59]⟩ : Str) == z) = false := by
  refine beq_eq_false_iff_ne.mpr fun e => ?_
  rw [← e] at hz
  cases its with
  | nil => simp [cpsOf] at hz
  | cons i l =>
    rcases ho _ (.head _) with ⟨c, rfl⟩ | ⟨j, rfl, hj⟩
    · have := hc c (.head _)
      simp [cpsOf, It.cps] at hz
      (first | lia | omega)
    · simp [cpsOf, It.cps] at hz
      cases k with
      | zero => cases hj
      | succ k =>
        have : k = j := Option.some.inj hj
        (first | lia | omega)
/-- how far the replacing has come behind i turns -/
def PlainAt (T : Nat → List It) (n : Nat) (W : List It) (i : Nat) (x : Str) : Prop :=
  ∃ Wi, x.cps.toList = cpsOf Wi ∧ Of (pre? (n - i)) Wi ∧ (∀ c, It.ch c ∈ Wi → c ≠ 38) ∧ Wi.length ≤ 5 ^ (i + 1) ∧ replaced T (n - i) Wi = replaced T n W
theorem plainAt_len {T : Nat → List It} {n i : Nat} {W : List It} {x : Str} (h : PlainAt T n W i x) (hi : i < 4) : x.length ≤ 12500 := by
  obtain ⟨Wi, h1, _, _, h2, _⟩ := h
  have := cps_len Wi
  rw [len_is, h1]
  have := lt4 (k := i) (by first | assumption | (first | lia | omega))
  rcases this with rfl | rfl | rfl | rfl <;> (first | lia | omega)
theorem plainAt_step {T : Nat → List It} {n i : Nat} {W : List It} {x z : Str} (h : PlainAt T n W i x) (hT : Built T n) (hi : i < n) (hz : z.cps.toList = cpsOf (T (n - 1 - i))) :
    PlainAt T n W (i + 1) (Txt.replace x ⟨#[38, 101, 48 + (n - 1 - i), 59]⟩ z) := by
  obtain ⟨Wi, h1, h2, h3, h4, h5⟩ := h
  obtain ⟨j, hj⟩ : ∃ j, n - i = j + 1 := ⟨n - i - 1, by (first | lia | omega)⟩
  have e1 : n - 1 - i = j := by (first | lia | omega)
  have e2 : n - (i + 1) = j := by (first | lia | omega)
  have hk : j < n := by (first | lia | omega)
  rw [e1] at hz ⊢
  rw [hj] at h2 h5
  refine ⟨putIn (T j) Wi, replace_its h2 h3 h1 hz, ?_, signs_putIn (fun c hc => (hT.signs j hk c hc).1) h3, ?_, ?_⟩
  · rw [e2]; exact of_putIn (hT.texts j hk).1 h2
  · have := putIn_len (hT.texts j hk).2.1 Wi
    rw [Nat.pow_succ]
    (first | lia | omega)
  · rw [e2]; exact h5
theorem replace_fits {x z : Str} (hx : x.length ≤ 12500) (hz : z.length ≤ 20) : x.length + (x.length + 1) * z.length ≤ 16777216 := by
  have h : (x.length + 1) * z.length ≤ 12501 * 20 := Nat.mul_le_mul (by (first | lia | omega)) hz
  (first | lia | omega)
structure PlSt where
  x : Str
  t : Tok
section
local macro_rules | `(tactic| walk_at "exec For") => `(tactic| (k_here; refine Halt.go ?_))
local macro_rules | `(tactic| walk_at "exec For Name Call cons nil") => `(tactic| (k_here; refine Halt.go ?_))
local macro_rules | `(tactic| walk_at "pyIter ref") => `(tactic| (k_here; (try dsimp only); refine Halt.go ?_))
local macro_rules | `(tactic| walk_at "call builtin:str.replace") => `(tactic| (k_here; (try dsimp only); refine Halt.go ?_))
local macro_rules | `(tactic| walk_at "subscriptTail Name Name ref int") => `(tactic| (k_here; (try dsimp only); refine item_at (News.isList (by k_asm) (by k_mem)) (by with_reducible assumption) (by with_reducible assumption) (by with_reducible assumption) ?_))
local macro_rules | `(tactic| walk_at "call builtin:len") => `(tactic| (k_here; (try dsimp only); refine len_at (News.isList (by k_asm) (by k_mem)) (by with_reducible assumption) (by with_reducible assumption) ?_))
local macro_rules | `(tactic| walk_at "call type:str") => `(tactic| (k_here; (try dsimp only); refine str_numN (by assumption) (by assumption) ?_))
local macro_rules | `(tactic| walk_at "binaryOp Add str str") => `(tactic| (k_here; (try dsimp only); (first | refine add_ref1 ?_ | refine add_ref2 ?_)))
local macro_rules | `(tactic| walk_at "execs cons") => `(tactic| (k_here; (with_reducible refine gen_T ?_); intro tk hT9; (try dsimp only at hT9)))
local macro_rules | `(tactic| walk_at "execs nil") => `(tactic| (k_here; refine wpAny_execs_nil ?_))
abbrev PlM (tl : Addr) (g0 : Str → Option Value) (c : PlSt) (y : Str) : Option Value := if y = Str.ofString "raw" then some (Value.str c.x c.t) else if y = Str.ofString "texts" then some (Value.ref tl) else g0 y
abbrev PlL (tl : Addr) (fv : List Value) (nf : Nat) (rest : List (Addr × Obj)) (_ : PlSt) : List (Addr × Obj) := (tl, listOf fv.toArray nf) :: rest
abbrev PlP (Ts : List (List It)) (n : Nat) (W : List It) (fv : List Value) (i tk : Nat) (c : PlSt) : Prop := PlainAt (fun k => Ts.getD k []) n W i c.x ∧ Txts tk Ts fv
theorem plain_ctr {w : World} {mean : ExcName → Option Value} {mg mb : Str → Option Value} {tl : Addr} {rest : List (Addr × Obj)} {fv : List Value} {nf n : Nat} {Ts : List (List It)} {W : List It} {raw : Str} {tr : Tok}
    (ht : ∀ p ∈ rest, p.1 ≠ tl) (hn : Ts.length = n) (hn4 : n ≤ 4) (hT : Built (fun k => Ts.getD k []) n) (hW : BuiltRaw W n) (hn1 : 1 ≤ n) (hraw : raw.cps.toList = cpsOf W) :
    CtrT w mean mg mb 3 543 [.ref tl, .str raw tr] ((tl, listOf fv.toArray nf) :: rest) (fun tk => Txts tk Ts fv)
      (fun v news' _ => ∃ x t, v = .str x t ∧ x.cps.toList = cpsOf (replaced (fun k => Ts.getD k []) n W) ∧ news' = (tl, listOf fv.toArray nf) :: rest) := by
  unfold CtrT
  delta PG VW LO at *
  k_fill
  have hR : IsRest rest := trivial
  intro dp un gd cn cs a ccd cl outer A₀ base h₀ L m s Q E B F X N Tp hk hdp hu hp hret
  have dum30 : Unit := ()
  have dum31 : Unit := ()
  revert ht hn hn4 hT hW hn1 hraw hR B F X N Tp hk hdp hu hp hret
  revert w mean mg mb tl rest fv nf n Ts W raw tr dp un gd cn cs a ccd cl outer A₀ base h₀ L m s Q E dum30 dum31
  refine @pick32 _ _ _ _ _ _ _ _ _ _ _ _ _ _ _ _ _ _ _ _ _ _ _ _ _ _ _ _ _ _ _ _ _ ?ne134 ?_
  (case ne134 => walk_at "ne")
  generalize ck32 _ = tU
  generalize hd2 tU = w, tl2 tU = tU
  generalize hd2 tU = mean, tl2 tU = tU
  generalize hd2 tU = mg, tl2 tU = tU
  generalize hd2 tU = mb, tl2 tU = tU
  generalize hd2 tU = tl, tl2 tU = tU
  generalize hd2 tU = rest, tl2 tU = tU
  generalize hd2 tU = fv, tl2 tU = tU
  generalize hd2 tU = nf, tl2 tU = tU
  generalize hd2 tU = n, tl2 tU = tU
  generalize hd2 tU = Ts, tl2 tU = tU
  generalize hd2 tU = W, tl2 tU = tU
  generalize hd2 tU = raw, tl2 tU = tU
  generalize hd2 tU = tr, tl2 tU = tU
  generalize hd2 tU = dp, tl2 tU = tU
  generalize hd2 tU = un, tl2 tU = tU
  generalize hd2 tU = gd, tl2 tU = tU
  generalize hd2 tU = cn, tl2 tU = tU
  generalize hd2 tU = cs, tl2 tU = tU
  generalize hd2 tU = a, tl2 tU = tU
  generalize hd2 tU = ccd, tl2 tU = tU
  generalize hd2 tU = cl, tl2 tU = tU
  generalize hd2 tU = outer, tl2 tU = tU
  generalize hd2 tU = A₀, tl2 tU = tU
  generalize hd2 tU = base, tl2 tU = tU
  generalize hd2 tU = h₀, tl2 tU = tU
  generalize hd2 tU = L, tl2 tU = tU
  generalize hd2 tU = m, tl2 tU = tU
  generalize hd2 tU = s, tl2 tU = tU
  generalize hd2 tU = Q, tl2 tU = tU
  generalize hd2 tU = E
  intro ht hn hn4 hT hW hn1 hraw hR B F X N Tp hk hdp hu hp hret
  have hfn : fv.length = n := by rw [hp.len, hn]
  have hfl : fv.length ≤ 1000 := by omega
  refine wpAny_call ?_
  k_dflt cell_enter
  (try dsimp only)
  refine gen_T0 ?_
  intro tk0 hT0
  (try dsimp only at hT0)
  k_steps
  refine Halt.at ?_
  refine For_T ?_
  refine wpAny_T ?_
  k_steps
  refine Halt.at ?_
  rename Fr _ _ _ _ => Fq
  rename News _ _ _ _ => Nq
  rename IsRange _ _ _ _ _ _ _ _ => rgq
  rename_i g1 L1 hx1 FG1 F1 N1 B1 X1 T1 hx2 tk1 t1u u1u v1u aK hT2
  refine rtx_Ep ?_ (fr_map2 Fq (a := Str.ofString "raw") (b := Str.ofString "texts") rfl rfl)
  intro g0 hg0
  replace Fq := fr_eq Fq hg0
  clear hg0
  have dum10 : Unit := ()
  revert FG1 F1 N1 B1 X1 T1 qk ek hT0 rgq Nq aK hT2 Fq
  revert g1 L1 hx1 tk0 hx2 tk1 t1u u1u v1u g0 dum10
  refine @pick11 _ _ _ _ _ _ _ _ _ _ _ _ ?ne157 ?_
  (case ne157 => walk_at "ne")
  generalize ck11 _ = tU
  generalize hd2 tU = g1, tl2 tU = tU
  generalize hd2 tU = L1, tl2 tU = tU
  generalize hd2 tU = hx1, tl2 tU = tU
  generalize hd2 tU = tk0, tl2 tU = tU
  generalize hd2 tU = hx2, tl2 tU = tU
  generalize hd2 tU = tk1, tl2 tU = tU
  generalize hd2 tU = t1u, tl2 tU = tU
  generalize hd2 tU = u1u, tl2 tU = tU
  generalize hd2 tU = v1u, tl2 tU = tU
  generalize hd2 tU = g0
  intro FG1 F1 N1 B1 X1 T1 qk ek hT0 rgq Nq aK hT2 Fq
  refine for_rangeT (n := n) (PlM tl g0) (PlL tl fv nf rest) (PlP Ts n W fv)
    ⟨raw, tr⟩ rfl rfl (by passes_own) (fun _ _ _ _ hk h => ⟨h.1, h.2.mono hk⟩) rfl rgq (range_fit2 hn4).1 (range_fit2 hn4).2 Fq Nq rfl ⟨?_, hp.mono (by (try dsimp only at aK hT2 ⊢); omega)⟩ ?_ ?_
  · refine ⟨W, hraw, ?_, fun c hc => (hW.signs c hc).1, hW.len, rfl⟩
    have e : pre? n = some (n - 1) := by
      obtain ⟨j, rfl⟩ : ∃ j, n = j + 1 := ⟨n - 1, by omega⟩
      rfl
    rw [Nat.sub_zero, e]
    exact hW.of
  · rintro ⟨cx, ct⟩ i t h tk own hi hoff
    refine rtx_pp ?_
    intro hP hX F4 N4
    dsimp only [PlM, PlL] at F4 N4 hoff
    refine rtx_EEpppp ?_ (hX.get (n - 1 - i) (by omega))
    intro z tz hz1 hz2 hz3 hz4
    have hz3' : @LT.lt Nat _ 0 tz := hz3
    have hz4' : @LT.lt Nat _ tz tk := hz4
    have he9 : (n : Int) - 1 + (i : Nat) * (-1) = ((n - 1 - i : Nat) : Int) := by omega
    have hi4 : n - 1 - i < 4 := by omega
    have hk : n - 1 - i < n := by omega
    have hzl : z.length ≤ 20 := by
      have h1 := cps_len (Ts.getD (n - 1 - i) [])
      have h2 : (Ts.getD (n - 1 - i) []).length ≤ 5 := (hT.texts (n - 1 - i) hk).2.1
      rw [len_is, hz2]
      omega
    have hcl := plainAt_len hP (by omega)
    have hyz := text_ne (k := n - 1 - i) (hT.texts (n - 1 - i) hk).1 (fun c hc => (hT.signs (n - 1 - i) hk c hc).1) hz2
    have hst := plainAt_step hP hT hi hz2
    dsimp only at hcl hst N4 F4
    simp only [List.cons_append] at N4
    clear Fq Nq rgq hP
    generalize hRR : rest ++ own = R at N4
    have hRi : IsRest R := trivial
    generalize hkk : n - 1 - i = k at *
    revert qk ek hi hoff hX F4 hz3 hz4 hz3' hz4' hzl hcl hRR N4 hRi hkk hz1 hz2 he9 hi4 hk hyz hst
    revert cx ct i t h tk own z tz R k
    refine @pick11 _ _ _ _ _ _ _ _ _ _ _ _ ?ne191 ?_
    (case ne191 => walk_at "ne")
    generalize ck11 _ = tU
    generalize hd2 tU = cx, tl2 tU = tU
    generalize hd2 tU = ct, tl2 tU = tU
    generalize hd2 tU = i, tl2 tU = tU
    generalize hd2 tU = t, tl2 tU = tU
    generalize hd2 tU = h, tl2 tU = tU
    generalize hd2 tU = tk, tl2 tU = tU
    generalize hd2 tU = own, tl2 tU = tU
    generalize hd2 tU = z, tl2 tU = tU
    generalize hd2 tU = tz, tl2 tU = tU
    generalize hd2 tU = R, tl2 tU = k
    intro qk ek hi hoff hX F4 hz3 hz4 hz3' hz4' hzl hcl hRR N4 hRi hkk hz1 hz2 he9 hi4 hk hyz hst
    show wpAny _ _ _ _ _ _
    k_fold
    k_steps
    refine Halt.at ?_
    refine wpAny_T ?_
    refine SC.replace (by show (_ : Nat) ≠ 0; (try dsimp only); omega) (by show (_ : Nat) ≠ 0; (try dsimp only); omega) (by show (_ : Nat) ≠ _; (try dsimp only); omega) hyz (replace_fits hcl hzl) ?_
    intro t' k' hle
    dsimp only at hle
    k_steps
    refine turnT_end ⟨Txt.replace cx ⟨#[38, 101, 48 + k, 59]⟩ z, t'⟩ (by k_asm) (by k_asm) ?_ ⟨hst, hX.mono (by (try dsimp only); omega)⟩ hoff ?_ ?_
    · intro y hy
      dsimp only [PlM]
      split
      · rfl
      · simp only [if_neg hy]
    · exact (fmc (by k_mem) (fun p hp => (by walk_at "tails" : ∀ p ∈ R, p ∈ _) p (hRR ▸ List.mem_append_left _ hp)))
    · exact fun p hp => (by walk_at "tails" : ∀ p ∈ R, p ∈ _) p (hRR ▸ List.mem_append_right _ hp)
  · rintro ⟨cx, ct⟩ u h tk ⟨⟨Wi, h1, _, _, _, h2⟩, hX⟩ F4 N4
    rw [Nat.sub_self] at h2
    k_steps
    exact hret _ _ _ _ ⟨cx, ct, rfl, by rw [← h2]; exact h1, rfl⟩ (by k_asm) (by k_asm)
end
end Mine
namespace Mine
section
variable {prog : Program} {w : World} {A : Around} {E : Value → Shared → Prop} {h : Heap} {gn : Array GenState} {dr : Drawn} {tk : Nat} {os : OsState} {h₀ : Heap} {L : Addr} {m : Str → Option Value} {news : List (Addr × Obj)} {Q : Value → Shared → Prop}
theorem tailV {value slice : PySem.Expr} {D : Addr} {vs : List Value} {c : Nat} {u : Tok} (F : Fr h₀ L h m) (N : News h₀ L h news) (hm : (D, listOf vs.toArray c) ∈ news) (hz : vs.length ≤ 1000)
    (hq : ∀ D' h', Fr h₀ L h' m → News h₀ L h' ((D', listOf (vs.drop 1).toArray 0) :: news) → (∀ p ∈ news, p.1 < D') → Q (.ref D') ⟨h', gn, dr, tk, os⟩)
    (hs : subscripted slice false (.ref D) (.ref h.objs.size) = operate [.ref h.objs.size, .ref D] (getItem (.ref D) (.ref h.objs.size))) (ht : ∀ r, letTemporaryGo value (.ref D) r = pure ()) :
    wpAny (model prog w) A (subscriptTail value slice (.ref D) (.ref h.objs.size)) Q E ⟨h.push { cls := .type "slice", data := .fields #[.int 1 u, .none, .none] }, gn, dr, tk, os⟩ := by
  refine kms_slice_lit (s := ⟨h, gn, dr, tk, os⟩) (zs := vs.drop 1) F N (News.isList N hm) (IsPart.int _ _) .none ?_ hq hs ht (by rw [List.size_toArray, sizeLine_eq]; omega)
  rw [List.toList_toArray]
  cases vs with
  | nil => rfl
  | cons v r =>
    have e1 : kms_lo (some 1) (v :: r).length = 1 := by simp [kms_lo] <;> omega
    have e2 : kms_hi none (v :: r).length = r.length + 1 := by simp [kms_hi]
    unfold kms_pick
    rw [e1, e2]
    simp
theorem addV {D1 D2 : Addr} {l1 l2 : List Value} {c1 c2 : Nat} (F : Fr h₀ L h m) (N : News h₀ L h news) (hm1 : (D1, listOf l1.toArray c1) ∈ news) (hm2 : (D2, listOf l2.toArray c2) ∈ news) (hs : l1.length + l2.length ≤ 1000)
    (hq : ∀ D' h', Fr h₀ L h' m → News h₀ L h' ((D', listOf (l1 ++ l2).toArray 0) :: news) → (∀ p ∈ news, p.1 < D') → Q (.ref D') ⟨h', gn, dr, tk, os⟩) :
    wpAny (model prog w) A (binaryOp .Add (.ref D1) (.ref D2)) Q E ⟨h, gn, dr, tk, os⟩ := by
  refine kmk_add_lit (s := ⟨h, gn, dr, tk, os⟩) (zs := l1 ++ l2) F N (News.isList N hm1) (News.isList N hm2) (by simp) hq ?_
  simp only [List.toList_toArray]
  rw [sizeLine_eq]; omega
theorem add_q1 {k : Nat} {t u : Tok} (hq : Q (.str ⟨#[113, 38, 101, k]⟩ tk) ⟨h, gn, dr, tk + 1, os⟩) : wpAny (model prog w) A (binaryOp .Add (.str (Str.ofString "q&e") t) (.str ⟨#[k]⟩ u)) Q E ⟨h, gn, dr, tk, os⟩ :=
  add_T (by decide) (by show 1 ≠ 0; decide) (by show 3 + 1 ≤ 16777216; decide) hq
theorem add_q2 {k : Nat} {t u : Tok} (hq : Q (.str ⟨#[113, 38, 101, k, 59]⟩ tk) ⟨h, gn, dr, tk + 1, os⟩) : wpAny (model prog w) A (binaryOp .Add (.str ⟨#[113, 38, 101, k]⟩ t) (.str (Str.ofString ";") u)) Q E ⟨h, gn, dr, tk, os⟩ :=
  add_T (by show 4 ≠ 0; decide) (by decide) (by show 4 + 1 ≤ 16777216; decide) hq
end
theorem isTab_of {w : World} {n : Nat} {txt : Nat → Str} {c : TbSt} {tb td lim ou gn pa : Addr} {q : M4} {rest : List (Addr × Obj)} (h : Ents w n txt c) (hlo : (gn == sysModules) = false) : IsTab w tb lim n txt ((tb, instObj 497 td) :: (td, tbD q lim ou gn pa) :: (gn, c.o) :: (c.ents ++ rest)) := by
  obtain ⟨h1, h2, h3, h4⟩ := h
  refine ⟨td, q, ou, gn, pa, c.o, c.kvs, .head _, .tail _ (.head _), .tail _ (.tail _ (.head _)), hlo, h1, fun k hk => ?_⟩
  obtain ⟨ep, ed, q2, tn, tx, a, b, d⟩ := h3 k hk
  exact ⟨ep, ed, q2, tn, tx, a, .tail _ (.tail _ (.tail _ (List.mem_append_left _ b))), .tail _ (.tail _ (.tail _ (List.mem_append_left _ d)))⟩
/-- a table that is made, packed: what stands behind its limits is one list -/
theorem tab_pack {w : World} {n : Nat} {txt : Nat → Str} {c : TbSt} {tb td lim dl ou gn pa L : Addr} {q : M4} {R0 : List (Addr × Obj)} {o1 o2 : Obj} {h₀ h : Heap} (hE : Ents w n txt c) (hlo : (gn == sysModules) = false)
    (hD : Dis ((lim, o1) :: (dl, o2) :: (tb, instObj 497 td) :: (td, tbD q lim ou gn pa) :: (gn, c.o) :: (c.ents ++ R0))) (N : News h₀ L h ((lim, o1) :: (dl, o2) :: (tb, instObj 497 td) :: (td, tbD q lim ou gn pa) :: (gn, c.o) :: (c.ents ++ R0))) :
    ∃ RT, IsTab w tb lim n txt RT ∧ Dis ((lim, o1) :: (dl, o2) :: RT) ∧ (∀ p ∈ R0, p ∈ RT) ∧ News h₀ L h ((lim, o1) :: (dl, o2) :: RT) :=
  ⟨_, isTab_of hE hlo, hD, fun _ hp => .tail _ (.tail _ (.tail _ (List.mem_append_right _ hp))), N⟩
/-- the use of a contract within which faults are caught -/
theorem CtrS.use {w : World} {mean : ExcName → Option Value} {mg mb : Str → Option Value} {need : Nat} {f : Addr} {args : List Value} {news : List (Addr × Obj)} {Post : Value → List (Addr × Obj) → Prop} (C : CtrS w mean mg mb need f args news Post)
    {dp un : Nat} {gd : Option (List Code)} {cn : Str} {cs : Scope} {a : Addr} {ccd : Value} {outer : List Env} {A₀ : Around} {base h₀ g₀ : Heap} {L : Addr} {m : Str → Option Value} {h : Heap} {gn : Array GenState} {dr : Drawn} {tk : Nat} {os : OsState} {Q E : Value → Shared → Prop}
    (N : News h₀ L h news) (F : Fr h₀ L h m) (B : Below A₀ base outer h₀) (T0 : KtsTurn (outer.filterMap (·.frame)) g₀ h₀) (X : (hd.heap_39 w.params).In h₀) (T : Top VW LO mean mg mb h₀) (XB : (hd.heap_39 w.params).In base) (TB : Top VW LO mean mg mb base) (D : KtsDicts (outer.filterMap (·.frame)) h₀)
    (ret : ∀ v news' h' tk' h₁, Post v news' → KtsTurn (outer.filterMap (·.frame)) g₀ h₁ → Fr h₁ L h' m → News h₁ L h' news' → Below A₀ base outer h₁ → (hd.heap_39 w.params).In h₁ → Top VW LO mean mg mb h₁ → KtsDicts (outer.filterMap (·.frame)) h₁ → Q v ⟨h', gn, dr, tk', os⟩)
    (hk : cs.kind = .function := by first | exact rfl | assumption) (hd : dp + need < recursionLimit := by ktr_room) (hu : un + 8 * need < cLine := by ktr_units) :
    wpAny (model PG w) (ktrTop dp un gd cn cs L a ccd [] outer) (call (.ref f) args) Q E ⟨h, gn, dr, tk, os⟩ :=
  C _ _ _ _ _ _ _ _ _ _ _ _ _ ⟨h, gn, dr, tk, os⟩ _ _ B F X N T XB TB D hk hd hu fun v news' h' tk' h₁ p t1 => ret v news' h' tk' h₁ p (T0.trans t1)
/-- the same from the first frame: its ground stays -/
theorem CtrS.use0 {w : World} {mean : ExcName → Option Value} {mg mb : Str → Option Value} {need : Nat} {f : Addr} {args : List Value} {news : List (Addr × Obj)} {Post : Value → List (Addr × Obj) → Prop} (C : CtrS w mean mg mb need f args news Post)
    {dp un : Nat} {gd : Option (List Code)} {cn : Str} {cs : Scope} {a : Addr} {ccd : Value} {A₀ : Around} {base h₀ : Heap} {L : Addr} {m : Str → Option Value} {h : Heap} {gn : Array GenState} {dr : Drawn} {tk : Nat} {os : OsState} {Q E : Value → Shared → Prop}
    (N : News h₀ L h news) (F : Fr h₀ L h m) (B : Below A₀ base [] h₀) (X : (hd.heap_39 w.params).In h₀) (T : Top VW LO mean mg mb h₀) (XB : (hd.heap_39 w.params).In base) (TB : Top VW LO mean mg mb base)
    (ret : ∀ v news' h' tk', Post v news' → Fr h₀ L h' m → News h₀ L h' news' → Q v ⟨h', gn, dr, tk', os⟩)
    (hk : cs.kind = .function := by first | exact rfl | assumption) (hd : dp + need < recursionLimit := by ktr_room) (hu : un + 8 * need < cLine := by ktr_units) :
    wpAny (model PG w) (ktrTop dp un gd cn cs L a ccd [] []) (call (.ref f) args) Q E ⟨h, gn, dr, tk, os⟩ := by
  refine C _ _ _ _ _ _ _ _ _ _ _ _ _ ⟨h, gn, dr, tk, os⟩ _ _ B F X N T XB TB ktsDicts_nil hk hd hu fun v news' h' tk' h₁ p t1 F1 N1 _ _ _ _ => ret v news' h' tk' p ⟨F1.ns, fun b o e => F1.keep b o (t1.other b o e (fun q => nomatch q)), by rw [← t1.size]; exact F1.above⟩ fun q hq => ⟨(N1 q hq).1, (N1 q hq).2.1, ?_⟩
  cases e : h₀.get? q.1 with
  | none => rfl
  | some o =>
    have := t1.other _ _ e (fun q => nomatch q)
    rw [(N1 q hq).2.2] at this
    cases this
end Mine
namespace Mine
theorem take_ctr {w : World} {mean : ExcName → Option Value} {mg mb : Str → Option Value} {src : Addr} {rest : List (Addr × Obj)} {x y : Int} {tx ty tt : Tok} {top : Int} {n : Nat}
    (hr : ∀ p ∈ rest, p.1 ≠ src) (hx : 0 ≤ x) (hy : 0 ≤ y) (hy2 : y < 2147483647) (ht : 0 < top) (ht2 : top < 100) :
    Ctr w mean mg mb 1 515 [.ref src, .int top tt] ((src, listOf [.int x tx, .int y ty].toArray n) :: rest)
      (fun v news' => ∃ d td x' y' tx' ty' n', v = .int d td ∧ 0 ≤ d ∧ d < top ∧ 0 ≤ x' ∧ 0 ≤ y' ∧ y' < 2147483647 ∧ news' = (src, listOf [.int x' tx', .int y' ty'].toArray n') :: rest)
      (fun _ _ => False) := by
  walk_at "begin"
  have hR : IsRest rest := trivial
  intro dp un gd cn cs a ccd cl outer A₀ base h₀ L m s Q E B F X N T hk hd hu hret hexc
  have dum30 : Unit := ()
  have dum31 : Unit := ()
  revert hr hx hy hy2 ht ht2 hR B F X N T hk hd hu hret hexc
  revert w mean mg mb src rest x y tx ty tt top n dp un gd cn cs a ccd cl outer A₀ base h₀ L m s Q E dum30 dum31
  refine @pick32 _ _ _ _ _ _ _ _ _ _ _ _ _ _ _ _ _ _ _ _ _ _ _ _ _ _ _ _ _ _ _ _ _ ?ne60 ?_
  (case ne60 => walk_at "ne")
  generalize ck32 _ = tU
  generalize hd2 tU = w, tl2 tU = tU
  generalize hd2 tU = mean, tl2 tU = tU
  generalize hd2 tU = mg, tl2 tU = tU
  generalize hd2 tU = mb, tl2 tU = tU
  generalize hd2 tU = src, tl2 tU = tU
  generalize hd2 tU = rest, tl2 tU = tU
  generalize hd2 tU = x, tl2 tU = tU
  generalize hd2 tU = y, tl2 tU = tU
  generalize hd2 tU = tx, tl2 tU = tU
  generalize hd2 tU = ty, tl2 tU = tU
  generalize hd2 tU = tt, tl2 tU = tU
  generalize hd2 tU = top, tl2 tU = tU
  generalize hd2 tU = n, tl2 tU = tU
  generalize hd2 tU = dp, tl2 tU = tU
  generalize hd2 tU = un, tl2 tU = tU
  generalize hd2 tU = gd, tl2 tU = tU
  generalize hd2 tU = cn, tl2 tU = tU
  generalize hd2 tU = cs, tl2 tU = tU
  generalize hd2 tU = a, tl2 tU = tU
  generalize hd2 tU = ccd, tl2 tU = tU
  generalize hd2 tU = cl, tl2 tU = tU
  generalize hd2 tU = outer, tl2 tU = tU
  generalize hd2 tU = A₀, tl2 tU = tU
  generalize hd2 tU = base, tl2 tU = tU
  generalize hd2 tU = h₀, tl2 tU = tU
  generalize hd2 tU = L, tl2 tU = tU
  generalize hd2 tU = m, tl2 tU = tU
  generalize hd2 tU = s, tl2 tU = tU
  generalize hd2 tU = Q, tl2 tU = tU
  generalize hd2 tU = E
  intro hr hx hy hy2 ht ht2 hR B F X N T hk hd hu hret hexc
  refine wpAny_call ?_
  k_dflt cell_enter
  rename_i pv63_9 pv63_8 pv63_7 pv63_6 pv63_5 pv63_4 pv63_3 pv63_2 pv63_1
  have dum3 : Unit := ()
  revert pv63_6 pv63_5 pv63_4 pv63_3 pv63_2 pv63_1 qk ek
  revert pv63_9 pv63_8 pv63_7 dum3
  refine @pick4 _ _ _ _ _ ?ne63 ?_
  (case ne63 => walk_at "ne")
  generalize ck4 _ = tU
  generalize hd2 tU = pv63_9, tl2 tU = tU
  generalize hd2 tU = pv63_8, tl2 tU = tU
  generalize hd2 tU = pv63_7
  intro pv63_6 pv63_5 pv63_4 pv63_3 pv63_2 pv63_1 qk ek
  k_steps
  all_goals (refine hret _ _ _ _ ⟨_, _, _, _, _, _, _, rfl, ?_, ?_, ?_, ?_, ?_, rfl⟩ (by k_asm) (by k_asm))
  all_goals first | assumption | exact Int.fmod_nonneg_of_pos _ (by first | assumption | decide) | exact Int.fmod_lt_of_pos _ (by first | assumption | decide) | exact Int.fdiv_nonneg (by assumption) (by omega)
end Mine
namespace Mine
def qtext (k : Nat) : Str := ⟨#[113, 38, 101, 48 + k, 59]⟩
def rtext (k : Nat) : Str := ⟨#[38, 101, 48 + k, 59]⟩
theorem quiet_ok {n : Nat} : ∀ i ∈ ([113, 117, 105, 101, 116] : List Nat).map It.ch, i.ok n := by
  intro i hi
  obtain ⟨c, hc, rfl⟩ := List.mem_map.mp hi
  simp only [List.mem_cons, List.not_mem_nil, or_false] at hc
  show c ≠ 38 ∧ c ≠ 60 ∧ c ≠ 9 ∧ c ≠ 10 ∧ c ≠ 13
  (first | lia | omega)
/-- the text at a place of a list -/
def txtOf (fv : List Value) (k : Nat) : Str := match fv[k]? with
  | some (.str x _) => x
  | _ => ⟨#[]⟩
theorem txtOf_get {tk : Nat} {Ts : List (List It)} {fv : List Value} (h : Txts tk Ts fv) : ∀ k < Ts.length, (∃ t, fv[k]? = some (.str (txtOf fv k) t)) ∧ (txtOf fv k).cps.toList = cpsOf (Ts.getD k []) := by
  intro k hk
  obtain ⟨x, t, h1, h2, _, _⟩ := h.get k hk
  have e : txtOf fv k = x := by unfold txtOf; rw [h1]
  exact ⟨⟨t, by rw [e]; exact h1⟩, by rw [e]; exact h2⟩
theorem its_ok {n : Nat} {jo : Option Nat} {its : List It} (ho : Of jo its) (hs : ∀ c, It.ch c ∈ its → Plain c) (hj : ∀ j, jo = some j → j < n) : ∀ i ∈ its, i.ok n := by
  intro i hi
  rcases ho i hi with ⟨c, rfl⟩ | ⟨k, rfl, e⟩
  · exact hs c hi
  · exact hj k e
theorem built_ok {T : Nat → List It} {n : Nat} (hT : Built T n) {k : Nat} (hk : k < n) : ∀ i ∈ T k, i.ok n := by
  refine its_ok (hT.texts k hk).1 (hT.signs k hk) fun j e => ?_
  cases k with
  | zero => cases e
  | succ k =>
    have : k = j := Option.some.inj e
    (first | lia | omega)
theorem short_of {x : Str} {its : List It} (h : x.cps.toList = cpsOf its) (hl : its.length ≤ 5) : x.length ≤ 1000 := by
  have := cps_len its
  rw [len_is, h]
  (first | lia | omega)
theorem ring_txts {tk : Nat} {Ts : List (List It)} {fv fv2 : List Value} {n far : Nat} {tq : Tok} (he : fv2 = .str (qtext far) tq :: fv.drop 1) (hX : Txts tk Ts fv) (hn : Ts.length = n) (hn2 : 2 ≤ n) (hT : Built (fun k => Ts.getD k []) n) (hf : far < n) :
    fv2.length = n ∧ (∀ k < n, ∃ t, fv2[k]? = some (.str (txtOf fv2 k) t)) ∧ ∀ k < n, (txtOf fv2 k).cps.toList = cpsOf (ringOf (fun k => Ts.getD k []) far k) ∧ (∀ i ∈ ringOf (fun k => Ts.getD k []) far k, i.ok n) ∧ (txtOf fv2 k).length ≤ 1000 := by
  have hl := hX.len
  subst he
  have key : ∀ k < n, (∃ t, (Value.str (qtext far) tq :: fv.drop 1)[k]? = some (.str (txtOf (Value.str (qtext far) tq :: fv.drop 1) k) t)) ∧ (txtOf (Value.str (qtext far) tq :: fv.drop 1) k).cps.toList = cpsOf (ringOf (fun k => Ts.getD k []) far k) := by
    intro k hk
    cases k with
    | zero => exact ⟨⟨tq, rfl⟩, rfl⟩
    | succ k =>
      obtain ⟨⟨t, h1⟩, h2⟩ := txtOf_get hX (k + 1) (by (first | lia | omega))
      have e : (Value.str (qtext far) tq :: fv.drop 1)[k + 1]? = fv[k + 1]? := by
        rw [List.getElem?_cons_succ, List.getElem?_drop, Nat.add_comm]
      have e2 : txtOf (Value.str (qtext far) tq :: fv.drop 1) (k + 1) = txtOf fv (k + 1) := by unfold txtOf; rw [e]
      rw [e, e2]
      exact ⟨⟨t, h1⟩, h2⟩
  refine ⟨by rw [List.length_cons, List.length_drop]; (first | lia | omega), fun k hk => (key k hk).1, fun k hk => ⟨(key k hk).2, ?_, short_of (key k hk).2 ?_⟩⟩
  · intro i hi
    unfold ringOf at hi
    split at hi
    · rcases List.mem_cons.mp hi with rfl | hi
      · show (113 : Nat) ≠ 38 ∧ _; decide
      · rw [List.mem_singleton.mp hi]; exact hf
    · exact built_ok hT hk i hi
  · unfold ringOf
    split
    · show 2 ≤ 5; (first | lia | omega)
    · exact (hT.texts k hk).2.1
section
local macro_rules | `(tactic| walk_at "call ref") => `(tactic| (k_here; (first | (with_reducible show wpAny _ _ (call (Value.ref 515) _) _ _ _) | (with_reducible show wpAny _ _ (call (Value.ref 529) _) _ _ _) | (with_reducible show wpAny _ _ (call (Value.ref 550) _) _ _ _)); (try dsimp only); refine Halt.go ?_))
local macro_rules | `(tactic| walk_at "call builtin:len") => `(tactic| (k_here; (try dsimp only); refine len_at (News.isList (by k_asm) (by k_mem)) (by with_reducible assumption) (by with_reducible assumption) ?_))
local macro_rules | `(tactic| walk_at "call type:str") => `(tactic| (k_here; (try dsimp only); refine str_numN (by assumption) (by assumption) ?_))
local macro_rules | `(tactic| walk_at "binaryOp Add str str") => `(tactic| (k_here; (try dsimp only); (first | refine add_q1 ?_ | refine add_q2 ?_ | refine add_ref1 ?_ | refine add_ref2 ?_)))
local macro_rules | `(tactic| walk_at "subscriptTail Name Slice ref ref") => `(tactic| (k_here; (try dsimp only); k_dflt (refine' tailV ?F ?N ?M ?z ?_ ?s ?t; (case F => k_asm); (case N => k_asm); (case M => k_mem); (case z => with_reducible assumption); (case s => exact rfl); (case t => intro _; exact rfl); k_whole); intro D' h' F' N' l1; (try k_lt l1); (try k_sweep)))
local macro_rules | `(tactic| walk_at "binaryOp Add ref ref") => `(tactic| (k_here; (try dsimp only); k_dflt (refine' addV (l1 := [_]) ?F ?N ?M ?M2 ?z ?_; (case F => k_asm); (case N => k_asm); (case M => k_mem); (case M2 => k_mem); (case z => (simp only [List.length_drop, List.length_cons, List.length_nil]; omega)); k_whole); intro D' h' F' N' l1; (try k_lt l1); (try k_sweep)))
theorem ring_ctr {w : World} {mean : ExcName → Option Value} {mg mb : Str → Option Value} {src tl : Addr} {x y : Int} {tx ty : Tok} {n0 : Nat} {fv : List Value} {nf n tk0 : Nat} {Ts : List (List It)}
    (hts : tl ≠ src) (hx : 0 ≤ x) (hy : 0 ≤ y) (hy2 : y < 2147483647) (hn : Ts.length = n) (hn2 : 2 ≤ n) (hn4 : n ≤ 4) (hT : Built (fun k => Ts.getD k []) n) (hX : Txts tk0 Ts fv) :
    ∀ (dp un : Nat) (gd : Option (List Code)) (cn : Str) (cs : Scope) (a : Addr) (ccd : Value) (A₀ : Around) (base h₀ : Heap) (L : Addr) (m : Str → Option Value) (s : Shared) (Q E : Value → Shared → Prop),
      Below A₀ base [] h₀ → Fr h₀ L s.heap m → (hd.heap_39 w.params).In h₀ → News h₀ L s.heap [(src, listOf [.int x tx, .int y ty].toArray n0), (tl, listOf fv.toArray nf)] → Top VW LO mean mg mb h₀ → (hd.heap_39 w.params).In base → Top VW LO mean mg mb base →
      cs.kind = .function → dp + 40 < recursionLimit → un + 8 * 40 < cLine → (∀ h' tk', Fr h₀ L h' m → Q (.bool true) { s with heap := h', toks := tk' }) →
      wpAny (model PG w) (ktrTop dp un gd cn cs L a ccd [] []) (call (.ref 557) [.ref src, .ref tl]) Q E s := by
  have hfn : fv.length = n := by rw [hX.len, hn]
  have hfl : fv.length ≤ 1000 := by omega
  delta PG VW LO at *
  k_fill
  intro dp un gd cn cs a ccd A₀ base h₀ L m s Q E B F X N T XB TB hk hd hu hret
  have dum31 : Unit := ()
  revert hts hx hy hy2 hn hn2 hn4 hT hX hfn hfl B F X N T XB TB hk hd hu hret
  revert w mean mg mb src tl x y tx ty n0 fv nf n tk0 Ts dp un gd cn cs a ccd A₀ base h₀ L m s Q E dum31
  refine @pick32 _ _ _ _ _ _ _ _ _ _ _ _ _ _ _ _ _ _ _ _ _ _ _ _ _ _ _ _ _ _ _ _ _ ?ne131 ?_
  (case ne131 => walk_at "ne")
  generalize ck32 _ = tU
  generalize hd2 tU = w, tl2 tU = tU
  generalize hd2 tU = mean, tl2 tU = tU
  generalize hd2 tU = mg, tl2 tU = tU
  generalize hd2 tU = mb, tl2 tU = tU
  generalize hd2 tU = src, tl2 tU = tU
  generalize hd2 tU = tl, tl2 tU = tU
  generalize hd2 tU = x, tl2 tU = tU
  generalize hd2 tU = y, tl2 tU = tU
  generalize hd2 tU = tx, tl2 tU = tU
  generalize hd2 tU = ty, tl2 tU = tU
  generalize hd2 tU = n0, tl2 tU = tU
  generalize hd2 tU = fv, tl2 tU = tU
  generalize hd2 tU = nf, tl2 tU = tU
  generalize hd2 tU = n, tl2 tU = tU
  generalize hd2 tU = tk0, tl2 tU = tU
  generalize hd2 tU = Ts, tl2 tU = tU
  generalize hd2 tU = dp, tl2 tU = tU
  generalize hd2 tU = un, tl2 tU = tU
  generalize hd2 tU = gd, tl2 tU = tU
  generalize hd2 tU = cn, tl2 tU = tU
  generalize hd2 tU = cs, tl2 tU = tU
  generalize hd2 tU = a, tl2 tU = tU
  generalize hd2 tU = ccd, tl2 tU = tU
  generalize hd2 tU = A₀, tl2 tU = tU
  generalize hd2 tU = base, tl2 tU = tU
  generalize hd2 tU = h₀, tl2 tU = tU
  generalize hd2 tU = L, tl2 tU = tU
  generalize hd2 tU = m, tl2 tU = tU
  generalize hd2 tU = s, tl2 tU = tU
  generalize hd2 tU = Q, tl2 tU = tU
  generalize hd2 tU = E
  intro hts hx hy hy2 hn hn2 hn4 hT hX hfn hfl B F X N T XB TB hk hd hu hret
  refine wpAny_call ?_
  k_dflt (refine' code_defS0 ?k1 ?k2 ?k3 ?k4 ?k5 ?kA ?k6 ?k7 ?k8 ?k9 ?kB ?_ ?cK ?c2 ?c3 ?c4 ?c5; (case kA => exact rfl); (case k2 => exact F); (case k1 => exact B); (case k3 => exact X); (case k4 => exact N); (case k5 => exact T); (case k6 => k_is); (case k7 => k_is); (case k8 => k_room); (case k9 => first | exact binds_K (by k_in) rfl (by k_is) rfl rfl rfl | exact BindsTo.of_eq rfl); (case kB => exact locs rfl); (case cK => exact hk); (case c2 => exact rfl); (case c3 => exact rfl); (case c4 => exact rfl); (case c5 => decide); k_whole; intro g' L' h' FG' F' N' B' X' T' D'; (try dsimp only); (try k_lift B'); (try k_fold))
  k_steps
  refine Halt.at ?_
  refine Ctr.use (take_ctr (rest := [(tl, listOf fv.toArray nf)]) (List.forall_mem_singleton.mpr hts) hx hy hy2 (by omega) (by omega)) (by k_asm) ?_ (by rintro _ _ _ _ _ _ _ _ ⟨⟩)
  refine rts_EEEEEEEvpppppn ?_
  intro d td x' y' tx' ty' n' hd0 hd1 hx' hy' hy2' h' tk' F1 N1
  k_sweep
  revert FG' B' X' T' D' qk ek hd0 hd1 hx' hy' hy2' F1 N1
  revert g' L' d td x' y' tx' ty' n' h' tk'
  refine @pick11 _ _ _ _ _ _ _ _ _ _ _ _ ?ne140 ?_
  (case ne140 => walk_at "ne")
  generalize ck11 _ = tU
  generalize hd2 tU = g', tl2 tU = tU
  generalize hd2 tU = L', tl2 tU = tU
  generalize hd2 tU = d, tl2 tU = tU
  generalize hd2 tU = td, tl2 tU = tU
  generalize hd2 tU = x', tl2 tU = tU
  generalize hd2 tU = y', tl2 tU = tU
  generalize hd2 tU = tx', tl2 tU = tU
  generalize hd2 tU = ty', tl2 tU = tU
  generalize hd2 tU = n', tl2 tU = tU
  generalize hd2 tU = h', tl2 tU = tk'
  intro FG' B' X' T' D' qk ek hd0 hd1 hx' hy' hy2' F1 N1
  obtain ⟨far, rfl⟩ : ∃ far : Nat, d = (far : Int) := Int.eq_ofNat_of_zero_le hd0
  have hf4 : far < 4 := by omega
  have hrf : (far : Int) = ((far : Nat) : Int) := rfl
  have hff : far < n := by omega
  k_steps
  refine Halt.at ?_
  rename News _ _ _ _ => NN
  obtain ⟨q1, q2, q3⟩ := (ring_txts (fv := fv) (tq := _) rfl hX hn hn2 hT hff)
  refine Ctr.use (mktab_ctr (n := n) (fv := .str (qtext far) _ :: fv.drop 1) (rest := [(tl, listOf fv.toArray nf)]) ?_ q1 hn4 q2) (news_sub NN (by walk_at "perm")) ?_ (by rintro _ _ _ _ _ _ _ _ ⟨⟩)
  · refine dis_cons ?_ (dis_cons (by walk_at "disall") dis_nil)
    walk_at "disall"
  refine rts_EEEEEEEEEEEEEEvpppn ?_
  intro tb lim dl ql u1 u2 td q ou gnn pa c oou opa hEn hlo hDi h' tk' F2 N2
  k_sweep
  rename_i pv155_6 _ pv155_5 pv155_4 _ pv155_3 pv155_2 _ pv155_1
  have dum21 : Unit := ()
  revert qk ek hd0 hd1 hf4 hrf hff pv155_5 pv155_3 pv155_1 q1 q2 q3 hEn hlo hDi F2 N2
  revert far tk pv155_6 pv155_4 pv155_2 tb lim dl ql u1 u2 td q ou gnn pa c oou opa h' tk' dum21
  refine @pick22 _ _ _ _ _ _ _ _ _ _ _ _ _ _ _ _ _ _ _ _ _ _ _ ?ne155 ?_
  (case ne155 => walk_at "ne")
  generalize ck22 _ = tU
  generalize hd2 tU = far, tl2 tU = tU
  generalize hd2 tU = tk, tl2 tU = tU
  generalize hd2 tU = pv155_6, tl2 tU = tU
  generalize hd2 tU = pv155_4, tl2 tU = tU
  generalize hd2 tU = pv155_2, tl2 tU = tU
  generalize hd2 tU = tb, tl2 tU = tU
  generalize hd2 tU = lim, tl2 tU = tU
  generalize hd2 tU = dl, tl2 tU = tU
  generalize hd2 tU = ql, tl2 tU = tU
  generalize hd2 tU = u1, tl2 tU = tU
  generalize hd2 tU = u2, tl2 tU = tU
  generalize hd2 tU = td, tl2 tU = tU
  generalize hd2 tU = q, tl2 tU = tU
  generalize hd2 tU = ou, tl2 tU = tU
  generalize hd2 tU = gnn, tl2 tU = tU
  generalize hd2 tU = pa, tl2 tU = tU
  generalize hd2 tU = c, tl2 tU = tU
  generalize hd2 tU = oou, tl2 tU = tU
  generalize hd2 tU = opa, tl2 tU = tU
  generalize hd2 tU = h', tl2 tU = tU
  generalize hd2 tU = tk'
  intro qk ek hd0 hd1 hf4 hrf hff pv155_5 pv155_3 pv155_1 q1 q2 q3 hEn hlo hDi F2 N2
  refine rtx_Epppp ?_ (tab_pack hEn hlo hDi N2)
  intro RT hTab hDi2 hsub N3
  have hRT : IsRest RT := trivial
  replace N3 := news_sub (news := (tl, listOf fv.toArray nf) :: (lim, instObj 362 dl) :: (dl, liD ql 20 u1 1000 u2) :: RT) N3 ((fmc (.tail _ (.tail _ (hsub _ (.tail _ (.tail _ (.tail _ (.head _))))))) (fun _ h => h)))
  clear hEn hsub hDi N2
  refine rtx_Epp ?_ (ring_last (md := 20) (ms := 1000) hT (by omega) hn4 hff (Int.le_refl _) (Int.le_refl _))
  intro f1 hf1 hE1
  refine rtx_Epp ?_ (ring_first (md := 20) (ms := 1000) hT (by omega) hn4 hff (Int.le_refl _) (Int.le_refl _))
  intro f2 hf2 hE2
  have hE3 := run_plain (T := ringOf (fun k => Ts.getD k []) far) (md := 20) (ms := 1000) [113, 117, 105, 101, 116] (sz := 0) (f := [])
  have he9 : (n : Int) - 1 = ((n - 1 : Nat) : Int) := by omega
  have hn14 : n - 1 < 4 := by omega
  have hf3 : ([113, 117, 105, 101, 116] : List Nat).length + 1 ≤ 10000 := by decide
  k_steps
  refine Halt.at ?_
  refine CtrS.use (told_ctr (g := .fresh) (sz := 0) (tlim := lim) (rest := RT) (its := [.ref (n - 1)]) (out := .ent) (fun _ => ⟨rfl, rfl⟩) hDi2 hTab hn4 (Int.le_refl 20) rfl (List.forall_mem_singleton.mpr (by show n - 1 < n; omega)) (by show 4 ≤ 1000; decide) q3 hE1 hf1) (news_sub (by k_asm) (by walk_at "perm")) (by k_asm) (by k_asm) KtsTurn.refl (by k_asm) (by k_asm) XB TB (by k_asm) ?_
  refine rtg_oEvcn ?_
  intro v1 h' tk' G1 TT1 F1 N1 BB1 XX1 PP1 DD1
  k_lift BB1
  rename_i pv176_1
  have dum5 : Unit := ()
  clear pv176_1
  revert qk ek hTab hDi2 hRT TT1 F1 N1 BB1 XX1 PP1 DD1
  revert RT v1 h' tk' G1 dum5
  refine @pick6 _ _ _ _ _ _ _ ?ne176 ?_
  (case ne176 => walk_at "ne")
  generalize ck6 _ = tU
  generalize hd2 tU = RT, tl2 tU = tU
  generalize hd2 tU = v1, tl2 tU = tU
  generalize hd2 tU = h', tl2 tU = tU
  generalize hd2 tU = tk', tl2 tU = tU
  generalize hd2 tU = G1
  intro qk ek hTab hDi2 hRT TT1 F1 N1 BB1 XX1 PP1 DD1
  k_steps
  refine Halt.at ?_
  refine CtrS.use (told_ctr (g := .fresh) (sz := 0) (tlim := lim) (rest := RT) (its := [.ref 0]) (out := .ent) (fun _ => ⟨rfl, rfl⟩) hDi2 hTab hn4 (Int.le_refl 20) (by decide) (List.forall_mem_singleton.mpr (by show 0 < n; omega)) (by decide) q3 hE2 hf2) (by k_asm) (by k_asm) (by k_asm) TT1 (by k_asm) (by k_asm) XB TB (by k_asm) ?_
  refine rtg_oEvcn ?_
  intro v2 h' tk' G2 TT2 F2 N2 BB2 XX2 PP2 DD2
  k_lift BB2
  revert qk ek TT2 F2 N2 BB2 XX2 PP2 DD2
  revert v2 h' tk' G2
  refine @pick4 _ _ _ _ _ ?ne183 ?_
  (case ne183 => walk_at "ne")
  generalize ck4 _ = tU
  generalize hd2 tU = v2, tl2 tU = tU
  generalize hd2 tU = h', tl2 tU = tU
  generalize hd2 tU = tk', tl2 tU = G2
  intro qk ek TT2 F2 N2 BB2 XX2 PP2 DD2
  k_steps
  refine Halt.at ?_
  refine CtrS.use (told_ctr (g := .fresh) (sz := 0) (tlim := lim) (rest := RT) (its := [113, 117, 105, 101, 116].map It.ch) (out := .txt ([] ++ [113, 117, 105, 101, 116]) 0) (fun _ => ⟨rfl, rfl⟩) hDi2 hTab hn4 (Int.le_refl 20) (by decide) quiet_ok (by decide) q3 hE3 hf3) (by k_asm) (by k_asm) (by k_asm) TT2 (by k_asm) (by k_asm) XB TB (by k_asm) ?_
  refine rtg_oEvcEEn ?_
  intro v3 u3 w3 h' tk' G3 TT3 F3 N3 BB3 XX3 PP3 DD3
  k_lift BB3
  revert qk ek TT3 F3 N3 BB3 XX3 PP3 DD3
  revert v3 u3 w3 h' tk' G3
  refine @pick6 _ _ _ _ _ _ _ ?ne190 ?_
  (case ne190 => walk_at "ne")
  generalize ck6 _ = tU
  generalize hd2 tU = v3, tl2 tU = tU
  generalize hd2 tU = u3, tl2 tU = tU
  generalize hd2 tU = w3, tl2 tU = tU
  generalize hd2 tU = h', tl2 tU = tU
  generalize hd2 tU = tk', tl2 tU = G3
  intro qk ek TT3 F3 N3 BB3 XX3 PP3 DD3
  k_steps
  have e : ((⟨([] ++ [113, 117, 105, 101, 116] : List Nat).toArray⟩ : Str) == Str.ofString "quiet") = true := by decide
  rw [e]
  exact hret _ _ (by k_asm)
end
end Mine
namespace Mine
def rawIts (m r : Nat) : List It := if r = 1 then [.ref m] else [.ref m, .ch 109, .ref m]
theorem raw_built {m r : Nat} (hr : 1 ≤ r) (hr2 : r ≤ 2) : BuiltRaw (rawIts m r) (m + 1) ∧ refs (rawIts m r) = r ∧ (Txt.join (Str.ofString "m") (List.replicate r (rtext m))).cps.toList = cpsOf (rawIts m r) := by
  have e : Str.ofString "m" = ⟨#[109]⟩ := by decide
  have hr' : r = 1 ∨ r = 2 := by (first | lia | omega)
  rw [e]
  rcases hr' with rfl | rfl
  · refine ⟨⟨?_, ?_, by show 1 ≤ 5; decide, by show 1 ≤ 2; decide, ⟨[], rfl⟩⟩, rfl, ?_⟩
    · intro i hi
      exact .inr ⟨m, List.mem_singleton.mp hi, rfl⟩
    · intro c hc
      cases List.mem_singleton.mp hc
    · show (Builtin.Str.glued _ _).cps.toList = _
      rw [glued_eq_join]
      rfl
  · refine ⟨⟨?_, ?_, by show 3 ≤ 5; decide, by show 2 ≤ 2; decide, ⟨[.ch 109, .ref m], rfl⟩⟩, rfl, ?_⟩
    · intro i hi
      simp only [rawIts, if_neg (show ¬ (2 = 1) by decide), List.mem_cons, List.not_mem_nil, or_false] at hi
      rcases hi with rfl | rfl | rfl
      · exact .inr ⟨m, rfl, rfl⟩
      · exact .inl ⟨109, rfl⟩
      · exact .inr ⟨m, rfl, rfl⟩
    · intro c hc
      simp only [rawIts, if_neg (show ¬ (2 = 1) by decide), List.mem_cons, List.not_mem_nil, or_false] at hc
      rcases hc with h | h | h <;> cases h
      unfold Plain
      decide
    · show (Builtin.Str.glued _ _).cps.toList = _
      rw [glued_eq_join]
      simp [Str.join, rawIts, cpsOf, It.cps, rtext]
      rfl
theorem due_is {T : Nat → List It} {n : Nat} {W : List It} (hT : Built T n) (hW : BuiltRaw W n) (hn : 1 ≤ n) : cpsOf (replaced T n W) = fill (full T (n - 1)) W := by
  obtain ⟨m, rfl⟩ : ∃ m, n = m + 1 := ⟨n - 1, by (first | lia | omega)⟩
  exact replaced_is (m + 1) (fun i hi => (hT.texts i hi).1) hW.of
theorem str_of {x : Str} {l : List Nat} (h : x.cps.toList = l) : x = ⟨l.toArray⟩ := by
  apply Str.ext'
  rw [← h]
theorem raw_ok {W : List It} {n : Nat} (hW : BuiltRaw W n) (hn : 1 ≤ n) : ∀ i ∈ W, i.ok n := its_ok hW.of hW.signs fun j e => by
  have : n - 1 = j := Option.some.inj e
  (first | lia | omega)
theorem txts_facts {tk : Nat} {Ts : List (List It)} {fv : List Value} {n : Nat} (hX : Txts tk Ts fv) (hn : Ts.length = n) (hT : Built (fun k => Ts.getD k []) n) :
    (∀ k < n, ∃ t, fv[k]? = some (.str (txtOf fv k) t)) ∧ (∀ k < n, (txtOf fv k).cps.toList = cpsOf ((fun k => Ts.getD k []) k)) ∧
      ∀ k < n, (txtOf fv k).cps.toList = cpsOf ((fun k => Ts.getD k []) k) ∧ (∀ i ∈ (fun k => Ts.getD k []) k, i.ok n) ∧ (txtOf fv k).length ≤ 1000 := by
  subst hn
  exact ⟨fun k hk => (txtOf_get hX k hk).1, fun k hk => (txtOf_get hX k hk).2, fun k hk => ⟨(txtOf_get hX k hk).2, built_ok hT hk, short_of (txtOf_get hX k hk).2 (hT.texts k hk).2.1⟩⟩
section
variable {prog : Program} {w : World} {A : Around} {E : Value → Shared → Prop} {s : Shared}
theorem ne_same {x : Str} {t u : Tok} {Q : Value → Shared → Prop} (h : Q (.bool false) s) : wpAny (model prog w) A (compareOp .NotEq (.str x t) (.str x u)) Q E s :=
  ne_str (by rw [bne_self_eq_false]; exact h)
end
/-- the six runs that the law asks for -/
theorem six_runs {T : Nat → List It} {n : Nat} {W : List It} {S C : Int} (hT : Built T n) (hW : BuiltRaw W n) (hn : 2 ≤ n) (hn4 : n ≤ 4) (hC : C = ((refs W * cost T (n - 1) : Nat) : Int)) (hS : S = C) (h1 : 1 ≤ C) :
    (∃ fu ≤ 10000, Ev T n S (.txt (fill (full T (n - 1)) W) C) fu [(none, W)] 0 []) ∧ (∃ fu ≤ 10000, Ev T n (S - 1) .lim fu [(none, W)] 0 []) ∧ (∃ fu ≤ 10000, Ev T ((n : Int) - 1) S .lim fu [(none, W)] 0 []) ∧
      (∃ fu ≤ 10000, Ev T n (2 * S) (.txt (fill (full T (n - 1)) W) C) fu [(none, W)] 0 []) ∧ (∃ fu ≤ 10000, Ev T n (2 * S) (.txt (fill (full T (n - 1)) W) (C + C)) fu [(none, W)] C []) ∧ (∃ fu ≤ 10000, Ev T n (2 * S) .lim fu [(none, W)] (C + C) []) := by
  subst hS
  have a := @run_ok T n S n W hT hW (by (first | lia | omega)) hn4 0 (Int.le_refl _) (by (first | lia | omega))
  have b := @run_over T n (S - 1) n W hT hW (by (first | lia | omega)) hn4 0 (Int.le_refl _) (by (first | lia | omega)) (by (first | lia | omega))
  have c := @run_deep T ((n : Int) - 1) S n W hT hW (by (first | lia | omega)) hn4 0 (by (first | lia | omega))
  have d := @run_ok T n (2 * S) n W hT hW (by (first | lia | omega)) hn4 0 (Int.le_refl _) (by (first | lia | omega))
  have e := @run_ok T n (2 * S) n W hT hW (by (first | lia | omega)) hn4 S (Int.le_refl _) (by (first | lia | omega))
  have f := @run_over T n (2 * S) n W hT hW (by (first | lia | omega)) hn4 (S + S) (Int.le_refl _) (by (first | lia | omega)) (by (first | lia | omega))
  rw [← hC] at a d e
  rw [Int.zero_add] at a d
  exact ⟨a, b, c, d, e, f⟩
theorem fr_map5 {h₀ h : Heap} {L : Addr} {m : Str → Option Value} (_ : Fr h₀ L h m) {a b c d e : Str} {va vb vc vd ve : Value} (ha : m a = some va) (hb : m b = some vb) (hc : m c = some vc) (hd : m d = some vd) (he : m e = some ve) :
    ∃ (g : Str → Option Value), ∀ y, m y = if y = a then some va else if y = b then some vb else if y = c then some vc else if y = d then some vd else if y = e then some ve else g y := by
  refine ⟨m, fun y => ?_⟩
  split
  · next z => rw [z, ha]
  · split
    · next z => rw [z, hb]
    · split
      · next z => rw [z, hc]
      · split
        · next z => rw [z, hd]
        · split
          · next z => rw [z, he]
          · rfl
theorem strsAre_rep (x : Str) (t : Tok) : ∀ r : Nat, StrsAre (strValues (List.replicate r (x, t))) (List.replicate r x)
  | 0 => .nil
  | r + 1 => .cons _ _ (strsAre_rep x t r)
theorem cost_pos {T : Nat → List It} {n : Nat} (hT : Built T n) {k : Nat} (h0 : 0 < k) (hk : k < n) : 1 ≤ cost T k := by
  obtain ⟨j, rfl⟩ : ∃ j, k = j + 1 := ⟨k - 1, by (first | lia | omega)⟩
  have h := hT.some (j + 1) h0 hk
  have : 1 ≤ (cpsOf (T (j + 1))).length := by
    rcases hc : T (j + 1) with _ | ⟨i, l⟩
    · rw [hc] at h; exact absurd h (Nat.lt_irrefl 0)
    · cases i <;> simp [cpsOf, It.cps] <;> (first | lia | omega)
  show 1 ≤ (cpsOf (T (j + 1))).length + _
  (first | lia | omega)
end Mine
namespace Mine
theorem pool_ctr {w : World} {mean : ExcName → Option Value} {mg mb : Str → Option Value} {sc : Addr} {vs : List Value} {ns : List Int} {t0 : Tok} :
  ∀ (dp un : Nat) (gd : Option (List Code)) (cn : Str) (cs : Scope) (a : Addr) (ccd : Value) (cl : List (Str × Addr)) (outer : List Env) (A₀ : Around) (base h₀ : Heap) (L : Addr) (m : Str → Option Value) (s : Shared) (Q E : Value → Shared → Prop),
    h₀.IsList sc vs.toArray → IntsAre vs ns → ¬ (63 : Int) < (ns.length : Int) →
    Below A₀ base outer h₀ → Fr h₀ L s.heap m → (hd.heap_39 w.params).In h₀ → Top VW LO mean mg mb h₀ → cs.kind = .function → dp + 3 < recursionLimit → un + 8 * 3 < cLine →
    (∀ src x y tx ty n h' tk', 0 ≤ x → 0 ≤ y → y < 2147483647 → Fr h₀ L h' m → News h₀ L h' [(src, listOf [.int x tx, .int y ty].toArray n)] → Q (.ref src) { s with heap := h', toks := tk' }) →
    wpAny (model PG w) (ktrTop dp un gd cn cs L a ccd cl outer) (call (.ref 508) [.ref sc, .int 0 t0]) Q E s := by
  delta PG VW LO at *
  k_fill
  intro dp un gd cn cs a ccd cl outer A₀ base h₀ L m s Q E hl hi hlen B F X T hk hdp hu hret
  have dum25 : Unit := ()
  have dum26 : Unit := ()
  revert hl hi hlen B F X T hk hdp hu hret
  revert w mean mg mb sc vs ns t0 dp un gd cn cs a ccd cl outer A₀ base h₀ L m s Q E dum25 dum26
  refine @pick27 _ _ _ _ _ _ _ _ _ _ _ _ _ _ _ _ _ _ _ _ _ _ _ _ _ _ _ _ ?ne61 ?_
  (case ne61 => walk_at "ne")
  generalize ck27 _ = tU
  generalize hd2 tU = w, tl2 tU = tU
  generalize hd2 tU = mean, tl2 tU = tU
  generalize hd2 tU = mg, tl2 tU = tU
  generalize hd2 tU = mb, tl2 tU = tU
  generalize hd2 tU = sc, tl2 tU = tU
  generalize hd2 tU = vs, tl2 tU = tU
  generalize hd2 tU = ns, tl2 tU = tU
  generalize hd2 tU = t0, tl2 tU = tU
  generalize hd2 tU = dp, tl2 tU = tU
  generalize hd2 tU = un, tl2 tU = tU
  generalize hd2 tU = gd, tl2 tU = tU
  generalize hd2 tU = cn, tl2 tU = tU
  generalize hd2 tU = cs, tl2 tU = tU
  generalize hd2 tU = a, tl2 tU = tU
  generalize hd2 tU = ccd, tl2 tU = tU
  generalize hd2 tU = cl, tl2 tU = tU
  generalize hd2 tU = outer, tl2 tU = tU
  generalize hd2 tU = A₀, tl2 tU = tU
  generalize hd2 tU = base, tl2 tU = tU
  generalize hd2 tU = h₀, tl2 tU = tU
  generalize hd2 tU = L, tl2 tU = tU
  generalize hd2 tU = m, tl2 tU = tU
  generalize hd2 tU = s, tl2 tU = tU
  generalize hd2 tU = Q, tl2 tU = tU
  generalize hd2 tU = E
  intro hl hi hlen B F X T hk hdp hu hret
  have N : News h₀ L s.heap [] := News.nil
  refine wpAny_call ?_
  k_dflt cell_enter
  rename_i pv65_9 pv65_8 pv65_7 pv65_6 pv65_5 pv65_4 pv65_3 pv65_2 pv65_1
  have dum3 : Unit := ()
  revert pv65_6 pv65_5 pv65_4 pv65_3 pv65_2 pv65_1 qk ek
  revert pv65_9 pv65_8 pv65_7 dum3
  refine @pick4 _ _ _ _ _ ?ne65 ?_
  (case ne65 => walk_at "ne")
  generalize ck4 _ = tU
  generalize hd2 tU = pv65_9, tl2 tU = tU
  generalize hd2 tU = pv65_8, tl2 tU = tU
  generalize hd2 tU = pv65_7
  intro pv65_6 pv65_5 pv65_4 pv65_3 pv65_2 pv65_1 qk ek
  rename Fr h₀ _ _ _ => FG
  have hl1 := Fr.lst (by assumption : Fr h₀ L _ m) hl
  k_steps
  all_goals (refine hret _ _ _ _ _ _ _ _ ?_ ?_ ?_ (by k_asm) (by k_asm))
  all_goals first | exact Int.fmod_nonneg_of_pos _ (by decide) | exact Int.fmod_lt_of_pos _ (by decide) | exact Int.mul_nonneg (by split <;> omega) (by split <;> omega)
end Mine
namespace Mine
theorem news_rot3 {h₀ h : Heap} {L : Addr} {p q o : Addr × Obj} {r : List (Addr × Obj)} (N : News h₀ L h (p :: q :: o :: r)) : News h₀ L h (o :: p :: q :: r) := fun x hx => N x (by
  simp only [List.mem_cons] at hx ⊢
  grind)
structure TxSt where
  fv : List Value
  nf : Nat
  x : Int
  y : Int
  tx : Tok
  ty : Tok
  n : Nat
  Ts : List (List It)
  va : Option Value
  vp : Option Value
section
local macro_rules | `(tactic| walk_at "call ref") => `(tactic| (k_here; (first | (with_reducible show wpAny _ _ (call (Value.ref 515) _) _ _ _)); (try dsimp only); refine Halt.go ?_))
local macro_rules | `(tactic| walk_at "exec For") => `(tactic| (k_here; refine Halt.go ?_))
local macro_rules | `(tactic| walk_at "exec For Name Call cons nil") => `(tactic| (k_here; refine Halt.go ?_))
local macro_rules | `(tactic| walk_at "pyIter ref") => `(tactic| (k_here; refine Halt.go ?_))
local macro_rules | `(tactic| walk_at "call builtin:str.join") => `(tactic| (k_here; (try dsimp only); refine Halt.go ?_))
local macro_rules | `(tactic| walk_at "call type:str") => `(tactic| (k_here; (try dsimp only); refine str_numN (by assumption) (by assumption) ?_))
local macro_rules | `(tactic| walk_at "binaryOp Add str str") => `(tactic| (k_here; (try dsimp only); (first | refine add_ref1 ?_ | refine add_ref2 ?_)))
local macro_rules | `(tactic| walk_at "subscriptTail Name Slice ref ref") => `(tactic| (k_here; (try dsimp only); (first
  | (k_dflt (refine' upS (l := [(Str.ofString "x", _), (Str.ofString "yz", _)]) ?F ?N ?M ?z ?e ?_ ?s ?t; (case F => k_asm); (case N => k_asm); (case M => k_mem); (case z => exact Nat.le_of_ble_eq_true rfl); (case e => exact rfl); (case s => with_unfolding_all rfl); (case t => intro _; exact rfl); k_whole); intro D' h' F' N' l1; (try k_lt l1); (try k_sweep))
  | refine Halt.go ?_)))
local macro_rules | `(tactic| walk_at "subscriptTail") => `(tactic| (k_here; (rename Fr _ _ _ _ => F9; rename News _ _ _ _ => N9; ((try dsimp only); refine abcd_T F9 N9 (by assumption) (by assumption) ?_; intro y9 h9 cs9 hy9 hl9 hs9 F8 N8; clear F9 N9))))
local macro_rules | `(tactic| walk_at "execs cons") => `(tactic| (k_here; (with_reducible refine gen_T ?_); intro tk hT9; (try dsimp only at hT9)))
local macro_rules | `(tactic| walk_at "execs nil") => `(tactic| (k_here; refine wpAny_execs_nil ?_))
local macro_rules | `(tactic| walk_at "binaryOp Mult ref int") => `(tactic| (k_here; (try dsimp only); k_dflt (refine' mulS ?F ?N ?M ?e ?a ?b ?_; (case F => k_asm); (case N => k_asm); (case M => k_mem); (case e => assumption); (case a => omega); (case b => omega); k_whole); intro D' h' F' N' l1; (try k_lt l1); (try k_sweep)))
local macro_rules | `(tactic| walk_at "binaryOp Add ref ref") => `(tactic| (k_here; (try dsimp only); k_dflt (refine' addS ?F ?N ?M ?M2 ?z ?_; (case F => k_asm); (case N => k_asm); (case M => k_mem); (case M2 => k_mem); (case z => (simp only [List.length_replicate, List.length_take, List.length_cons, List.length_nil]; omega)); k_whole); intro D' h' F' N' l1; (try k_lt l1); (try k_sweep)))
abbrev TxM (fl src : Addr) (g0 : Str → Option Value) (c : TxSt) (y : Str) : Option Value := if y = Str.ofString "parts" then c.vp else if y = Str.ofString "ahead" then c.va else if y = Str.ofString "found" then some (Value.ref fl) else if y = Str.ofString "source" then some (Value.ref src) else g0 y
abbrev TxL (fl src : Addr) (rest : List (Addr × Obj)) (c : TxSt) : List (Addr × Obj) := (src, listOf #[.int c.x c.tx, .int c.y c.ty] c.n) :: (fl, listOf c.fv.toArray c.nf) :: rest
abbrev TxP (i tk : Nat) (c : TxSt) : Prop := 0 ≤ c.x ∧ 0 ≤ c.y ∧ c.y < 2147483647 ∧ c.Ts.length = i + 1 ∧ Built (fun k => c.Ts.getD k []) c.Ts.length ∧ Txts tk c.Ts c.fv
set_option maxHeartbeats 8000000 in
theorem texts_ctr {w : World} {mean : ExcName → Option Value} {mg mb : Str → Option Value} {src : Addr} {rest : List (Addr × Obj)} {x y : Int} {tx ty : Tok} {n : Nat}
    (hr : ∀ p ∈ rest, p.1 ≠ src) (hx : 0 ≤ x) (hy : 0 ≤ y) (hy2 : y < 2147483647) :
    CtrT w mean mg mb 5 522 [.ref src] ((src, listOf [.int x tx, .int y ty].toArray n) :: rest) (fun _ => True)
      (fun v news' tk' => ∃ fl fv nf x' y' tx' ty' n' Ts, v = .ref fl ∧ 0 ≤ x' ∧ 0 ≤ y' ∧ y' < 2147483647 ∧ 2 ≤ Ts.length ∧ Ts.length ≤ 4 ∧ Built (fun k => Ts.getD k []) Ts.length ∧ Txts tk' Ts fv ∧ src ≠ fl ∧ (∀ p ∈ rest, p.1 ≠ fl) ∧
        news' = (fl, listOf fv.toArray nf) :: (src, listOf [.int x' tx', .int y' ty'].toArray n') :: rest) := by
  unfold CtrT
  delta PG VW LO
  k_fill
  have hR : IsRest rest := trivial
  intro dp un gd cn cs a ccd cl outer A₀ base h₀ L m s Q E B F X N T hk hd hu hp hret
  have dum28 : Unit := ()
  have dum29 : Unit := ()
  have dum30 : Unit := ()
  have dum31 : Unit := ()
  revert hr hx hy hy2 hR B F X N T hk hd hu hret
  revert w mean mg mb src rest x y tx ty n dp un gd cn cs a ccd cl outer A₀ base h₀ L m s Q E dum28 dum29 dum30 dum31
  refine @pick32 _ _ _ _ _ _ _ _ _ _ _ _ _ _ _ _ _ _ _ _ _ _ _ _ _ _ _ _ _ _ _ _ _ ?ne99 ?_
  (case ne99 => walk_at "ne")
  generalize ck32 _ = tU
  generalize hd2 tU = w, tl2 tU = tU
  generalize hd2 tU = mean, tl2 tU = tU
  generalize hd2 tU = mg, tl2 tU = tU
  generalize hd2 tU = mb, tl2 tU = tU
  generalize hd2 tU = src, tl2 tU = tU
  generalize hd2 tU = rest, tl2 tU = tU
  generalize hd2 tU = x, tl2 tU = tU
  generalize hd2 tU = y, tl2 tU = tU
  generalize hd2 tU = tx, tl2 tU = tU
  generalize hd2 tU = ty, tl2 tU = tU
  generalize hd2 tU = n, tl2 tU = tU
  generalize hd2 tU = dp, tl2 tU = tU
  generalize hd2 tU = un, tl2 tU = tU
  generalize hd2 tU = gd, tl2 tU = tU
  generalize hd2 tU = cn, tl2 tU = tU
  generalize hd2 tU = cs, tl2 tU = tU
  generalize hd2 tU = a, tl2 tU = tU
  generalize hd2 tU = ccd, tl2 tU = tU
  generalize hd2 tU = cl, tl2 tU = tU
  generalize hd2 tU = outer, tl2 tU = tU
  generalize hd2 tU = A₀, tl2 tU = tU
  generalize hd2 tU = base, tl2 tU = tU
  generalize hd2 tU = h₀, tl2 tU = tU
  generalize hd2 tU = L, tl2 tU = tU
  generalize hd2 tU = m, tl2 tU = tU
  generalize hd2 tU = s, tl2 tU = tU
  generalize hd2 tU = Q, tl2 tU = tU
  generalize hd2 tU = E
  intro hr hx hy hy2 hR B F X N T hk hd hu hret
  refine wpAny_call ?_
  k_dflt cell_enter
  k_steps
  refine Halt.at ?_
  refine Ctr.useT (take_ctr hr hx hy hy2 (by decide) (by decide)) (by k_asm) (fun _ _ h => h) ?_
  refine rtl_EEEEEEEvpppppn ?_
  intro d td x' y' tx' ty' n' hd0 hd1 hx hy hy2 h' tk' hle F1 N1
  k_sweep
  replace hle : 0 < tk' := Nat.lt_of_lt_of_le (Nat.succ_pos _) hle
  k_steps
  refine Halt.at ?_
  refine For_T ?_
  refine wpAny_T ?_
  k_steps
  refine Halt.at ?_
  rename News _ _ _ _ => NN
  refine Ctr.useT (take_ctr (by walk_at "disall") hx hy hy2 (by decide) (by decide)) (news_swap NN) (fun _ _ h => h) ?_
  refine rtl_EEEEEEEvpppppn ?_
  intro d2 td2 x2 y2 tx2 ty2 n2 hd20 hd21 hx2 hy2' hy22 h' tk2 hle2 F2 N2
  k_sweep
  k_steps
  refine Halt.at ?_
  rename Fr _ _ _ _ => Fq
  rename News _ _ _ _ => Nq
  rename IsRange _ _ _ _ _ _ _ _ => rgq
  refine rtx_EEEp ?_ (fr_map4 Fq (a := Str.ofString "found") (b := Str.ofString "source") (c := Str.ofString "ahead") (d := Str.ofString "parts") rfl rfl)
  intro g0 va0 vp0 hg0
  replace Fq := fr_eq Fq hg0
  rename_i y9 h9 cs9 hy9 hl9 hs9 fl hA rX l1 hB tk1 hT9 F' N' hC tkC t1 u1 v1 aK hT2
  dsimp only at hT2
  clear hg0 F'
  obtain ⟨k2, rfl⟩ : ∃ k2 : Nat, d2 = (k2 : Int) := Int.eq_ofNat_of_zero_le hd20
  have hsf : src ≠ fl := Nat.ne_of_lt l1.1
  have hrf : ∀ p ∈ rest, p.1 ≠ fl := fun p hp => Nat.ne_of_lt (rX p hp)
  have hty : tk' < tkC := by (try dsimp only at hle2); omega
  rename_i pv135_6 pv135_5 _ pv135_4 pv135_3 pv135_2 pv135_1 _
  have dum23 : Unit := ()
  have dum24 : Unit := ()
  have dum25 : Unit := ()
  have dum26 : Unit := ()
  revert pv135_4 pv135_3 pv135_2 pv135_1 qk ek hle hy9 hl9 hs9 rX l1 hT9 hx2 hy2' hy22 hle2 N' Nq aK hT2 Fq hd20 hd21 rgq hsf hrf hty
  revert pv135_6 pv135_5 tk' y9 cs9 fl tk1 x2 y2 tx2 ty2 n2 h' tk2 hC tkC t1 u1 v1 g0 va0 vp0 k2 dum23 dum24 dum25 dum26
  refine @pick27 _ _ _ _ _ _ _ _ _ _ _ _ _ _ _ _ _ _ _ _ _ _ _ _ _ _ _ _ ?ne135 ?_
  (case ne135 => walk_at "ne")
  generalize ck27 _ = tU
  generalize hd2 tU = pv135_6, tl2 tU = tU
  generalize hd2 tU = pv135_5, tl2 tU = tU
  generalize hd2 tU = tk', tl2 tU = tU
  generalize hd2 tU = y9, tl2 tU = tU
  generalize hd2 tU = cs9, tl2 tU = tU
  generalize hd2 tU = fl, tl2 tU = tU
  generalize hd2 tU = tk1, tl2 tU = tU
  generalize hd2 tU = x2, tl2 tU = tU
  generalize hd2 tU = y2, tl2 tU = tU
  generalize hd2 tU = tx2, tl2 tU = tU
  generalize hd2 tU = ty2, tl2 tU = tU
  generalize hd2 tU = n2, tl2 tU = tU
  generalize hd2 tU = h', tl2 tU = tU
  generalize hd2 tU = tk2, tl2 tU = tU
  generalize hd2 tU = hC, tl2 tU = tU
  generalize hd2 tU = tkC, tl2 tU = tU
  generalize hd2 tU = t1, tl2 tU = tU
  generalize hd2 tU = u1, tl2 tU = tU
  generalize hd2 tU = v1, tl2 tU = tU
  generalize hd2 tU = g0, tl2 tU = tU
  generalize hd2 tU = va0, tl2 tU = tU
  generalize hd2 tU = vp0, tl2 tU = tU
  generalize hd2 tU = k2
  intro pv135_4 pv135_3 pv135_2 pv135_1 qk ek hle hy9 hl9 hs9 rX l1 hT9 hx2 hy2' hy22 hle2 N' Nq aK hT2 Fq hd20 hd21 rgq hsf hrf hty
  refine for_rangeT (n := k2 + 1) (TxM fl src g0) (TxL fl src rest) TxP
    ⟨[.str y9 tk'], 0, x2, y2, tx2, ty2, n2, [cs9.map It.ch], va0, vp0⟩ rfl rfl (by passes_own) ?_ rfl rgq ?_ ?_ Fq Nq rfl ?_ ?_ ?_
  · rintro i k k' c hk ⟨a1, a2, a3, a4, a5, a6⟩
    exact ⟨a1, a2, a3, a4, a5, a6.mono hk⟩
  · have := below3 hd21
    rcases this with rfl | rfl | rfl <;> decide
  · have := below3 hd21
    rcases this with rfl | rfl | rfl <;> decide
  · refine ⟨hx2, hy2', hy22, rfl, ?_, Txts.snoc .nil (by rw [hy9, cpsOf_chs]) hle hty⟩
    refine built_snoc built_nil ⟨?_, ?_, ?_, ?_, ?_⟩
    · intro i hi
      obtain ⟨c, _, rfl⟩ := List.mem_map.mp hi
      exact .inl ⟨c, rfl⟩
    · rw [List.length_map]; omega
    · rw [refs_chs]; omega
    · intro c hc
      obtain ⟨c', hc', e⟩ := List.mem_map.mp hc
      cases e
      have := hs9 _ hc'
      unfold Plain
      omega
    · intro h; exact absurd rfl h
  · intro c i t h tk own hi hoff
    refine rtx_pppppp ?_
    intro hcx hcy hcy2 hcl hcb hct F4 N4
    dsimp only [TxM, TxL] at F4 N4 hoff
    have hi4 : i < 4 := by omega
    have hfl : c.fv.length ≤ 10 := by rw [hct.len]; omega
    have he9 : (1 : Int) + (i : Nat) * 1 - 1 = (i : Nat) := by omega
    have hoa : ∀ p ∈ rest ++ own, p.1 ≠ src := fun p hp => (List.mem_append.mp hp).elim (hr p) fun hp => hoff.ne (.head _) p hp
    have hob : ∀ p ∈ rest ++ own, p.1 ≠ fl := fun p hp => (List.mem_append.mp hp).elim (hrf p) fun hp => hoff.ne (.tail _ (.head _)) p hp
    simp only [List.cons_append] at N4
    clear Nq N' Fq rgq aK hT2 hle2 rX l1 hT9
    generalize hRR : rest ++ own = R at N4 hoa hob
    have hRi : IsRest R := trivial
    have dum7 : Unit := ()
    revert qk ek hi hoff hcx hcy hcy2 hcl hcb hct F4 hi4 hfl he9 hRR N4 hoa hob hRi
    revert c i t h tk own R dum7
    refine @pick8 _ _ _ _ _ _ _ _ _ ?ne171 ?_
    (case ne171 => walk_at "ne")
    generalize ck8 _ = tU
    generalize hd2 tU = c, tl2 tU = tU
    generalize hd2 tU = i, tl2 tU = tU
    generalize hd2 tU = t, tl2 tU = tU
    generalize hd2 tU = h, tl2 tU = tU
    generalize hd2 tU = tk, tl2 tU = tU
    generalize hd2 tU = own, tl2 tU = tU
    generalize hd2 tU = R
    intro qk ek hi hoff hcx hcy hcy2 hcl hcb hct F4 hi4 hfl he9 hRR N4 hoa hob hRi
    show wpAny _ _ _ _ _ _
    k_fold
    k_steps
    refine Halt.at ?_
    rename News _ _ _ _ => NN
    refine Ctr.useT (take_ctr (by walk_at "disall") hcx hcy hcy2 (by decide) (by decide)) (news_swap NN) (fun _ _ h => h) ?_
    refine rtl_EEEEEEEvpppppn ?_
    intro d3 td3 x3 y3 tx3 ty3 n3 hd30 hd31 hx3 hy3 hy32 h' tk2 hle2 F5 N5
    k_sweep
    rename_i pv181_7 pv181_6 _ pv181_5 pv181_4 pv181_3 _ pv181_2 pv181_1
    revert pv181_7 pv181_6 qk ek pv181_4 pv181_2 pv181_1 hd30 hd31 hx3 hy3 hy32 hle2 F5 N5
    revert pv181_5 pv181_3 d3 td3 x3 y3 tx3 ty3 n3 h' tk2
    refine @pick11 _ _ _ _ _ _ _ _ _ _ _ _ ?ne181 ?_
    (case ne181 => walk_at "ne")
    generalize ck11 _ = tU
    generalize hd2 tU = pv181_5, tl2 tU = tU
    generalize hd2 tU = pv181_3, tl2 tU = tU
    generalize hd2 tU = d3, tl2 tU = tU
    generalize hd2 tU = td3, tl2 tU = tU
    generalize hd2 tU = x3, tl2 tU = tU
    generalize hd2 tU = y3, tl2 tU = tU
    generalize hd2 tU = tx3, tl2 tU = tU
    generalize hd2 tU = ty3, tl2 tU = tU
    generalize hd2 tU = n3, tl2 tU = tU
    generalize hd2 tU = h', tl2 tU = tk2
    intro pv181_7 pv181_6 qk ek pv181_4 pv181_2 pv181_1 hd30 hd31 hx3 hy3 hy32 hle2 F5 N5
    refine rtx_Ep ?_ (show ∃ r3 : Nat, 1 + d3 = (r3 : Int) from Int.eq_ofNat_of_zero_le (Int.add_nonneg (by decide) hd30))
    intro r3 hr3
    k_steps
    refine Halt.at ?_
    rename News _ _ _ _ => NN
    refine Ctr.useT (take_ctr (by walk_at "disall") hx3 hy3 hy32 (by decide) (by decide)) (news_rot3 NN) (fun _ _ h => h) ?_
    refine rtl_EEEEEEEvpppppn ?_
    intro d4 td4 x4 y4 tx4 ty4 n4 hd40 hd41 hx4 hy4 hy42 h' tk4 hle4 F6 N6
    k_sweep
    rename_i pv191_4 _ pv191_3 pv191_2 _ pv191_1
    have dum12 : Unit := ()
    have dum13 : Unit := ()
    revert pv181_7 pv181_6 qk ek hr3 pv191_3 pv191_1 hd40 hd41 hx4 hy4 hy42 hle4 F6 N6
    revert r3 pv191_4 pv191_2 d4 td4 x4 y4 tx4 ty4 n4 h' tk4 dum12 dum13
    refine @pick14 _ _ _ _ _ _ _ _ _ _ _ _ _ _ _ ?ne191 ?_
    (case ne191 => walk_at "ne")
    generalize ck14 _ = tU
    generalize hd2 tU = r3, tl2 tU = tU
    generalize hd2 tU = pv191_4, tl2 tU = tU
    generalize hd2 tU = pv191_2, tl2 tU = tU
    generalize hd2 tU = d4, tl2 tU = tU
    generalize hd2 tU = td4, tl2 tU = tU
    generalize hd2 tU = x4, tl2 tU = tU
    generalize hd2 tU = y4, tl2 tU = tU
    generalize hd2 tU = tx4, tl2 tU = tU
    generalize hd2 tU = ty4, tl2 tU = tU
    generalize hd2 tU = n4, tl2 tU = tU
    generalize hd2 tU = h', tl2 tU = tU
    generalize hd2 tU = tk4
    intro pv181_7 pv181_6 qk ek hr3 pv191_3 pv191_1 hd40 hd41 hx4 hy4 hy42 hle4 F6 N6
    obtain ⟨k4, rfl⟩ : ∃ k4 : Nat, d4 = (k4 : Int) := Int.eq_ofNat_of_zero_le hd40
    k_steps
    refine Halt.at ?_
    rename News _ _ _ _ => NN
    refine Ctr.useT (take_ctr (by walk_at "disall") hx4 hy4 hy42 (by decide) (by decide)) (news_pick NN) (fun _ _ h => h) ?_
    refine rtl_EEEEEEEvpppppn ?_
    intro d5 td5 x5 y5 tx5 ty5 n5 hd50 hd51 hx5 hy5 hy52 h' tk5 hle5 F7 N7
    k_sweep
    rename_i pv200_6 _ pv200_5 pv200_4 _ pv200_3 _ pv200_2 pv200_1
    have dum13 : Unit := ()
    revert pv181_7 pv181_6 qk ek hd40 hd41 pv200_5 pv200_3 pv200_1 hd50 hd51 hx5 hy5 hy52 hle5 F7 N7
    revert k4 pv200_6 pv200_4 pv200_2 d5 td5 x5 y5 tx5 ty5 n5 h' tk5 dum13
    refine @pick14 _ _ _ _ _ _ _ _ _ _ _ _ _ _ _ ?ne200 ?_
    (case ne200 => walk_at "ne")
    generalize ck14 _ = tU
    generalize hd2 tU = k4, tl2 tU = tU
    generalize hd2 tU = pv200_6, tl2 tU = tU
    generalize hd2 tU = pv200_4, tl2 tU = tU
    generalize hd2 tU = pv200_2, tl2 tU = tU
    generalize hd2 tU = d5, tl2 tU = tU
    generalize hd2 tU = td5, tl2 tU = tU
    generalize hd2 tU = x5, tl2 tU = tU
    generalize hd2 tU = y5, tl2 tU = tU
    generalize hd2 tU = tx5, tl2 tU = tU
    generalize hd2 tU = ty5, tl2 tU = tU
    generalize hd2 tU = n5, tl2 tU = tU
    generalize hd2 tU = h', tl2 tU = tU
    generalize hd2 tU = tk5
    intro pv181_7 pv181_6 qk ek hd40 hd41 pv200_5 pv200_3 pv200_1 hd50 hd51 hx5 hy5 hy52 hle5 F7 N7
    k_steps
    · refine Halt.at ?_
      rename News _ _ _ _ => NN
      refine revS (by k_asm) NN (.tail _ (.head _)) (by simp only [List.length_append, List.length_replicate, List.length_take, List.length_cons, List.length_nil]; omega) ?_ (by first | exact rfl | (simp only [subscripted]; done) | (unfold subscripted; rfl)) (fun _ => rfl)
      intro D3 h3 F8 N8 l8
      k_lt l8
      k_sweep
      k_steps
      refine Halt.at ?_
      refine' join_parts (i := i) (News.isList N8 (.head _)) ?P ?h0 ?h1 ?_
      case P => exact parts_ok (r := r3) (k := k4) (by clear hx hy hy2 hd hu hcx hcy hcy2 hx3 hy3 hy32 hx4 hy4 hy42 hx5 hy5 hy52; omega) (by clear hx hy hy2 hd hu hcx hcy hcy2 hx3 hy3 hy32 hx4 hy4 hy42 hx5 hy5 hy52; omega) (by clear hx hy hy2 hd hu hcx hcy hcy2 hx3 hy3 hy32 hx4 hy4 hy42 hx5 hy5 hy52; omega) _ (by first | exact .inl rfl | exact .inr rfl)
      case h0 => clear hx hy hy2 hd hu hcx hcy hcy2 hx3 hy3 hy32 hx4 hy4 hy42 hx5 hy5 hy52 hd30 hd31 hr3 hd40 hd41 hd50 hd51; (try dsimp only); omega
      case h1 => clear hx hy hy2 hd hu hcx hcy hcy2 hx3 hy3 hy32 hx4 hy4 hy42 hx5 hy5 hy52 hd30 hd31 hr3 hd40 hd41 hd50 hd51; (try dsimp only); omega
      intro its y t' k hI hy ht0 ht1 htk
      k_steps
      rename Fr _ _ _ _ => F9
      rename News _ _ _ _ => N9
      rw [List.push_toArray] at N9
      refine' turnT_end (m' := ?mm) ⟨c.fv ++ [.str y t'], ?nf, x5, y5, tx5, ty5, n5, c.Ts ++ [its], ?mm (Str.ofString "ahead"), ?mm (Str.ofString "parts")⟩ F9 N9 ?hm ?hp hoff ?hn ?ho
      case hm =>
        intro z hz
        simp only [if_neg hz, if_true]
        split
        · next e => subst e; rfl
        · split
          · next e => subst e; rfl
          · rfl
      case hn => exact (fmc (by k_mem) ((fmc (by k_mem) (fun p hp => (by walk_at "tails" : ∀ p ∈ R, p ∈ _) p (hRR ▸ List.mem_append_left _ hp)))))
      case ho => exact fun p hp => (by walk_at "tails" : ∀ p ∈ R, p ∈ _) p (hRR ▸ List.mem_append_right _ hp)
      case hp => exact ⟨hx5, hy5, hy52, by rw [List.length_append, List.length_singleton, hcl], built_snoc hcb (by rw [hcl]; exact hI), Txts.snoc (hct.mono (by clear hx hcx hcy hcy2 hx3 hy3 hy32 hx4 hy4 hy42 hx5 hy5 hy52 hd30 hd31 hr3 hd40 hd41 hd50 hd51 hd hu; (try dsimp only); omega)) hy ht0 (by clear hx hcx hcy hcy2 hx3 hy3 hy32 hx4 hy4 hy42 hx5 hy5 hy52 hd30 hd31 hr3 hd40 hd41 hd50 hd51 hd hu; (try dsimp only); omega)⟩
    · refine Halt.at ?_
      rename News _ _ _ _ => NN
      refine' join_parts (i := i) (News.isList NN (.tail _ (.head _))) ?P ?h0 ?h1 ?_
      case P => exact parts_ok (r := r3) (k := k4) (by clear hx hy hy2 hd hu hcx hcy hcy2 hx3 hy3 hy32 hx4 hy4 hy42 hx5 hy5 hy52; omega) (by clear hx hy hy2 hd hu hcx hcy hcy2 hx3 hy3 hy32 hx4 hy4 hy42 hx5 hy5 hy52; omega) (by clear hx hy hy2 hd hu hcx hcy hcy2 hx3 hy3 hy32 hx4 hy4 hy42 hx5 hy5 hy52; omega) _ (by first | exact .inl rfl | exact .inr rfl)
      case h0 => clear hx hy hy2 hd hu hcx hcy hcy2 hx3 hy3 hy32 hx4 hy4 hy42 hx5 hy5 hy52 hd30 hd31 hr3 hd40 hd41 hd50 hd51; (try dsimp only); omega
      case h1 => clear hx hy hy2 hd hu hcx hcy hcy2 hx3 hy3 hy32 hx4 hy4 hy42 hx5 hy5 hy52 hd30 hd31 hr3 hd40 hd41 hd50 hd51; (try dsimp only); omega
      intro its y t' k hI hy ht0 ht1 htk
      k_steps
      rename Fr _ _ _ _ => F9
      rename News _ _ _ _ => N9
      rw [List.push_toArray] at N9
      refine' turnT_end (m' := ?mm) ⟨c.fv ++ [.str y t'], ?nf, x5, y5, tx5, ty5, n5, c.Ts ++ [its], ?mm (Str.ofString "ahead"), ?mm (Str.ofString "parts")⟩ F9 N9 ?hm ?hp hoff ?hn ?ho
      case hm =>
        intro z hz
        simp only [if_neg hz, if_true]
        split
        · next e => subst e; rfl
        · split
          · next e => subst e; rfl
          · rfl
      case hn => exact (fmc (by k_mem) ((fmc (by k_mem) (fun p hp => (by walk_at "tails" : ∀ p ∈ R, p ∈ _) p (hRR ▸ List.mem_append_left _ hp)))))
      case ho => exact fun p hp => (by walk_at "tails" : ∀ p ∈ R, p ∈ _) p (hRR ▸ List.mem_append_right _ hp)
      case hp => exact ⟨hx5, hy5, hy52, by rw [List.length_append, List.length_singleton, hcl], built_snoc hcb (by rw [hcl]; exact hI), Txts.snoc (hct.mono (by clear hx hcx hcy hcy2 hx3 hy3 hy32 hx4 hy4 hy42 hx5 hy5 hy52 hd30 hd31 hr3 hd40 hd41 hd50 hd51 hd hu; (try dsimp only); omega)) hy ht0 (by clear hx hcx hcy hcy2 hx3 hy3 hy32 hx4 hy4 hy42 hx5 hy5 hy52 hd30 hd31 hr3 hd40 hd41 hd50 hd51 hd hu; (try dsimp only); omega)⟩
  · intro c u h tk
    refine rtx_pppppp ?_
    intro hcx hcy hcy2 hcl hcb hct F4 N4
    dsimp only [TxM, TxL] at F4 N4
    k_steps
    exact hret _ _ _ _ ⟨fl, c.fv, c.nf, c.x, c.y, c.tx, c.ty, c.n, c.Ts, rfl, hcx, hcy, hcy2, by omega, by omega, hcb, hct, hsf, hrf, rfl⟩ (by k_asm) (news_swap (by k_asm))
end
end Mine
namespace Mine
section
local macro_rules | `(tactic| walk_at "call ref") => `(tactic| (k_here; (first | (with_reducible show wpAny _ _ (call (Value.ref 508) _) _ _ _) | (with_reducible show wpAny _ _ (call (Value.ref 522) _) _ _ _) | (with_reducible show wpAny _ _ (call (Value.ref 515) _) _ _ _) | (with_reducible show wpAny _ _ (call (Value.ref 543) _) _ _ _) | (with_reducible show wpAny _ _ (call (Value.ref 536) _) _ _ _) | (with_reducible show wpAny _ _ (call (Value.ref 529) _) _ _ _) | (with_reducible show wpAny _ _ (call (Value.ref 550) _) _ _ _) | (with_reducible show wpAny _ _ (call (Value.ref 557) _) _ _ _)); (try dsimp only); refine Halt.go ?_))
local macro_rules | `(tactic| walk_at "call builtin:len") => `(tactic| (k_here; (try dsimp only); refine len_at (News.isList (by k_asm) (by k_mem)) (by with_reducible assumption) (by with_reducible assumption) ?_))
local macro_rules | `(tactic| walk_at "call type:str") => `(tactic| (k_here; (try dsimp only); refine str_numN (by assumption) (by assumption) ?_))
local macro_rules | `(tactic| walk_at "binaryOp Add str str") => `(tactic| (k_here; (try dsimp only); (first | refine add_ref1 ?_ | refine add_ref2 ?_)))
local macro_rules | `(tactic| walk_at "execs cons") => `(tactic| (k_here; (with_reducible refine gen_T ?_); intro tk hT9; (try dsimp only at hT9)))
local macro_rules | `(tactic| walk_at "binaryOp Mult ref int") => `(tactic| (k_here; (try dsimp only); k_dflt (refine' mulS ?F ?N ?M ?e ?a ?b ?_; (case F => k_asm); (case N => k_asm); (case M => k_mem); (case e => assumption); (case a => omega); (case b => omega); k_whole); intro D' h' F' N' l1; (try k_lt l1); (try k_sweep)))
local macro_rules | `(tactic| walk_at "call builtin:str.join") => `(tactic| (k_here; (try dsimp only); refine Halt.go ?_))
local macro_rules | `(tactic| walk_at "binaryOp Mult int int") => `(tactic| (k_here; refine mul_int ?_ (PySem.IntMulOk.of_left (PySem.intBits_le_64 (by omega) (by omega)))))
local macro_rules | `(tactic| walk_at "subscriptTail Call Name cons nil UnaryOp ref int") => `(tactic| (k_here; k_dflt (refine item_last (News.isList (by k_asm) (by k_mem)) (by omega) ?_)))
local macro_rules | `(tactic| walk_at "compareOp NotEq str str") => `(tactic| (k_here; refine ne_same ?_))
local macro_rules | `(tactic| walk_at "pyIter ref") => `(tactic| (k_here; (try dsimp only); refine Halt.go ?_))
local macro_rules | `(tactic| walk_at "UnrEnd") => `(tactic| (k_here; refine Halt.go ?_))
theorem top_view {V V' : Program} {ls : List Str} {mean : ExcName → Option Value} {mg mb : Str → Option Value} {h : Heap} (e : V = V') (T : Top V (looseW V ls) mean mg mb h) : Top V' (looseW V' ls) mean mg mb h := e ▸ T
namespace law_holds
noncomputable def tw15334298953996031811 : Unit := ()
noncomputable def tw660297872995803996 : Unit := ()
noncomputable def tw3962998107016518992 : Unit := ()
noncomputable def tw8441880690091102137 : Unit := ()
noncomputable def tw11463670642173560981 : Unit := ()
noncomputable def tw9423440377400516374 : Unit := ()
noncomputable def tw1341266762083198811 : Unit := ()
noncomputable def tw11803358882649189518 : Unit := ()
noncomputable def tw2903333896348957400 : Unit := ()
noncomputable def tw18326849912455186884 : Unit := ()
noncomputable def tw881140697980615281 : Unit := ()
noncomputable def tw1258919526383655059 : Unit := ()
noncomputable def tw2127001594154878533 : Unit := ()
noncomputable def tw17899081815984039989 : Unit := ()
noncomputable def tw8634839017697508684 : Unit := ()
noncomputable def tw15732109348078318572 : Unit := ()
noncomputable def tw14051398506283589457 : Unit := ()
noncomputable def tw16947615914383616782 : Unit := ()
noncomputable def tw3927331946688356228 : Unit := ()
noncomputable def tw3912811242725288453 : Unit := ()
noncomputable def tw3046938939346580660 : Unit := ()
noncomputable def tw7604666192120794032 : Unit := ()
noncomputable def tw15123554796541802991 : Unit := ()
noncomputable def tw15472126771306010800 : Unit := ()
noncomputable def tw11625900857008200698 : Unit := ()
noncomputable def tw2782584491509435139 : Unit := ()
noncomputable def tw18221580467831097590 : Unit := ()
noncomputable def tw2139172203440323022 : Unit := ()
noncomputable def tw7120836010843673076 : Unit := ()
noncomputable def tw14498155544194170393 : Unit := ()
noncomputable def tw15333956030411951890 : Unit := ()
noncomputable def tw13154458805202713791 : Unit := ()
noncomputable def tw14774650325386425613 : Unit := ()
noncomputable def tw1172607208729018732 : Unit := ()
noncomputable def tw14892801356780361778 : Unit := ()
noncomputable def tw17974257514489008736 : Unit := ()
noncomputable def tw2602977815382960713 : Unit := ()
noncomputable def tw13342137609418717338 : Unit := ()
noncomputable def tw1819975233463548508 : Unit := ()
noncomputable def tw4515466672771955728 : Unit := ()
noncomputable def tw6869992995446874880 : Unit := ()
noncomputable def tw15274831704391544125 : Unit := ()
noncomputable def tw1505032574108120263 : Unit := ()
noncomputable def tw17183477848116922584 : Unit := ()
noncomputable def tw3329330481660614911 : Unit := ()
noncomputable def tw1722738952054099684 : Unit := ()
noncomputable def tw17156363617357476176 : Unit := ()
noncomputable def tw17345407343664743607 : Unit := ()
noncomputable def tw5212653520564569363 : Unit := ()
noncomputable def tw17046799393618780204 : Unit := ()
noncomputable def tw1622690429015379626 : Unit := ()
noncomputable def tw3012480247710183994 : Unit := ()
noncomputable def tw10983241140555628109 : Unit := ()
noncomputable def tw5950301352895977177 : Unit := ()
noncomputable def tw2644310842459337959 : Unit := ()
noncomputable def tw3808703085821546077 : Unit := ()
noncomputable def tw4030767218360268280 : Unit := ()
noncomputable def tw11633083819707477107 : Unit := ()
noncomputable def tw10264638600885302300 : Unit := ()
noncomputable def tw16194741210049916205 : Unit := ()
noncomputable def tw18269650602155537469 : Unit := ()
noncomputable def tw8570087061310353148 : Unit := ()
noncomputable def tw10108825076125807744 : Unit := ()
noncomputable def tw8285764192309689115 : Unit := ()
noncomputable def tw13983371404066579822 : Unit := ()
noncomputable def tw1053317679998426468 : Unit := ()
noncomputable def tw2856731137302751260 : Unit := ()
noncomputable def tw15162217921772873613 : Unit := ()
noncomputable def tw4946720094412051239 : Unit := ()
noncomputable def tw12835091436910803158 : Unit := ()
noncomputable def tw13250372474279835810 : Unit := ()
noncomputable def tw16805829885119392726 : Unit := ()
noncomputable def tw8785698371604719795 : Unit := ()
noncomputable def tw5731563423909890137 : Unit := ()
noncomputable def tw8312341600987523519 : Unit := ()
noncomputable def tw13028658284911697911 : Unit := ()
noncomputable def tw14281342344845405768 : Unit := ()
noncomputable def tw15848713872586308078 : Unit := ()
noncomputable def tw14789792462180790578 : Unit := ()
noncomputable def tw5640673133297012132 : Unit := ()
noncomputable def tw12684681026606017882 : Unit := ()
noncomputable def tw5037970770195530229 : Unit := ()
noncomputable def tw3974387499553966400 : Unit := ()
noncomputable def tw14385925486924208373 : Unit := ()
noncomputable def tw12419048959643632839 : Unit := ()
noncomputable def tw18340598423539479173 : Unit := ()
noncomputable def tw10812634152524527747 : Unit := ()
noncomputable def tw3186734533307500241 : Unit := ()
noncomputable def tw2322801206320994539 : Unit := ()
noncomputable def tw16978406815995349258 : Unit := ()
noncomputable def tw16009327648451700120 : Unit := ()
noncomputable def tw17499823404086765753 : Unit := ()
noncomputable def tw10486713781251687710 : Unit := ()
noncomputable def tw2788888992717563140 : Unit := ()
noncomputable def tw12977093529070104392 : Unit := ()
noncomputable def tw6265907326580845545 : Unit := ()
noncomputable def tw17253903310271361901 : Unit := ()
noncomputable def tw1767730674963353768 : Unit := ()
noncomputable def tw3572487005457819259 : Unit := ()
noncomputable def tw11484002064277903863 : Unit := ()
noncomputable def tw6189876280036216102 : Unit := ()
noncomputable def tw5455921660152230842 : Unit := ()
noncomputable def tw15522444059895599089 : Unit := ()
noncomputable def tw1989176631692091739 : Unit := ()
noncomputable def tw12831907817818079685 : Unit := ()
noncomputable def tw15802469936163623734 : Unit := ()
noncomputable def tw4464252984393422682 : Unit := ()
noncomputable def tw6667284449218939238 : Unit := ()
noncomputable def tw2695550118857162214 : Unit := ()
noncomputable def tw11017292853192552079 : Unit := ()
noncomputable def tw6896717019858035522 : Unit := ()
noncomputable def tw11586273756423631628 : Unit := ()
noncomputable def tw6881874429007886204 : Unit := ()
noncomputable def tw4439653461905209652 : Unit := ()
noncomputable def tw13780023080261437657 : Unit := ()
noncomputable def tw2124134355350193313 : Unit := ()
noncomputable def tw17758146289354676595 : Unit := ()
noncomputable def tw11946022803392826334 : Unit := ()
noncomputable def tw1928719863018725356 : Unit := ()
noncomputable def tw7767266014307106701 : Unit := ()
noncomputable def tw3682559726232862161 : Unit := ()
noncomputable def tw10027879121665395642 : Unit := ()
noncomputable def tw13766487248619392586 : Unit := ()
noncomputable def tw12889056044993165476 : Unit := ()
noncomputable def tw3158129796062787159 : Unit := ()
noncomputable def tw8715444014776630742 : Unit := ()
noncomputable def tw10350734228115807855 : Unit := ()
noncomputable def tw9069877914133315304 : Unit := ()
noncomputable def tw9843604407834444796 : Unit := ()
noncomputable def tw16332274672890094952 : Unit := ()
noncomputable def tw7497986649931050792 : Unit := ()
noncomputable def tw9889521400790421688 : Unit := ()
noncomputable def tw8481075993509181622 : Unit := ()
noncomputable def tw13190703287169160282 : Unit := ()
noncomputable def tw8191475993861738794 : Unit := ()
noncomputable def tw5045712524691215523 : Unit := ()
noncomputable def tw1377309892636839040 : Unit := ()
noncomputable def tw12294597709558488554 : Unit := ()
noncomputable def tw2006301483956418059 : Unit := ()
noncomputable def tw16098122237329998606 : Unit := ()
noncomputable def tw14983226153234331074 : Unit := ()
noncomputable def tw15981146109821552621 : Unit := ()
noncomputable def tw10566571302883470556 : Unit := ()
noncomputable def tw9529696498207198238 : Unit := ()
noncomputable def tw9184033795430018204 : Unit := ()
noncomputable def tw4370086069003782432 : Unit := ()
noncomputable def tw13336368349410954346 : Unit := ()
noncomputable def tw1778412455037948541 : Unit := ()
noncomputable def tw18430954121086234272 : Unit := ()
noncomputable def tw9887912731928775018 : Unit := ()
noncomputable def tw1031057903888850656 : Unit := ()
noncomputable def tw18254337876149969668 : Unit := ()
noncomputable def tw5451054884063135654 : Unit := ()
noncomputable def tw6041440012092600215 : Unit := ()
noncomputable def tw11133525997344109421 : Unit := ()
noncomputable def tw6723812968561706957 : Unit := ()
noncomputable def tw16461882675039125421 : Unit := ()
noncomputable def tw6727219029552735585 : Unit := ()
noncomputable def tw10024239376800412576 : Unit := ()
noncomputable def tw13429453918920967058 : Unit := ()
noncomputable def tw4441770287765753910 : Unit := ()
noncomputable def tw4329103073091286810 : Unit := ()
noncomputable def tw15293083901398250104 : Unit := ()
noncomputable def tw5062152199769849712 : Unit := ()
noncomputable def tw7304591109411159013 : Unit := ()
noncomputable def tw12687621791434340054 : Unit := ()
noncomputable def tw12115171985352901274 : Unit := ()
noncomputable def tw11330957891505755796 : Unit := ()
noncomputable def tw10188763426450519768 : Unit := ()
noncomputable def tw15883345262158282383 : Unit := ()
noncomputable def tw2078624436916829710 : Unit := ()
noncomputable def tw10516828495840041881 : Unit := ()
noncomputable def tw11846676642670509255 : Unit := ()
noncomputable def tw5898729028444588960 : Unit := ()
noncomputable def tw13280740594461564331 : Unit := ()
noncomputable def tw2303879751551577860 : Unit := ()
noncomputable def tw14224323468409063320 : Unit := ()
noncomputable def tw12780804625047726367 : Unit := ()
noncomputable def tw15617896438947887921 : Unit := ()
noncomputable def tw11303081109005220762 : Unit := ()
noncomputable def tw3438298445031660282 : Unit := ()
noncomputable def tw498061464947678834 : Unit := ()
noncomputable def tw17309000430359075326 : Unit := ()
noncomputable def tw576407869801174206 : Unit := ()
noncomputable def tw3912282782066419217 : Unit := ()
noncomputable def tw14390095281932903014 : Unit := ()
noncomputable def tw13092103797297032270 : Unit := ()
noncomputable def tw10368410895845634921 : Unit := ()
noncomputable def tw9682718004065560343 : Unit := ()
noncomputable def tw18388893480867403737 : Unit := ()
noncomputable def tw3674665740742831893 : Unit := ()
noncomputable def tw17274716441693411508 : Unit := ()
noncomputable def tw16462895619179043833 : Unit := ()
noncomputable def tw10726639523019406850 : Unit := ()
noncomputable def tw11795792742502079742 : Unit := ()
noncomputable def tw8720880381367431298 : Unit := ()
noncomputable def tw3850404396616230974 : Unit := ()
noncomputable def tw11297062200503488469 : Unit := ()
noncomputable def tw4581845663705801772 : Unit := ()
noncomputable def tw9992725586745946429 : Unit := ()
noncomputable def tw1762888911704233025 : Unit := ()
noncomputable def tw2503670479209048990 : Unit := ()
noncomputable def tw607667584577438428 : Unit := ()
noncomputable def tw972601921857779769 : Unit := ()
noncomputable def tw15341342317828512493 : Unit := ()
noncomputable def tw17470365217354309832 : Unit := ()
noncomputable def tw18135211599370774712 : Unit := ()
noncomputable def tw519298541982818421 : Unit := ()
noncomputable def tw4991859449750346478 : Unit := ()
noncomputable def tw15014403891855920072 : Unit := ()
noncomputable def tw302768837105346163 : Unit := ()
noncomputable def tw9255152265573255198 : Unit := ()
noncomputable def tw18234560199702728603 : Unit := ()
noncomputable def tw12134408205421670959 : Unit := ()
noncomputable def tw6553333263825352884 : Unit := ()
noncomputable def tw123295346585929383 : Unit := ()
noncomputable def tw545679637281252710 : Unit := ()
noncomputable def tw15806970514647361693 : Unit := ()
noncomputable def tw13709617746848070560 : Unit := ()
noncomputable def tw2387193687640843687 : Unit := ()
noncomputable def tw4741859662064258567 : Unit := ()
noncomputable def tw7696488724909661519 : Unit := ()
noncomputable def tw12108977868540685583 : Unit := ()
noncomputable def tw11666318101497114028 : Unit := ()
noncomputable def tw41732636909640268 : Unit := ()
noncomputable def tw13342518741750886279 : Unit := ()
noncomputable def tw2175471002772951711 : Unit := ()
noncomputable def tw10362271348294423435 : Unit := ()
noncomputable def tw5907203647135998699 : Unit := ()
noncomputable def tw10028117763298573888 : Unit := ()
noncomputable def tw3258674603298201628 : Unit := ()
noncomputable def tw1905533677188600702 : Unit := ()
noncomputable def tw6861490101519172755 : Unit := ()
noncomputable def tw1973129929022764952 : Unit := ()
noncomputable def tw9168033884955339765 : Unit := ()
noncomputable def tw15644819842384902770 : Unit := ()
noncomputable def tw1774764763061370789 : Unit := ()
noncomputable def tw12116493165278983582 : Unit := ()
noncomputable def tw11881114122080957857 : Unit := ()
noncomputable def tw16873799427995575018 : Unit := ()
noncomputable def tw3756308257209627903 : Unit := ()
noncomputable def tw2016121425191149895 : Unit := ()
noncomputable def tw11100686419730198450 : Unit := ()
noncomputable def tw8970147916757833333 : Unit := ()
noncomputable def tw11714151634956498000 : Unit := ()
noncomputable def tw15527639110640922598 : Unit := ()
noncomputable def tw7407239408455114201 : Unit := ()
noncomputable def tw11182679623053108816 : Unit := ()
noncomputable def tw12626328134170644701 : Unit := ()
noncomputable def tw1689763614830377041 : Unit := ()
noncomputable def tw41285150562043849 : Unit := ()
noncomputable def tw16074064945343616743 : Unit := ()
noncomputable def tw6410668804425169698 : Unit := ()
noncomputable def tw1035469204868569938 : Unit := ()
noncomputable def tw15567558954438479688 : Unit := ()
noncomputable def tw14883556706271630602 : Unit := ()
noncomputable def tw10609929442622069884 : Unit := ()
noncomputable def tw1784627337472249616 : Unit := ()
noncomputable def tw5858263632927829637 : Unit := ()
noncomputable def tw14988988175077273356 : Unit := ()
noncomputable def tw11781800970755023335 : Unit := ()
noncomputable def tw5117662029339320154 : Unit := ()
noncomputable def tw17180001009569633970 : Unit := ()
noncomputable def tw2578278018795888234 : Unit := ()
noncomputable def tw17580165497215679439 : Unit := ()
noncomputable def tw3049941959672503198 : Unit := ()
noncomputable def tw5506821171919863439 : Unit := ()
noncomputable def tw13402424001964919149 : Unit := ()
noncomputable def tw12303009252429188658 : Unit := ()
noncomputable def tw4524032621918665186 : Unit := ()
noncomputable def tw5087963091746180759 : Unit := ()
noncomputable def tw8386679336120195906 : Unit := ()
noncomputable def tw12800644894191811977 : Unit := ()
noncomputable def tw6159533029260741167 : Unit := ()
noncomputable def tw15352839923633478061 : Unit := ()
noncomputable def tw6280930540759022334 : Unit := ()
noncomputable def tw4492043994082249198 : Unit := ()
noncomputable def tw10876394233666535175 : Unit := ()
noncomputable def tw4643041051132140158 : Unit := ()
noncomputable def tw10222300733896627045 : Unit := ()
noncomputable def tw4065279318931269435 : Unit := ()
noncomputable def tw17830944117370523080 : Unit := ()
noncomputable def tw3390839446522356110 : Unit := ()
noncomputable def tw13087128984098923117 : Unit := ()
noncomputable def tw15031514592837009168 : Unit := ()
noncomputable def tw545109181885906688 : Unit := ()
noncomputable def tw11966672015165255308 : Unit := ()
noncomputable def tw13642005409729077643 : Unit := ()
noncomputable def tw2907507879108658156 : Unit := ()
noncomputable def tw6911747868599837429 : Unit := ()
noncomputable def tw12481875629721207810 : Unit := ()
noncomputable def tw6860709855171689206 : Unit := ()
noncomputable def tw5389484754426515990 : Unit := ()
noncomputable def tw575232530192455986 : Unit := ()
noncomputable def tw3253568177066640346 : Unit := ()
noncomputable def tw13281950902743806629 : Unit := ()
noncomputable def tw7480714314260584917 : Unit := ()
noncomputable def tw11956458263131016624 : Unit := ()
noncomputable def tw9207643191828677137 : Unit := ()
noncomputable def tw7566432030715092817 : Unit := ()
noncomputable def tw11924911360389889469 : Unit := ()
noncomputable def tw11126432536435168541 : Unit := ()
noncomputable def tw179590077315354965 : Unit := ()
noncomputable def tw11223184984439025696 : Unit := ()
noncomputable def tw2136269947727277649 : Unit := ()
noncomputable def tw8854015012368427407 : Unit := ()
noncomputable def tw3035144380315620824 : Unit := ()
noncomputable def tw8369274380968253667 : Unit := ()
noncomputable def tw7408322871517469003 : Unit := ()
noncomputable def tw3959601488294255719 : Unit := ()
noncomputable def tw17255088995462705879 : Unit := ()
noncomputable def tw10458381655096516384 : Unit := ()
noncomputable def tw252747968280191792 : Unit := ()
noncomputable def tw2090888555730037645 : Unit := ()
noncomputable def tw8666519363043736892 : Unit := ()
noncomputable def tw745255978533919091 : Unit := ()
noncomputable def tw12949845418750544790 : Unit := ()
noncomputable def tw10242277825702978295 : Unit := ()
noncomputable def tw5989267464594152519 : Unit := ()
noncomputable def tw13190408463805328480 : Unit := ()
noncomputable def tw8591876402714022951 : Unit := ()
noncomputable def tw3426384778480675251 : Unit := ()
noncomputable def tw3307954989432871184 : Unit := ()
noncomputable def tw8514742172934523775 : Unit := ()
noncomputable def tw13431030151845061361 : Unit := ()
noncomputable def tw14545874151571354728 : Unit := ()
noncomputable def tw16106779387088534511 : Unit := ()
noncomputable def tw6317479115527610633 : Unit := ()
noncomputable def tw13650905803964671038 : Unit := ()
noncomputable def tw602461330855297101 : Unit := ()
noncomputable def tw16470317323979864763 : Unit := ()
noncomputable def tw11426015686315989412 : Unit := ()
noncomputable def tw4614512636035447770 : Unit := ()
noncomputable def tw11677100312832694166 : Unit := ()
noncomputable def tw17942709131360195518 : Unit := ()
noncomputable def tw5920216800500632969 : Unit := ()
noncomputable def tw3896150654470677357 : Unit := ()
noncomputable def tw7019463264422422977 : Unit := ()
noncomputable def tw12622292602297523153 : Unit := ()
noncomputable def tw15726739188670627701 : Unit := ()
noncomputable def tw13397297893571687751 : Unit := ()
noncomputable def tw3366817510852727610 : Unit := ()
noncomputable def tw9849722394096787677 : Unit := ()
noncomputable def tw10442559174759676424 : Unit := ()
noncomputable def tw3005452535816212104 : Unit := ()
noncomputable def tw15607887362523206001 : Unit := ()
noncomputable def tw17253691774821329096 : Unit := ()
noncomputable def tw8417186165934385351 : Unit := ()
noncomputable def tw17548904289303218438 : Unit := ()
noncomputable def tw16760957895259694429 : Unit := ()
noncomputable def tw16190678330180157336 : Unit := ()
noncomputable def tw9779807473162285230 : Unit := ()
noncomputable def tw14746732674962391887 : Unit := ()
noncomputable def tw4916342969005030805 : Unit := ()
noncomputable def tw10739996224514850001 : Unit := ()
noncomputable def tw2618386414584295968 : Unit := ()
noncomputable def tw3136910860242942599 : Unit := ()
noncomputable def tw9552830710289189752 : Unit := ()
noncomputable def tw16099233806120587224 : Unit := ()
noncomputable def tw16057390660189216267 : Unit := ()
noncomputable def tw3850334171643177529 : Unit := ()
noncomputable def tw3110860835449505704 : Unit := ()
noncomputable def tw18155623678392573649 : Unit := ()
noncomputable def tw12889673554181485818 : Unit := ()
noncomputable def tw13482675847692870326 : Unit := ()
noncomputable def tw2102315897755806987 : Unit := ()
noncomputable def tw6746360682218282392 : Unit := ()
noncomputable def tw1285599515219305098 : Unit := ()
noncomputable def tw4818577856007422655 : Unit := ()
noncomputable def tw3742325753681652743 : Unit := ()
noncomputable def tw1550374771381668074 : Unit := ()
noncomputable def tw14828999820898988419 : Unit := ()
noncomputable def tw10767655046202684341 : Unit := ()
noncomputable def tw4037582482628031876 : Unit := ()
noncomputable def tw676263390381983339 : Unit := ()
noncomputable def tw5364902710198789758 : Unit := ()
noncomputable def tw12456547296908542839 : Unit := ()
noncomputable def tw10093380194815717143 : Unit := ()
noncomputable def tw5981114437932730796 : Unit := ()
noncomputable def tw12223724995276690173 : Unit := ()
noncomputable def tw8790382262760724670 : Unit := ()
noncomputable def tw9758593294864014727 : Unit := ()
noncomputable def tw3756957479349018193 : Unit := ()
noncomputable def tw4992725456586698614 : Unit := ()
noncomputable def tw631266038723830076 : Unit := ()
noncomputable def tw7484302960587174374 : Unit := ()
noncomputable def tw7185456241796803578 : Unit := ()
noncomputable def tw1710076424337546998 : Unit := ()
noncomputable def tw724200737284857819 : Unit := ()
noncomputable def tw3979707639553702691 : Unit := ()
noncomputable def tw17458534234597298029 : Unit := ()
noncomputable def tw14596297492920191028 : Unit := ()
noncomputable def tw11098625913536864229 : Unit := ()
noncomputable def tw14354538779393863138 : Unit := ()
noncomputable def tw1335265377702380343 : Unit := ()
noncomputable def tw59864651932915081 : Unit := ()
noncomputable def tw9187647767651647856 : Unit := ()
noncomputable def tw7221428835167493151 : Unit := ()
noncomputable def tw12253411696296436870 : Unit := ()
noncomputable def tw17865009358878524859 : Unit := ()
noncomputable def tw12342728606916771844 : Unit := ()
noncomputable def tw9288214680346807717 : Unit := ()
noncomputable def tw1685627985566243432 : Unit := ()
noncomputable def tw3955097671198598788 : Unit := ()
noncomputable def tw1385162719727133579 : Unit := ()
noncomputable def tw15694993059591697976 : Unit := ()
noncomputable def tw7495221243884187115 : Unit := ()
noncomputable def tw10296202853966499060 : Unit := ()
noncomputable def tw8652346329174877282 : Unit := ()
noncomputable def tw13882729330811710610 : Unit := ()
noncomputable def tw10954758410522031216 : Unit := ()
noncomputable def tw2152083551845799040 : Unit := ()
noncomputable def tw17237755526102222789 : Unit := ()
noncomputable def tw13301187468288870568 : Unit := ()
noncomputable def tw17993387198741990920 : Unit := ()
noncomputable def tw7775064044895347852 : Unit := ()
noncomputable def tw14991590004735058009 : Unit := ()
noncomputable def tw447027507633508388 : Unit := ()
noncomputable def tw7820799176418779761 : Unit := ()
noncomputable def tw14904137174637212347 : Unit := ()
noncomputable def tw6333624483447246961 : Unit := ()
noncomputable def tw10841264019214440115 : Unit := ()
noncomputable def tw7636989558263936852 : Unit := ()
noncomputable def tw17449644191371220912 : Unit := ()
noncomputable def tw15829985883664642994 : Unit := ()
noncomputable def tw14531881819706719225 : Unit := ()
noncomputable def tw13182730311906835528 : Unit := ()
noncomputable def tw15553271232878744609 : Unit := ()
noncomputable def tw11977050620070087417 : Unit := ()
noncomputable def tw12001131798957381970 : Unit := ()
noncomputable def tw900637438159641495 : Unit := ()
noncomputable def tw8806649888931605024 : Unit := ()
noncomputable def tw6260460797876433568 : Unit := ()
noncomputable def tw11690447701083486646 : Unit := ()
noncomputable def tw6709271908398517637 : Unit := ()
noncomputable def tw16836969012518115619 : Unit := ()
noncomputable def tw17911580528928914924 : Unit := ()
noncomputable def tw11097158420108258118 : Unit := ()
noncomputable def tw7544913113114293122 : Unit := ()
noncomputable def tw14571795756577361901 : Unit := ()
noncomputable def tw12645607732203181651 : Unit := ()
noncomputable def tw7472407996622490835 : Unit := ()
noncomputable def tw15661869461025623997 : Unit := ()
noncomputable def tw11609493526922420660 : Unit := ()
noncomputable def tw10007947361888340627 : Unit := ()
noncomputable def tw12476058986133298565 : Unit := ()
noncomputable def tw718173064312146323 : Unit := ()
noncomputable def tw17169043682955552997 : Unit := ()
noncomputable def tw8249079356659094474 : Unit := ()
noncomputable def tw16893121556090616931 : Unit := ()
noncomputable def tw4146061822495498468 : Unit := ()
noncomputable def tw11404014056486942332 : Unit := ()
noncomputable def tw11289095316329951393 : Unit := ()
noncomputable def tw10346744231138586394 : Unit := ()
noncomputable def tw7356724547972884604 : Unit := ()
noncomputable def tw15609566024721092083 : Unit := ()
noncomputable def tw14646867148444618371 : Unit := ()
noncomputable def tw18203989763732354715 : Unit := ()
noncomputable def tw2887994833065977647 : Unit := ()
noncomputable def tw10817052189556005596 : Unit := ()
noncomputable def tw14064573792008682920 : Unit := ()
noncomputable def tw13220211186989608806 : Unit := ()
noncomputable def tw16406091861079842607 : Unit := ()
noncomputable def tw10666784280354678857 : Unit := ()
noncomputable def tw18090433342136740992 : Unit := ()
noncomputable def tw4273555757443719353 : Unit := ()
noncomputable def tw16563099163409725306 : Unit := ()
noncomputable def tw2887050238494874643 : Unit := ()
noncomputable def tw13958071646730322851 : Unit := ()
noncomputable def tw8890443458166856008 : Unit := ()
noncomputable def tw11315637435222106236 : Unit := ()
noncomputable def tw12732824653754844360 : Unit := ()
noncomputable def tw16883458599210261866 : Unit := ()
noncomputable def tw14160533322030094474 : Unit := ()
noncomputable def tw8176227357466254829 : Unit := ()
noncomputable def tw3943428198234077543 : Unit := ()
noncomputable def tw1909877003179415225 : Unit := ()
noncomputable def tw11470271118054631628 : Unit := ()
noncomputable def tw7311554392007033315 : Unit := ()
noncomputable def tw11067727234611919522 : Unit := ()
noncomputable def tw9875236377963488844 : Unit := ()
noncomputable def tw13800757232730249582 : Unit := ()
noncomputable def tw14925382992726071281 : Unit := ()
noncomputable def tw15695062497276918967 : Unit := ()
noncomputable def tw2043166853727251185 : Unit := ()
noncomputable def tw4072507727158212662 : Unit := ()
noncomputable def tw16963379459963715452 : Unit := ()
noncomputable def tw1832781179975386347 : Unit := ()
noncomputable def tw13294052699122959228 : Unit := ()
noncomputable def tw14289194402921355359 : Unit := ()
noncomputable def tw7089819591129360890 : Unit := ()
noncomputable def tw194939583717160490 : Unit := ()
noncomputable def tw17264387287909652857 : Unit := ()
noncomputable def tw1186782194237197914 : Unit := ()
noncomputable def tw699380112222796084 : Unit := ()
noncomputable def tw7910590604623066228 : Unit := ()
noncomputable def tw12874571214893485439 : Unit := ()
noncomputable def tw9606376775287448836 : Unit := ()
noncomputable def tw8472228645029834797 : Unit := ()
noncomputable def tw4008084134468147086 : Unit := ()
noncomputable def tw2667362832866536986 : Unit := ()
noncomputable def tw1376783240425437725 : Unit := ()
noncomputable def tw8860054118572591635 : Unit := ()
noncomputable def tw14997073306097389879 : Unit := ()
noncomputable def tw18006792725990754497 : Unit := ()
noncomputable def tw3595789414353437717 : Unit := ()
noncomputable def tw6674817763981286723 : Unit := ()
noncomputable def tw16935243356766158856 : Unit := ()
noncomputable def tw2055734563569237896 : Unit := ()
noncomputable def tw13948764862911467869 : Unit := ()
noncomputable def tw6765152471904792315 : Unit := ()
noncomputable def tw14335913921861858828 : Unit := ()
noncomputable def tw13478230802861573701 : Unit := ()
noncomputable def tw4323815956820902445 : Unit := ()
noncomputable def tw8061732933902216757 : Unit := ()
noncomputable def tw15759456685926392790 : Unit := ()
noncomputable def tw8835965917227929528 : Unit := ()
noncomputable def tw13778614294919624647 : Unit := ()
noncomputable def tw12291295341487003417 : Unit := ()
noncomputable def tw9317688335297629284 : Unit := ()
noncomputable def tw445335354869643106 : Unit := ()
noncomputable def tw18249637531494128599 : Unit := ()
noncomputable def tw1496123403401453975 : Unit := ()
noncomputable def tw15140378357190847165 : Unit := ()
noncomputable def tw8763168800255643514 : Unit := ()
noncomputable def tw293627430662643474 : Unit := ()
noncomputable def tw18221428039690301666 : Unit := ()
noncomputable def tw3028213030429885723 : Unit := ()
noncomputable def tw17635881633845107689 : Unit := ()
noncomputable def tw6677821561840896501 : Unit := ()
noncomputable def tw8957123355933967898 : Unit := ()
noncomputable def tw6934448944433832347 : Unit := ()
noncomputable def tw1213554597985364776 : Unit := ()
noncomputable def tw12663309570017281627 : Unit := ()
noncomputable def tw17027635718292003107 : Unit := ()
noncomputable def tw10189704592693192966 : Unit := ()
noncomputable def tw10301956948240465243 : Unit := ()
noncomputable def tw10441050188594101415 : Unit := ()
noncomputable def tw10465528174321978529 : Unit := ()
noncomputable def tw10669193099707082858 : Unit := ()
noncomputable def tw10853073101087482815 : Unit := ()
noncomputable def tw10968802771074238664 : Unit := ()
noncomputable def tw1096898596823417342 : Unit := ()
noncomputable def tw1099259369241382048 : Unit := ()
noncomputable def tw11097350217990362986 : Unit := ()
noncomputable def tw11264427193644136226 : Unit := ()
noncomputable def tw11310715605152030493 : Unit := ()
noncomputable def tw11544315989524547432 : Unit := ()
noncomputable def tw11575242352228052633 : Unit := ()
noncomputable def tw11915150223634536351 : Unit := ()
noncomputable def tw1193752163605232707 : Unit := ()
noncomputable def tw12038593971548452464 : Unit := ()
noncomputable def tw12296726922439171297 : Unit := ()
noncomputable def tw12394330538082041428 : Unit := ()
noncomputable def tw12459966957829302596 : Unit := ()
noncomputable def tw12825816775272576189 : Unit := ()
noncomputable def tw12847567107135931479 : Unit := ()
noncomputable def tw13005147029216865851 : Unit := ()
noncomputable def tw13536078969547264968 : Unit := ()
noncomputable def tw13667737974841707781 : Unit := ()
noncomputable def tw1372012742513953645 : Unit := ()
noncomputable def tw13944364680338175992 : Unit := ()
noncomputable def tw13956741780833797525 : Unit := ()
noncomputable def tw14176785179279804650 : Unit := ()
noncomputable def tw14326059299131336239 : Unit := ()
noncomputable def tw14377833709258309704 : Unit := ()
noncomputable def tw14497384708736915567 : Unit := ()
noncomputable def tw14822640431511872941 : Unit := ()
noncomputable def tw14872900085578418628 : Unit := ()
noncomputable def tw14957179600199517237 : Unit := ()
noncomputable def tw15006436103509636135 : Unit := ()
noncomputable def tw15154110283740273250 : Unit := ()
noncomputable def tw15191720212996534143 : Unit := ()
noncomputable def tw15272395603832836080 : Unit := ()
noncomputable def tw15448297888555860652 : Unit := ()
noncomputable def tw15452448965706171373 : Unit := ()
noncomputable def tw15544829507116839252 : Unit := ()
noncomputable def tw160851071654074740 : Unit := ()
noncomputable def tw16273140198857503625 : Unit := ()
noncomputable def tw16381176275627223697 : Unit := ()
noncomputable def tw16429593205651750483 : Unit := ()
noncomputable def tw16583925440652817540 : Unit := ()
noncomputable def tw16612359704951912572 : Unit := ()
noncomputable def tw16614716721108272449 : Unit := ()
noncomputable def tw16691439815215545270 : Unit := ()
noncomputable def tw1670043908289496885 : Unit := ()
noncomputable def tw16720094985154256693 : Unit := ()
noncomputable def tw16729502449772362801 : Unit := ()
noncomputable def tw1724926542741425601 : Unit := ()
noncomputable def tw17598101756349436640 : Unit := ()
noncomputable def tw17713402740875732926 : Unit := ()
noncomputable def tw1791086108937442324 : Unit := ()
noncomputable def tw17923851452625207687 : Unit := ()
noncomputable def tw17942499455142895165 : Unit := ()
noncomputable def tw17991873694480202192 : Unit := ()
noncomputable def tw18261290160731607033 : Unit := ()
noncomputable def tw2075624079617657780 : Unit := ()
noncomputable def tw2142710703020379005 : Unit := ()
noncomputable def tw2143268655074302082 : Unit := ()
noncomputable def tw228058311090241170 : Unit := ()
noncomputable def tw2295933128562542503 : Unit := ()
noncomputable def tw2446358144275080391 : Unit := ()
noncomputable def tw2557128651999224082 : Unit := ()
noncomputable def tw2643271747718453845 : Unit := ()
noncomputable def tw2653077077396839018 : Unit := ()
noncomputable def tw3033269912633744064 : Unit := ()
noncomputable def tw3184553860529739047 : Unit := ()
noncomputable def tw3253820488102484341 : Unit := ()
noncomputable def tw3672438013989251361 : Unit := ()
noncomputable def tw3776956092104397036 : Unit := ()
noncomputable def tw3850375180904979519 : Unit := ()
noncomputable def tw3882201998751590657 : Unit := ()
noncomputable def tw3910120701321347557 : Unit := ()
noncomputable def tw3956099054510807996 : Unit := ()
noncomputable def tw4329158554759489670 : Unit := ()
noncomputable def tw4503035019201841076 : Unit := ()
noncomputable def tw455179833554555240 : Unit := ()
noncomputable def tw4781243967656130014 : Unit := ()
noncomputable def tw488910162270105676 : Unit := ()
noncomputable def tw4995542688137877417 : Unit := ()
noncomputable def tw5032703568563231349 : Unit := ()
noncomputable def tw5112083995522966620 : Unit := ()
noncomputable def tw5274592661964301406 : Unit := ()
noncomputable def tw5914491427308094424 : Unit := ()
noncomputable def tw5985251716684367880 : Unit := ()
noncomputable def tw6507877686720480950 : Unit := ()
noncomputable def tw653560878884961445 : Unit := ()
noncomputable def tw6564709946809587534 : Unit := ()
noncomputable def tw6751701741844952029 : Unit := ()
noncomputable def tw6776455111828631412 : Unit := ()
noncomputable def tw723553956927101924 : Unit := ()
noncomputable def tw7404543985812422374 : Unit := ()
noncomputable def tw7408472829698581751 : Unit := ()
noncomputable def tw7593269729358013723 : Unit := ()
noncomputable def tw7628765433844752937 : Unit := ()
noncomputable def tw7769649832755249146 : Unit := ()
noncomputable def tw784011647948385275 : Unit := ()
noncomputable def tw808278469055374699 : Unit := ()
noncomputable def tw8266603773606604290 : Unit := ()
noncomputable def tw8330938851228082562 : Unit := ()
noncomputable def tw850272041215511910 : Unit := ()
noncomputable def tw8549365171731915398 : Unit := ()
noncomputable def tw8553002610548859549 : Unit := ()
noncomputable def tw8572072892066365893 : Unit := ()
noncomputable def tw8804120190785687885 : Unit := ()
noncomputable def tw8829074647290719032 : Unit := ()
noncomputable def tw8857742495270377987 : Unit := ()
noncomputable def tw8909828626151137519 : Unit := ()
noncomputable def tw8984152853971343422 : Unit := ()
noncomputable def tw8984712037535005518 : Unit := ()
noncomputable def tw9013377322688217293 : Unit := ()
noncomputable def tw907578622648922086 : Unit := ()
noncomputable def tw908389787484368193 : Unit := ()
noncomputable def tw926570990666696690 : Unit := ()
noncomputable def tw9634471323475708679 : Unit := ()
noncomputable def tw981846192996546977 : Unit := ()
noncomputable def tw7761357755049947032 : Unit := ()
noncomputable def tw3611521207877594189 : Unit := ()
noncomputable def tw12802894045719194488 : Unit := ()
noncomputable def tw16003327175112694606 : Unit := ()
noncomputable def tw18241537305214331250 : Unit := ()
noncomputable def tw3749358771572794492 : Unit := ()
noncomputable def tw13528912946557763057 : Unit := ()
noncomputable def tw14032274615300503637 : Unit := ()
noncomputable def tw7905010102163961791 : Unit := ()
noncomputable def tw2023572935783441117 : Unit := ()
noncomputable def tw8061105223140572173 : Unit := ()
noncomputable def tw7100651544473002795 : Unit := ()
noncomputable def tw1855659965992788213 : Unit := ()
noncomputable def tw10135837229481937911 : Unit := ()
noncomputable def tw14151185885387359845 : Unit := ()
noncomputable def tw122000209207035920 : Unit := ()
noncomputable def tw1824692113489016882 : Unit := ()
noncomputable def tw6715006797423157704 : Unit := ()
noncomputable def tw6404528875140553623 : Unit := ()
noncomputable def tw5490133090881373508 : Unit := ()
noncomputable def tw17252491027241782391 : Unit := ()
noncomputable def tw3555416481971764790 : Unit := ()
noncomputable def tw10418554176218383598 : Unit := ()
noncomputable def tw17500276604081802336 : Unit := ()
noncomputable def tw3913335575541626976 : Unit := ()
noncomputable def tw10695741360483085121 : Unit := ()
noncomputable def tw452069686004700376 : Unit := ()
noncomputable def tw13371712300994134660 : Unit := ()
noncomputable def tw17481444889236798911 : Unit := ()
noncomputable def tw3806796704331803481 : Unit := ()
noncomputable def tw11063153071734649078 : Unit := ()
noncomputable def tw11651396985079181648 : Unit := ()
noncomputable def tw377094235566808771 : Unit := ()
noncomputable def tw11830522110205607603 : Unit := ()
noncomputable def tw773729985174960805 : Unit := ()
noncomputable def tw5157736523861272455 : Unit := ()
noncomputable def tw11209649026746861418 : Unit := ()
noncomputable def tw3346441004741099158 : Unit := ()
noncomputable def tw11395014323969765827 : Unit := ()
noncomputable def tw2150953433503334728 : Unit := ()
noncomputable def tw3789957389117865146 : Unit := ()
noncomputable def tw5119324661592668089 : Unit := ()
noncomputable def tw979398351457104820 : Unit := ()
noncomputable def tw8442015976520894444 : Unit := ()
noncomputable def tw15606115262286698316 : Unit := ()
noncomputable def tw10957990020181041318 : Unit := ()
noncomputable def tw2252386487519367626 : Unit := ()
noncomputable def tw2332971393333416046 : Unit := ()
noncomputable def tw10552141329737642290 : Unit := ()
noncomputable def tw10114027052139591317 : Unit := ()
noncomputable def tw17360311032474479462 : Unit := ()
noncomputable def tw3014535990977024487 : Unit := ()
noncomputable def tw16547889079233734677 : Unit := ()
noncomputable def tw6701888234240710108 : Unit := ()
noncomputable def tw15295818298793422134 : Unit := ()
noncomputable def tw8607739420059130310 : Unit := ()
noncomputable def tw7824119856387623645 : Unit := ()
noncomputable def tw1169410681402726628 : Unit := ()
noncomputable def tw219701059692585289 : Unit := ()
noncomputable def tw2547054895122083051 : Unit := ()
noncomputable def tw6874556183131618142 : Unit := ()
noncomputable def tw1965469020750417551 : Unit := ()
noncomputable def tw5723815117920958977 : Unit := ()
noncomputable def tw9690833589298406027 : Unit := ()
noncomputable def tw7666211171621233947 : Unit := ()
noncomputable def tw16878762852683450446 : Unit := ()
noncomputable def tw12343667428344826978 : Unit := ()
noncomputable def tw3423306175564972928 : Unit := ()
noncomputable def tw14679555485545584161 : Unit := ()
noncomputable def tw15719744873392249817 : Unit := ()
noncomputable def tw2449028924280301720 : Unit := ()
noncomputable def tw499489847274703578 : Unit := ()
noncomputable def tw5799571076911136906 : Unit := ()
noncomputable def tw15481879182531438882 : Unit := ()
noncomputable def tw3366332770617114856 : Unit := ()
noncomputable def tw16617852307661998139 : Unit := ()
noncomputable def tw709854979552194356 : Unit := ()
noncomputable def tw11488294266624746236 : Unit := ()
noncomputable def tw15842425999613802701 : Unit := ()
noncomputable def tw8057602936023277160 : Unit := ()
noncomputable def tw1827511206584697501 : Unit := ()
noncomputable def tw1847988266573503302 : Unit := ()
noncomputable def tw11357374608624508785 : Unit := ()
noncomputable def tw1700874308459744443 : Unit := ()
noncomputable def tw12860598530570704494 : Unit := ()
noncomputable def tw13437856962200778411 : Unit := ()
noncomputable def tw10402159208537803950 : Unit := ()
noncomputable def tw11633050388212521663 : Unit := ()
noncomputable def tw8431472593228621169 : Unit := ()
noncomputable def tw8931446255496876996 : Unit := ()
noncomputable def tw16954944994117020709 : Unit := ()
noncomputable def tw6716982905690038386 : Unit := ()
noncomputable def tw8171955899158311859 : Unit := ()
noncomputable def tw8217044487939404071 : Unit := ()
noncomputable def tw11134496483141892354 : Unit := ()
noncomputable def tw3269411918792535543 : Unit := ()
noncomputable def tw7367332554472735110 : Unit := ()
noncomputable def tw5143561074815358596 : Unit := ()
noncomputable def tw6199332242755268629 : Unit := ()
noncomputable def tw16024603696145692258 : Unit := ()
noncomputable def tw9615553059082602207 : Unit := ()
noncomputable def tw3978186346325489870 : Unit := ()
noncomputable def tw16936862047945447408 : Unit := ()
noncomputable def tw11099086750082898594 : Unit := ()
noncomputable def tw9394407066293668863 : Unit := ()
noncomputable def tw10782029010792970620 : Unit := ()
noncomputable def tw225394263559001515 : Unit := ()
noncomputable def tw10606098425082153124 : Unit := ()
noncomputable def tw1711477837115164994 : Unit := ()
noncomputable def tw748652498706203151 : Unit := ()
noncomputable def tw7432709276159451990 : Unit := ()
noncomputable def tw11434358737118398592 : Unit := ()
noncomputable def tw7026772716359501450 : Unit := ()
noncomputable def tw1635842298311269174 : Unit := ()
noncomputable def tw17531087052205303389 : Unit := ()
noncomputable def tw13040003935000741464 : Unit := ()
noncomputable def tw9653902901845988027 : Unit := ()
noncomputable def tw12708650609117199895 : Unit := ()
noncomputable def tw1733487617739573515 : Unit := ()
noncomputable def tw16338452932709721372 : Unit := ()
noncomputable def tw14777632765805169327 : Unit := ()
noncomputable def tw5505017976304542313 : Unit := ()
noncomputable def tw17472105583839677901 : Unit := ()
noncomputable def tw11826885412662091856 : Unit := ()
noncomputable def tw10330050050643755165 : Unit := ()
noncomputable def tw13308595087073449157 : Unit := ()
noncomputable def tw13583593784848727941 : Unit := ()
noncomputable def tw16476032510984218712 : Unit := ()
noncomputable def tw2944922161945491649 : Unit := ()
noncomputable def tw7237290184724275023 : Unit := ()
noncomputable def tw15353513610909898425 : Unit := ()
noncomputable def tw11324634603503289369 : Unit := ()
noncomputable def tw3071991769047068910 : Unit := ()
noncomputable def tw5400886297078883490 : Unit := ()
noncomputable def tw13688950934784304517 : Unit := ()
noncomputable def tw16254386755628000883 : Unit := ()
noncomputable def tw757658152245859609 : Unit := ()
noncomputable def tw8818341659482704399 : Unit := ()
noncomputable def tw556660822227325442 : Unit := ()
noncomputable def tw6011755568439182499 : Unit := ()
noncomputable def tw7792186450279601806 : Unit := ()
noncomputable def tw12514161839843863572 : Unit := ()
noncomputable def tw3467896903645755935 : Unit := ()
noncomputable def tw2522852768273463401 : Unit := ()
noncomputable def tw10422818130522691953 : Unit := ()
noncomputable def tw15092089789851737465 : Unit := ()
noncomputable def tw10517805852383407660 : Unit := ()
noncomputable def tw6392158905761329064 : Unit := ()
noncomputable def tw9370607856447695277 : Unit := ()
noncomputable def tw3883698287574726654 : Unit := ()
noncomputable def tw9171057768250522486 : Unit := ()
noncomputable def tw5201779412529134297 : Unit := ()
noncomputable def tw13088820304722976853 : Unit := ()
noncomputable def tw5319541225318086636 : Unit := ()
noncomputable def tw12919635316422635987 : Unit := ()
noncomputable def tw6715656991351815848 : Unit := ()
noncomputable def tw8500840748296339963 : Unit := ()
noncomputable def tw12644349840910657935 : Unit := ()
noncomputable def tw10922297731729558244 : Unit := ()
noncomputable def tw16273731494833598543 : Unit := ()
noncomputable def tw602816010956905824 : Unit := ()
noncomputable def tw9873161123806816165 : Unit := ()
noncomputable def tw2282250595759361666 : Unit := ()
noncomputable def tw6386650089493916654 : Unit := ()
noncomputable def tw13671998229570599879 : Unit := ()
noncomputable def tw16471541667429562457 : Unit := ()
noncomputable def tw16453895356081628118 : Unit := ()
noncomputable def tw12190645928395389683 : Unit := ()
noncomputable def tw17150379046173290646 : Unit := ()
noncomputable def tw7959498003236798979 : Unit := ()
noncomputable def tw10481161228742851850 : Unit := ()
noncomputable def tw9656789291248303882 : Unit := ()
noncomputable def tw6343386563491546778 : Unit := ()
noncomputable def tw13781581502652099447 : Unit := ()
noncomputable def tw16163210992084960869 : Unit := ()
noncomputable def tw14387099707746409350 : Unit := ()
noncomputable def tw1861829559054824368 : Unit := ()
noncomputable def tw2650343534537740444 : Unit := ()
noncomputable def tw10596964692557009552 : Unit := ()
noncomputable def tw8121987327419834800 : Unit := ()
noncomputable def tw14431164505702866704 : Unit := ()
noncomputable def tw6672167983027018265 : Unit := ()
noncomputable def tw8564444992422708193 : Unit := ()
noncomputable def tw6900037003820914344 : Unit := ()
noncomputable def tw17352978071936565051 : Unit := ()
noncomputable def tw2728991878523238955 : Unit := ()
noncomputable def tw986317417601124476 : Unit := ()
noncomputable def tw10623204264827509073 : Unit := ()
noncomputable def tw11677776261051111985 : Unit := ()
noncomputable def tw10102303259659868551 : Unit := ()
noncomputable def tw1029988580574172301 : Unit := ()
noncomputable def tw9228259254286067889 : Unit := ()
noncomputable def tw17980014588158697379 : Unit := ()
noncomputable def tw16817828295519839895 : Unit := ()
noncomputable def tw10486833338236772411 : Unit := ()
noncomputable def tw9327716632753618382 : Unit := ()
noncomputable def tw13356926647415858607 : Unit := ()
noncomputable def tw4929638682073535721 : Unit := ()
noncomputable def tw506562389926244472 : Unit := ()
noncomputable def tw13235827763812736115 : Unit := ()
noncomputable def tw5642762085966371372 : Unit := ()
noncomputable def tw3481917895080377258 : Unit := ()
noncomputable def tw6742194600199751030 : Unit := ()
noncomputable def tw5555226642903843433 : Unit := ()
noncomputable def tw8142008444211574273 : Unit := ()
noncomputable def tw11333090189439060485 : Unit := ()
noncomputable def tw4461188823265615891 : Unit := ()
noncomputable def tw8949483275829328611 : Unit := ()
noncomputable def tw3058449657973298848 : Unit := ()
noncomputable def tw14443869373750235485 : Unit := ()
noncomputable def tw13243706044255152724 : Unit := ()
noncomputable def tw3995810908165641939 : Unit := ()
noncomputable def tw11108087429995662740 : Unit := ()
noncomputable def tw16066095854934114540 : Unit := ()
noncomputable def tw7475623739644772807 : Unit := ()
noncomputable def tw9231476272622744667 : Unit := ()
noncomputable def tw17668476583760802001 : Unit := ()
noncomputable def tw2401302395843606808 : Unit := ()
noncomputable def tw12189861986875159752 : Unit := ()
noncomputable def tw8335157912938354203 : Unit := ()
noncomputable def tw16728315216169485197 : Unit := ()
noncomputable def tw16112438978067046630 : Unit := ()
noncomputable def tw4144639594325188906 : Unit := ()
noncomputable def tw14231297881703154624 : Unit := ()
noncomputable def tw13067848441959647014 : Unit := ()
noncomputable def tw6517959032836355340 : Unit := ()
noncomputable def tw15421064498620464237 : Unit := ()
noncomputable def tw14202778602808844570 : Unit := ()
noncomputable def tw11373389338210027341 : Unit := ()
noncomputable def tw13918104968292370107 : Unit := ()
noncomputable def tw11217272095732448192 : Unit := ()
noncomputable def tw8390757196961692025 : Unit := ()
noncomputable def tw8075568018651887793 : Unit := ()
noncomputable def tw13176208133931580748 : Unit := ()
noncomputable def tw15884207680872600509 : Unit := ()
noncomputable def tw14716533136598631889 : Unit := ()
noncomputable def tw8085550606058117532 : Unit := ()
noncomputable def tw12433828457759356345 : Unit := ()
noncomputable def tw11528488451752631787 : Unit := ()
noncomputable def tw18342824457175038090 : Unit := ()
noncomputable def tw4680238724966861854 : Unit := ()
noncomputable def tw15984255792391922575 : Unit := ()
noncomputable def tw2399455718378687864 : Unit := ()
noncomputable def tw10420241082059234603 : Unit := ()
noncomputable def tw16878130851382304665 : Unit := ()
noncomputable def tw15521160417161045403 : Unit := ()
noncomputable def tw6939660025115816579 : Unit := ()
noncomputable def tw13829621676200016873 : Unit := ()
noncomputable def tw16846539821846815802 : Unit := ()
noncomputable def tw17874838350791296987 : Unit := ()
noncomputable def tw14838984575039231326 : Unit := ()
noncomputable def tw10224030104541689603 : Unit := ()
noncomputable def tw11963630139364354599 : Unit := ()
noncomputable def tw4560642881044584840 : Unit := ()
noncomputable def tw4602549060734353590 : Unit := ()
noncomputable def tw9777342823901513171 : Unit := ()
noncomputable def tw10598459744518675144 : Unit := ()
noncomputable def tw653444231786867403 : Unit := ()
noncomputable def tw16913369114829852307 : Unit := ()
noncomputable def tw2532903353051405521 : Unit := ()
noncomputable def tw17091090335857676849 : Unit := ()
noncomputable def tw1978660002322409258 : Unit := ()
noncomputable def tw3176374561651372323 : Unit := ()
noncomputable def tw16044911613162679600 : Unit := ()
noncomputable def tw12481906590253852855 : Unit := ()
noncomputable def tw15694202060336246641 : Unit := ()
noncomputable def tw15278229679430616108 : Unit := ()
noncomputable def tw9731500359519775419 : Unit := ()
noncomputable def tw8209614830571914417 : Unit := ()
noncomputable def tw8288016810238472466 : Unit := ()
noncomputable def tw6627205261214065518 : Unit := ()
noncomputable def tw18079279729669280809 : Unit := ()
noncomputable def tw11984064974057671316 : Unit := ()
noncomputable def tw5833897054116556055 : Unit := ()
noncomputable def tw13694978869893636256 : Unit := ()
noncomputable def tw15691049496128198776 : Unit := ()
noncomputable def tw13715413740454742181 : Unit := ()
noncomputable def tw8865434635733506415 : Unit := ()
noncomputable def tw11177930174760530737 : Unit := ()
noncomputable def tw12890658396133370666 : Unit := ()
noncomputable def tw3072249814668586834 : Unit := ()
noncomputable def tw14781313006273220039 : Unit := ()
noncomputable def tw16851655663402521415 : Unit := ()
noncomputable def tw7783883217943251617 : Unit := ()
noncomputable def tw8236263848862616803 : Unit := ()
noncomputable def tw7384642069373080838 : Unit := ()
noncomputable def tw10120076732270505994 : Unit := ()
noncomputable def tw5776463355285767977 : Unit := ()
noncomputable def tw11142376954669044090 : Unit := ()
noncomputable def tw16200734114935100802 : Unit := ()
noncomputable def tw3965391884536537640 : Unit := ()
noncomputable def tw14296672204901642662 : Unit := ()
noncomputable def tw12827809934463472950 : Unit := ()
noncomputable def tw17728750351391901753 : Unit := ()
noncomputable def tw8916281380846624123 : Unit := ()
noncomputable def tw2506153761314116045 : Unit := ()
noncomputable def tw14489449687476776479 : Unit := ()
noncomputable def tw5797071752105003053 : Unit := ()
noncomputable def tw15016808008680923700 : Unit := ()
noncomputable def tw13943158304907605201 : Unit := ()
noncomputable def tw9824613901083688302 : Unit := ()
noncomputable def tw12850834161379948960 : Unit := ()
noncomputable def tw2209665969161025386 : Unit := ()
noncomputable def tw4284374933804505972 : Unit := ()
noncomputable def tw597780909198310718 : Unit := ()
noncomputable def tw9338587306902128154 : Unit := ()
noncomputable def tw3158894792760106725 : Unit := ()
noncomputable def tw204191450789747797 : Unit := ()
noncomputable def tw6629664342035985291 : Unit := ()
noncomputable def tw6397365593751472251 : Unit := ()
noncomputable def tw5467994103897071615 : Unit := ()
noncomputable def tw18064401186147326840 : Unit := ()
noncomputable def tw14583221903571203304 : Unit := ()
noncomputable def tw5333494576215963259 : Unit := ()
noncomputable def tw6828678407936753604 : Unit := ()
noncomputable def tw2679991708574541124 : Unit := ()
noncomputable def tw14569675672680917355 : Unit := ()
noncomputable def tw4162167026933940543 : Unit := ()
noncomputable def tw2117309740184737289 : Unit := ()
noncomputable def tw6506141395639691339 : Unit := ()
noncomputable def tw17776631867106580447 : Unit := ()
noncomputable def tw10784348976936682881 : Unit := ()
noncomputable def tw12783866190049106835 : Unit := ()
noncomputable def tw6473541128379164389 : Unit := ()
noncomputable def tw7226853432596096856 : Unit := ()
noncomputable def tw3088446491616644562 : Unit := ()
noncomputable def tw11636454906206668535 : Unit := ()
noncomputable def tw8506332754651659606 : Unit := ()
noncomputable def tw17375041191141530546 : Unit := ()
noncomputable def tw3096282006729195192 : Unit := ()
noncomputable def tw3500530568871206288 : Unit := ()
noncomputable def tw4872939762536654635 : Unit := ()
noncomputable def tw16916702806737860536 : Unit := ()
noncomputable def tw5302760864655409040 : Unit := ()
noncomputable def tw3632450869816928718 : Unit := ()
noncomputable def tw10692463385126759142 : Unit := ()
noncomputable def tw12266010346532704769 : Unit := ()
noncomputable def tw7364318535318906497 : Unit := ()
noncomputable def tw11323366334480010924 : Unit := ()
noncomputable def tw17244396821920906841 : Unit := ()
noncomputable def tw230524551128575784 : Unit := ()
noncomputable def tw2558675378276488106 : Unit := ()
noncomputable def tw3738315020640567248 : Unit := ()
noncomputable def tw16581528624807868130 : Unit := ()
noncomputable def tw3299204171574085873 : Unit := ()
noncomputable def tw4114975015142033550 : Unit := ()
noncomputable def tw16734390365358150771 : Unit := ()
noncomputable def tw81735729573719979 : Unit := ()
noncomputable def tw16945190636834835913 : Unit := ()
noncomputable def tw16933557992886387739 : Unit := ()
noncomputable def tw6998738755222562158 : Unit := ()
noncomputable def tw14973425231370034654 : Unit := ()
noncomputable def tw16715942884677752768 : Unit := ()
noncomputable def tw3403388185804970805 : Unit := ()
noncomputable def tw2052831565146037888 : Unit := ()
noncomputable def tw12686698589879306974 : Unit := ()
noncomputable def tw6595299482246707301 : Unit := ()
noncomputable def tw1154618078218310146 : Unit := ()
noncomputable def tw7037573811565806968 : Unit := ()
noncomputable def tw12584159435517584487 : Unit := ()
end law_holds
set_option Elab.async true in
set_option maxHeartbeats 8000000 in
theorem law_holds : PySem.Challenge.rw_nu0067_01.Holds := by
  w_on; o_law; o_head (kHook Mine.hd.heap_39 [2, 3, 15, 17, 18, 20, 21, 22, 23, 24, 25, 26, 27, 28, 29, 30, 31, 32, 33, 34, 35, 36, 37, 38, 39, 40, 41, 42, 43, 45, 46, 48, 49, 50, 52, 53, 55, 56, 57, 59, 60, 62, 63, 64, 66, 67, 69, 70, 71, 73, 74, 76, 77, 78, 80, 81, 83, 84, 85, 87, 88, 90, 91, 92, 99, 101, 102, 104, 105, 106, 107, 108, 109, 112, 119, 120, 122, 123, 125, 126, 127, 128, 129, 132, 139, 140, 141, 144, 151, 152, 153, 156, 158, 159, 161, 162, 163, 165, 166, 168, 169, 170, 173, 174, 175, 176, 178, 179, 181, 182, 183, 185, 186, 188, 189, 197, 199, 200, 202, 203, 204, 206, 207, 209, 210, 211, 213, 214, 216, 217, 218, 220, 221, 223, 224, 225, 227, 228, 230, 231, 232, 233, 234, 235, 236, 246, 248, 249, 251, 252, 253, 255, 256, 258, 259, 260, 262, 263, 265, 266, 267, 269, 270, 272, 273, 274, 275, 276, 277, 278, 288, 290, 291, 293, 294, 295, 297, 298, 300, 301, 302, 304, 305, 307, 308, 309, 310, 311, 312, 313, 316, 318, 319, 321, 322, 323, 324, 326, 327, 329, 330, 331, 333, 334, 336, 337, 338, 340, 341, 343, 344, 352, 353, 355, 356, 358, 359, 360, 361, 362, 363, 364, 374, 376, 377, 379, 380, 381, 383, 384, 386, 387, 388, 390, 391, 393, 394, 395, 396, 397, 398, 399, 402, 404, 405, 407, 408, 409, 411, 412, 414, 415, 423, 424, 426, 427, 429, 430, 431, 432, 434, 435, 437, 438, 439, 441, 442, 444, 445, 446, 448, 449, 451, 452, 453, 455, 456, 458, 459, 460, 462, 463, 465, 466, 467, 469, 470, 472, 473, 474, 476, 477, 479, 480, 481, 483, 484, 486, 487, 488, 490, 491, 493, 494, 495, 496, 497, 498, 499, 502, 504, 505, 507, 508, 509, 511, 512, 514, 515, 516, 518, 519, 521, 522, 523, 525, 526, 528, 529, 530, 532, 533, 535, 536, 537, 539, 540, 542, 543, 544, 546, 547, 549, 550, 551, 553, 554, 556, 557, 558, 560, 561, 563, 564] (fun _ => by kernel_rfl))
  (case hw => w_witness2)
  k_go0
  all_goals (try k_fold)
  k_steps
  refine Halt.at ?_
  rename Heap.IsList _ _ _ => hL
  rename IntsAre _ _ => hI
  rename Below _ _ _ _ => K0
  rename Fr _ _ _ _ => F0
  rename Frag.In _ _ => KX
  rename Top _ _ _ _ _ _ => TT
  replace TT := top_view (V' := Mine.hd.view_39) (by kernel_rfl) TT
  rename ¬ _ < _ => hc63
  rename_i pv744_39 pv744_38 pv744_37 pv744_36 pv744_35 pv744_34 pv744_33 pv744_32 pv744_31 _ _ pv744_30 pv744_29 pv744_28 pv744_27 pv744_26 pv744_25 pv744_24 pv744_23 pv744_22 pv744_21 pv744_20 pv744_19 pv744_18 pv744_17 _ pv744_16 pv744_15 pv744_14 _ pv744_13 _ _ pv744_12 pv744_11 pv744_10 pv744_9 pv744_8 pv744_7 pv744_6 pv744_5 pv744_4 _ pv744_3 pv744_2 pv744_1
  revert pv744_34 pv744_33 pv744_29 pv744_28 KX pv744_27 pv744_26 pv744_25 pv744_24 pv744_23 pv744_22 pv744_21 pv744_18 pv744_16 pv744_14 pv744_13 hL pv744_7 pv744_6 pv744_5 hI pv744_4 hc63 K0 pv744_3 F0 pv744_1 TT
  revert pv744_39 pv744_38 pv744_37 pv744_36 pv744_35 pv744_32 pv744_31 pv744_30 pv744_20 pv744_19 pv744_17 pv744_15 pv744_12 pv744_11 pv744_10 pv744_9 pv744_8 pv744_2
  refine @pick18 _ _ _ _ _ _ _ _ _ _ _ _ _ _ _ _ _ _ _ ?ne744 ?_
  (case ne744 => walk_at "ne")
  generalize ck18 _ = tU
  generalize hd2 tU = pv744_39, tl2 tU = tU
  generalize hd2 tU = pv744_38, tl2 tU = tU
  generalize hd2 tU = pv744_37, tl2 tU = tU
  generalize hd2 tU = pv744_36, tl2 tU = tU
  generalize hd2 tU = pv744_35, tl2 tU = tU
  generalize hd2 tU = pv744_32, tl2 tU = tU
  generalize hd2 tU = pv744_31, tl2 tU = tU
  generalize hd2 tU = pv744_30, tl2 tU = tU
  generalize hd2 tU = pv744_20, tl2 tU = tU
  generalize hd2 tU = pv744_19, tl2 tU = tU
  generalize hd2 tU = pv744_17, tl2 tU = tU
  generalize hd2 tU = pv744_15, tl2 tU = tU
  generalize hd2 tU = pv744_12, tl2 tU = tU
  generalize hd2 tU = pv744_11, tl2 tU = tU
  generalize hd2 tU = pv744_10, tl2 tU = tU
  generalize hd2 tU = pv744_9, tl2 tU = tU
  generalize hd2 tU = pv744_8, tl2 tU = pv744_2
  intro pv744_34 pv744_33 pv744_29 pv744_28 KX pv744_27 pv744_26 pv744_25 pv744_24 pv744_23 pv744_22 pv744_21 pv744_18 pv744_16 pv744_14 pv744_13 hL pv744_7 pv744_6 pv744_5 hI pv744_4 hc63 K0 pv744_3 F0 pv744_1 TT
  refine pool_ctr _ _ _ _ _ _ _ _ _ _ _ _ _ _ _ _ _ hL hI hc63 K0 F0 KX TT rfl (by decide) (by decide) ?_
  intro src x y tx ty n0 h' tk' hx hy hy2 F1 N1
  k_sweep
  revert hx hy hy2 F1 N1
  revert src x y tx ty n0 h' tk'
  refine @pick8 _ _ _ _ _ _ _ _ _ ?ne748 ?_
  (case ne748 => walk_at "ne")
  generalize ck8 _ = tU
  generalize hd2 tU = src, tl2 tU = tU
  generalize hd2 tU = x, tl2 tU = tU
  generalize hd2 tU = y, tl2 tU = tU
  generalize hd2 tU = tx, tl2 tU = tU
  generalize hd2 tU = ty, tl2 tU = tU
  generalize hd2 tU = n0, tl2 tU = tU
  generalize hd2 tU = h', tl2 tU = tk'
  intro hx hy hy2 F1 N1
  k_steps
  refine Halt.at ?_
  refine CtrT.use (texts_ctr (rest := []) (fun _ h => nomatch h) hx hy hy2) (by k_asm) trivial ?_
  refine rtt_EEEEEEEEEvpppppppppn ?_
  intro tl fv nf x2 y2 tx2 ty2 n2 Ts h' tk2 hle2 hx2 hy2 hy22 hn2 hn4 hT hX hst _ F2 N2
  k_sweep
  rename_i pv755_3 pv755_2 pv755_1
  have dum12 : Unit := ()
  have dum13 : Unit := ()
  revert pv755_2 hle2 hx2 hy2 hy22 hn2 hn4 hT hX hst pv755_1 F2 N2
  revert pv755_3 tl fv nf x2 y2 tx2 ty2 n2 Ts h' tk2 dum12 dum13
  refine @pick14 _ _ _ _ _ _ _ _ _ _ _ _ _ _ _ ?ne755 ?_
  (case ne755 => walk_at "ne")
  generalize ck14 _ = tU
  generalize hd2 tU = pv755_3, tl2 tU = tU
  generalize hd2 tU = tl, tl2 tU = tU
  generalize hd2 tU = fv, tl2 tU = tU
  generalize hd2 tU = nf, tl2 tU = tU
  generalize hd2 tU = x2, tl2 tU = tU
  generalize hd2 tU = y2, tl2 tU = tU
  generalize hd2 tU = tx2, tl2 tU = tU
  generalize hd2 tU = ty2, tl2 tU = tU
  generalize hd2 tU = n2, tl2 tU = tU
  generalize hd2 tU = Ts, tl2 tU = tU
  generalize hd2 tU = h', tl2 tU = tU
  generalize hd2 tU = tk2
  intro pv755_2 hle2 hx2 hy2 hy22 hn2 hn4 hT hX hst pv755_1 F2 N2
  have hn14 : Ts.length - 1 < 4 := by omega
  have he9 : (Ts.length : Int) - 1 = ((Ts.length - 1 : Nat) : Int) := by omega
  have hfn := hX.len
  have hfl : fv.length ≤ 1000 := by omega
  generalize hnn : Ts.length = n at *
  k_steps
  refine Halt.at ?_
  rename News _ _ _ _ => NN
  refine Ctr.useT (take_ctr (rest := [(tl, listOf fv.toArray nf)]) (List.forall_mem_singleton.mpr (Ne.symm hst)) hx2 hy2 hy22 (by decide) (by decide)) (news_sub NN (by walk_at "perm")) (fun _ _ h => h) ?_
  refine rtl_EEEEEEEvpppppn ?_
  intro d td x3 y3 tx3 ty3 n3 hd0 hd1 hx3 hy3 hy32 h' tk3 hle3 F3 N3
  k_sweep
  rename_i pv768_4 pv768_3 _ pv768_2 pv768_1
  have dum12 : Unit := ()
  have dum13 : Unit := ()
  revert hnn hn2 hn4 hT hn14 he9 hfn pv768_3 pv768_1 hd0 hd1 hx3 hy3 hy32 hle3 F3 N3
  revert n pv768_4 pv768_2 d td x3 y3 tx3 ty3 n3 h' tk3 dum12 dum13
  refine @pick14 _ _ _ _ _ _ _ _ _ _ _ _ _ _ _ ?ne768 ?_
  (case ne768 => walk_at "ne")
  generalize ck14 _ = tU
  generalize hd2 tU = n, tl2 tU = tU
  generalize hd2 tU = pv768_4, tl2 tU = tU
  generalize hd2 tU = pv768_2, tl2 tU = tU
  generalize hd2 tU = d, tl2 tU = tU
  generalize hd2 tU = td, tl2 tU = tU
  generalize hd2 tU = x3, tl2 tU = tU
  generalize hd2 tU = y3, tl2 tU = tU
  generalize hd2 tU = tx3, tl2 tU = tU
  generalize hd2 tU = ty3, tl2 tU = tU
  generalize hd2 tU = n3, tl2 tU = tU
  generalize hd2 tU = h', tl2 tU = tU
  generalize hd2 tU = tk3
  intro hnn hn2 hn4 hT hn14 he9 hfn pv768_3 pv768_1 hd0 hd1 hx3 hy3 hy32 hle3 F3 N3
  refine rtx_Ep ?_ (show ∃ r : Nat, 1 + d = (r : Int) from Int.eq_ofNat_of_zero_le (Int.add_nonneg (by decide) hd0))
  intro r hr
  have hr1 : 1 ≤ r := by omega
  have hr2 : r ≤ 2 := by omega
  k_steps
  refine Halt.at ?_
  have hRB := raw_built (m := n - 1) hr1 hr2
  rw [show n - 1 + 1 = n by omega] at hRB
  refine rtx_ppp ?_ (hRB)
  intro hW hWr hWc
  rename News _ _ _ _ => NN
  refine wpAny_T ?_
  refine join_listW (ys := List.replicate r (rtext (n - 1))) (News.isList NN (.head _)) (strsAre_rep _ _ r) (by decide) ?_ ?_
  · have : r = 1 ∨ r = 2 := by omega
    rcases this with rfl | rfl <;> simp [rtext, Str.length]
  generalize Txt.join (Str.ofString "m") (List.replicate r (rtext (n - 1))) = raw at hWc
  generalize hWW : rawIts (n - 1) r = W at hW hWr hWc
  intro tr tkr hler
  dsimp only at hler
  have NN2 := news_sub (news := [(tl, listOf fv.toArray nf), (src, listOf #[Value.int x3 tx3, Value.int y3 ty3] n3)]) NN (by walk_at "perm")
  clear NN
  k_sweep
  k_steps
  refine Halt.at ?_
  refine rtx_ppp ?_ (txts_facts hX hnn hT)
  intro ht1 ht2 ht3
  refine CtrT.use (plain_ctr (rest := [(src, listOf #[Value.int x3 tx3, Value.int y3 ty3] n3)]) (List.forall_mem_singleton.mpr hst) hnn hn4 hT hW (by omega) hWc) (by k_asm) (hX.mono (by (try dsimp only); omega)) ?_
  refine rtt_EEvpn ?_
  intro xd td4 h' tk4 hle4 hxd F4 N4
  rename_i pv798_5 pv798_4 _ _ _ _ _ _ _ pv798_3 _ pv798_2 pv798_1
  clear pv798_3
  revert hr hr1 hr2 pv798_4 hRB hWW hW hWr hWc hler pv798_1 hle4 hxd F4 N4
  revert r pv798_5 raw W tr tkr pv798_2 xd td4 h' tk4
  refine @pick11 _ _ _ _ _ _ _ _ _ _ _ _ ?ne798 ?_
  (case ne798 => walk_at "ne")
  generalize ck11 _ = tU
  generalize hd2 tU = r, tl2 tU = tU
  generalize hd2 tU = pv798_5, tl2 tU = tU
  generalize hd2 tU = raw, tl2 tU = tU
  generalize hd2 tU = W, tl2 tU = tU
  generalize hd2 tU = tr, tl2 tU = tU
  generalize hd2 tU = tkr, tl2 tU = tU
  generalize hd2 tU = pv798_2, tl2 tU = tU
  generalize hd2 tU = xd, tl2 tU = tU
  generalize hd2 tU = td4, tl2 tU = tU
  generalize hd2 tU = h', tl2 tU = tk4
  intro hr hr1 hr2 pv798_4 hRB hWW hW hWr hWc hler pv798_1 hle4 hxd F4 N4
  rw [due_is hT hW (by omega)] at hxd
  have hxd := str_of hxd
  subst hxd
  k_sweep
  k_steps
  refine Halt.at ?_
  refine Ctr.use (sizes_ctr (rest := [(src, listOf #[Value.int x3 tx3, Value.int y3 ty3] n3)]) (List.forall_mem_singleton.mpr hst) hfn hn4 (by omega) ht1 ht2 hT) (by k_asm) ?_ (by rintro _ _ _ _ _ _ _ _ ⟨⟩)
  refine rts_EEEEvpppn ?_
  intro D n5 vs5 t5 hvl hDs htD h' tk5 F5 N5
  revert hvl hDs htD F5 N5
  revert D n5 vs5 t5 h' tk5
  refine @pick6 _ _ _ _ _ _ _ ?ne808 ?_
  (case ne808 => walk_at "ne")
  generalize ck6 _ = tU
  generalize hd2 tU = D, tl2 tU = tU
  generalize hd2 tU = n5, tl2 tU = tU
  generalize hd2 tU = vs5, tl2 tU = tU
  generalize hd2 tU = t5, tl2 tU = tU
  generalize hd2 tU = h', tl2 tU = tk5
  intro hvl hDs htD F5 N5
  have hce := cost_le4 hT (k := n - 1) (by omega) (by omega)
  have hcp := cost_pos hT (k := n - 1) (by omega) (by omega)
  k_sweep
  k_steps
  have hS : ((cost (fun k => Ts.getD k []) (n - 1) : Nat) : Int) * (1 + d) = ((refs W * cost (fun k => Ts.getD k []) (n - 1) : Nat) : Int) := by
    rw [hr, hWr, Int.natCast_mul, Int.mul_comm]
  have hCp : (1 : Int) ≤ ((refs W * cost (fun k => Ts.getD k []) (n - 1) : Nat) : Int) := by
    rw [← hS, hr, ← Int.natCast_mul]
    have : 1 * 1 ≤ cost (fun k => Ts.getD k []) (n - 1) * r := Nat.mul_le_mul hcp hr1
    omega
  have hCm : ((refs W * cost (fun k => Ts.getD k []) (n - 1) : Nat) : Int) ≤ 1000 := by
    rw [← hS, hr, ← Int.natCast_mul]
    have : cost (fun k => Ts.getD k []) (n - 1) * r ≤ 300 * 2 := Nat.mul_le_mul hce hr2
    omega
  refine rtx_oEppcoEppcoEppcoEppcoEppcoEppc ?_ (six_runs hT hW hn2 hn4 rfl hS hCp)
  intro f1 f2 f3 f4 f5 f6 hf1 hE1 hf2 hE2 hf3 hE3 hf4 hE4 hf5 hE5 hf6 hE6
  generalize ((refs W * cost (fun k => Ts.getD k []) (n - 1) : Nat) : Int) = C at *
  generalize ((cost (fun k => Ts.getD k []) (n - 1) : Nat) : Int) * (1 + d) = S at *
  generalize fill (full (fun k => Ts.getD k []) (n - 1)) W = f at *
  have hWok := raw_ok hW (by omega)
  have hWl := short_of hWc hW.len
  have hDD : Dis [(tl, listOf fv.toArray nf), (src, listOf #[Value.int x3 tx3, Value.int y3 ty3] n3)] := dis_cons (List.forall_mem_singleton.mpr hst) (dis_cons (fun _ h => nomatch h) dis_nil)
  clear hce hcp hDs htD hWr hW
  refine Halt.at ?_
  refine Ctr.use (mktab_ctr (n := n) (rest := [(src, listOf #[Value.int x3 tx3, Value.int y3 ty3] n3)]) hDD hfn hn4 ht1) (news_sub (by k_asm) (by walk_at "perm")) ?_ (by rintro _ _ _ _ _ _ _ _ ⟨⟩)
  refine rts_EEEEEEEEEEEEEEvpppn ?_
  intro tb lim dl ql u1 u2 td6 q ou gnn pa c oou opa hEn hlo hDi h' tkA1 F6 N6
  k_sweep
  have dum25 : Unit := ()
  have dum26 : Unit := ()
  revert hf1 hf2 hf3 hf4 hf5 hf6 hCp hCm hE2 hE3 hS hE6 hxd hE1 hE4 hE5 hEn hlo hDi F6 N6
  revert f1 f2 f3 f4 f5 f6 C S f tb lim dl ql u1 u2 td6 q ou gnn pa c oou opa h' tkA1 dum25 dum26
  refine @pick27 _ _ _ _ _ _ _ _ _ _ _ _ _ _ _ _ _ _ _ _ _ _ _ _ _ _ _ _ ?ne837 ?_
  (case ne837 => walk_at "ne")
  generalize ck27 _ = tU
  generalize hd2 tU = f1, tl2 tU = tU
  generalize hd2 tU = f2, tl2 tU = tU
  generalize hd2 tU = f3, tl2 tU = tU
  generalize hd2 tU = f4, tl2 tU = tU
  generalize hd2 tU = f5, tl2 tU = tU
  generalize hd2 tU = f6, tl2 tU = tU
  generalize hd2 tU = C, tl2 tU = tU
  generalize hd2 tU = S, tl2 tU = tU
  generalize hd2 tU = f, tl2 tU = tU
  generalize hd2 tU = tb, tl2 tU = tU
  generalize hd2 tU = lim, tl2 tU = tU
  generalize hd2 tU = dl, tl2 tU = tU
  generalize hd2 tU = ql, tl2 tU = tU
  generalize hd2 tU = u1, tl2 tU = tU
  generalize hd2 tU = u2, tl2 tU = tU
  generalize hd2 tU = td6, tl2 tU = tU
  generalize hd2 tU = q, tl2 tU = tU
  generalize hd2 tU = ou, tl2 tU = tU
  generalize hd2 tU = gnn, tl2 tU = tU
  generalize hd2 tU = pa, tl2 tU = tU
  generalize hd2 tU = c, tl2 tU = tU
  generalize hd2 tU = oou, tl2 tU = tU
  generalize hd2 tU = opa, tl2 tU = tU
  generalize hd2 tU = h', tl2 tU = tU
  generalize hd2 tU = tkA1
  intro hf1 hf2 hf3 hf4 hf5 hf6 hCp hCm hE2 hE3 hS hE6 hxd hE1 hE4 hE5 hEn hlo hDi F6 N6
  refine rtx_Epppp ?_ (tab_pack hEn hlo hDi N6)
  intro RT hTab hDi2 hsub N7
  have hRT : IsRest RT := trivial
  clear hEn hDi N6
  k_steps
  refine Halt.at ?_
  refine CtrS.use0 (told_ctr (g := .fresh) (sz := 0) (tlim := lim) (rest := RT) (out := .txt f C) (fun _ => ⟨rfl, rfl⟩) hDi2 hTab hn4 (by omega) hWc hWok hWl ht3 hE1 hf1) (by k_asm) (by k_asm) K0 KX TT KX TT ?_
  refine rts_oEvcEEn ?_
  intro v7 w7 z7 h' tkB1 F7 N8
  replace N8 := news_sub (news := [(tl, listOf fv.toArray nf), (src, listOf #[Value.int x3 tx3, Value.int y3 ty3] n3)]) N8 ((fmc (.tail _ (.tail _ (hsub _ (.tail _ (.tail _ (.head _)))))) (List.forall_mem_singleton.mpr (.tail _ (.tail _ (hsub _ (.tail _ (.tail _ (.tail _ (.head _))))))))))
  k_sweep
  have dum3 : Unit := ()
  revert pv744_24 K0 F7 N8
  revert v7 h' tkB1 dum3
  refine @pick4 _ _ _ _ _ ?ne849 ?_
  (case ne849 => walk_at "ne")
  generalize ck4 _ = tU
  generalize hd2 tU = v7, tl2 tU = tU
  generalize hd2 tU = h', tl2 tU = tU
  generalize hd2 tU = tkB1
  intro pv744_24 K0 F7 N8
  clear hTab hDi2 hsub hRT
  k_steps
  refine Halt.at ?_
  refine Ctr.use (mktab_ctr (n := n) (rest := [(src, listOf #[Value.int x3 tx3, Value.int y3 ty3] n3)]) hDD hfn hn4 ht1) (by k_asm) ?_ (by rintro _ _ _ _ _ _ _ _ ⟨⟩)
  refine rts_EEEEEEEEEEEEEEvpppn ?_
  intro tb lim dl ql u1 u2 td6 q ou gnn pa c oou opa hEn hlo hDi h' tkA2 F6 N6
  k_sweep
  have dum16 : Unit := ()
  have dum17 : Unit := ()
  revert pv744_24 K0 hEn hlo hDi F6 N6
  revert tb lim dl ql u1 u2 td6 q ou gnn pa c oou opa h' tkA2 dum16 dum17
  refine @pick18 _ _ _ _ _ _ _ _ _ _ _ _ _ _ _ _ _ _ _ ?ne857 ?_
  (case ne857 => walk_at "ne")
  generalize ck18 _ = tU
  generalize hd2 tU = tb, tl2 tU = tU
  generalize hd2 tU = lim, tl2 tU = tU
  generalize hd2 tU = dl, tl2 tU = tU
  generalize hd2 tU = ql, tl2 tU = tU
  generalize hd2 tU = u1, tl2 tU = tU
  generalize hd2 tU = u2, tl2 tU = tU
  generalize hd2 tU = td6, tl2 tU = tU
  generalize hd2 tU = q, tl2 tU = tU
  generalize hd2 tU = ou, tl2 tU = tU
  generalize hd2 tU = gnn, tl2 tU = tU
  generalize hd2 tU = pa, tl2 tU = tU
  generalize hd2 tU = c, tl2 tU = tU
  generalize hd2 tU = oou, tl2 tU = tU
  generalize hd2 tU = opa, tl2 tU = tU
  generalize hd2 tU = h', tl2 tU = tU
  generalize hd2 tU = tkA2
  intro pv744_24 K0 hEn hlo hDi F6 N6
  refine rtx_Epppp ?_ (tab_pack hEn hlo hDi N6)
  intro RT hTab hDi2 hsub N7
  have hRT : IsRest RT := trivial
  clear hEn hDi N6
  k_steps
  refine Halt.at ?_
  refine CtrS.use0 (told_ctr (g := .fresh) (sz := 0) (tlim := lim) (rest := RT) (out := .lim) (fun _ => ⟨rfl, rfl⟩) hDi2 hTab hn4 (by omega) hWc hWok hWl ht3 hE2 hf2) (by k_asm) (by k_asm) K0 KX TT KX TT ?_
  refine rts_oEvcn ?_
  intro v9 h' tkB2 F7 N8
  replace N8 := news_sub (news := [(tl, listOf fv.toArray nf), (src, listOf #[Value.int x3 tx3, Value.int y3 ty3] n3)]) N8 ((fmc (.tail _ (.tail _ (hsub _ (.tail _ (.tail _ (.head _)))))) (List.forall_mem_singleton.mpr (.tail _ (.tail _ (hsub _ (.tail _ (.tail _ (.tail _ (.head _))))))))))
  k_sweep
  have dum3 : Unit := ()
  revert pv744_24 K0 F7 N8
  revert v9 h' tkB2 dum3
  refine @pick4 _ _ _ _ _ ?ne869 ?_
  (case ne869 => walk_at "ne")
  generalize ck4 _ = tU
  generalize hd2 tU = v9, tl2 tU = tU
  generalize hd2 tU = h', tl2 tU = tU
  generalize hd2 tU = tkB2
  intro pv744_24 K0 F7 N8
  clear hTab hDi2 hsub hRT
  k_steps
  refine Halt.at ?_
  refine Ctr.use (mktab_ctr (n := n) (rest := [(src, listOf #[Value.int x3 tx3, Value.int y3 ty3] n3)]) hDD hfn hn4 ht1) (by k_asm) ?_ (by rintro _ _ _ _ _ _ _ _ ⟨⟩)
  refine rts_EEEEEEEEEEEEEEvpppn ?_
  intro tb lim dl ql u1 u2 td6 q ou gnn pa c oou opa hEn hlo hDi h' tkA3 F6 N6
  k_sweep
  have dum16 : Unit := ()
  have dum17 : Unit := ()
  revert pv744_24 K0 hEn hlo hDi F6 N6
  revert tb lim dl ql u1 u2 td6 q ou gnn pa c oou opa h' tkA3 dum16 dum17
  refine @pick18 _ _ _ _ _ _ _ _ _ _ _ _ _ _ _ _ _ _ _ ?ne877 ?_
  (case ne877 => walk_at "ne")
  generalize ck18 _ = tU
  generalize hd2 tU = tb, tl2 tU = tU
  generalize hd2 tU = lim, tl2 tU = tU
  generalize hd2 tU = dl, tl2 tU = tU
  generalize hd2 tU = ql, tl2 tU = tU
  generalize hd2 tU = u1, tl2 tU = tU
  generalize hd2 tU = u2, tl2 tU = tU
  generalize hd2 tU = td6, tl2 tU = tU
  generalize hd2 tU = q, tl2 tU = tU
  generalize hd2 tU = ou, tl2 tU = tU
  generalize hd2 tU = gnn, tl2 tU = tU
  generalize hd2 tU = pa, tl2 tU = tU
  generalize hd2 tU = c, tl2 tU = tU
  generalize hd2 tU = oou, tl2 tU = tU
  generalize hd2 tU = opa, tl2 tU = tU
  generalize hd2 tU = h', tl2 tU = tU
  generalize hd2 tU = tkA3
  intro pv744_24 K0 hEn hlo hDi F6 N6
  refine rtx_Epppp ?_ (tab_pack hEn hlo hDi N6)
  intro RT hTab hDi2 hsub N7
  have hRT : IsRest RT := trivial
  clear hEn hDi N6
  k_steps
  refine Halt.at ?_
  refine CtrS.use0 (told_ctr (g := .fresh) (sz := 0) (tlim := lim) (rest := RT) (out := .lim) (fun _ => ⟨rfl, rfl⟩) hDi2 hTab hn4 (by omega) hWc hWok hWl ht3 hE3 hf3) (by k_asm) (by k_asm) K0 KX TT KX TT ?_
  refine rts_oEvcn ?_
  intro v10 h' tkB3 F7 N8
  replace N8 := news_sub (news := [(tl, listOf fv.toArray nf), (src, listOf #[Value.int x3 tx3, Value.int y3 ty3] n3)]) N8 ((fmc (.tail _ (.tail _ (hsub _ (.tail _ (.tail _ (.head _)))))) (List.forall_mem_singleton.mpr (.tail _ (.tail _ (hsub _ (.tail _ (.tail _ (.tail _ (.head _))))))))))
  k_sweep
  have dum3 : Unit := ()
  revert pv744_24 K0 F7 N8
  revert v10 h' tkB3 dum3
  refine @pick4 _ _ _ _ _ ?ne889 ?_
  (case ne889 => walk_at "ne")
  generalize ck4 _ = tU
  generalize hd2 tU = v10, tl2 tU = tU
  generalize hd2 tU = h', tl2 tU = tU
  generalize hd2 tU = tkB3
  intro pv744_24 K0 F7 N8
  clear hTab hDi2 hsub hRT
  k_steps
  refine Halt.at ?_
  refine Ctr.use (mktab_ctr (n := n) (rest := [(src, listOf #[Value.int x3 tx3, Value.int y3 ty3] n3)]) hDD hfn hn4 ht1) (by k_asm) ?_ (by rintro _ _ _ _ _ _ _ _ ⟨⟩)
  refine rts_EEEEEEEEEEEEEEvpppn ?_
  intro tb lim dl ql u1 u2 td6 q ou gnn pa c oou opa hEn hlo hDi h' tkA4 F6 N6
  k_sweep
  have dum16 : Unit := ()
  have dum17 : Unit := ()
  revert pv744_24 K0 hEn hlo hDi F6 N6
  revert tb lim dl ql u1 u2 td6 q ou gnn pa c oou opa h' tkA4 dum16 dum17
  refine @pick18 _ _ _ _ _ _ _ _ _ _ _ _ _ _ _ _ _ _ _ ?ne897 ?_
  (case ne897 => walk_at "ne")
  generalize ck18 _ = tU
  generalize hd2 tU = tb, tl2 tU = tU
  generalize hd2 tU = lim, tl2 tU = tU
  generalize hd2 tU = dl, tl2 tU = tU
  generalize hd2 tU = ql, tl2 tU = tU
  generalize hd2 tU = u1, tl2 tU = tU
  generalize hd2 tU = u2, tl2 tU = tU
  generalize hd2 tU = td6, tl2 tU = tU
  generalize hd2 tU = q, tl2 tU = tU
  generalize hd2 tU = ou, tl2 tU = tU
  generalize hd2 tU = gnn, tl2 tU = tU
  generalize hd2 tU = pa, tl2 tU = tU
  generalize hd2 tU = c, tl2 tU = tU
  generalize hd2 tU = oou, tl2 tU = tU
  generalize hd2 tU = opa, tl2 tU = tU
  generalize hd2 tU = h', tl2 tU = tU
  generalize hd2 tU = tkA4
  intro pv744_24 K0 hEn hlo hDi F6 N6
  refine rtx_Epppp ?_ (tab_pack hEn hlo hDi N6)
  intro RT hTab hDi2 hsub N7
  have hRT : IsRest RT := trivial
  clear hEn hDi N6
  k_steps
  refine Halt.at ?_
  rename_i gr dg a1 a2 a3 a4 a5 a6 a7 a8 a9 a10 a11 a12 a14 a15 a16 a17 a18 a19 a20 ol a21 a22 a23 a24 a25 a26 a27 a28 a29 a30 a31 a32 a33 a34 a35 ax a36 Fz Nz l1z
  clear a7 a8 a9 a10 a11 a12 a24 a25 a26 a27
  refine rtx_Ep ?_ (fr_map5 Fz (a := Str.ofString "raw") (b := Str.ofString "table") (c := Str.ofString "growth") (d := Str.ofString "source") (e := Str.ofString "texts") rfl rfl rfl rfl rfl)
  intro g0 hg0
  replace Fz := fr_eq Fz hg0
  clear hg0
  refine rtx_EEEEEEEpp ?_ (show ∃ lim2 dl2 qg ql2 tsg u3 u4, News _ _ _ ((ax, listOf #[Value.str ⟨f.toArray⟩ td4, Value.str ⟨f.toArray⟩ td4, Value.int 1 a34] 0) :: (gr, instObj 234 dg) :: (dg, grD qg lim2 0 tsg ol) :: (ol, listOf ([] : List Value).toArray 0) :: (lim2, instObj 362 dl2) :: (dl2, liD ql2 n u3 (2 * S) u4) :: (lim, instObj 362 dl) :: (dl, liD ql n u1 S u2) :: RT) ∧
      Dis ((ax, listOf #[Value.str ⟨f.toArray⟩ td4, Value.str ⟨f.toArray⟩ td4, Value.int 1 a34] 0) :: (gr, instObj 234 dg) :: (dg, grD qg lim2 0 tsg ol) :: (ol, listOf ([] : List Value).toArray 0) :: (lim2, instObj 362 dl2) :: (dl2, liD ql2 n u3 (2 * S) u4) :: (lim, instObj 362 dl) :: (dl, liD ql n u1 S u2) :: RT) from ⟨_, _, ⟨_, _, _, _, _, _⟩, ⟨_, _, _, _, 0, 0⟩, _, _, _, news_sub Nz ((fmc (.head _) ((fmc (.tail _ (.tail _ (.tail _ (.head _)))) ((fmc (.tail _ (.tail _ (.tail _ (.tail _ (.head _))))) ((fmc (.tail _ (.tail _ (.head _))) ((fmc (.tail _ (.tail _ (.tail _ (.tail _ (.tail _ (.head _)))))) ((fmc (.tail _ (.tail _ (.tail _ (.tail _ (.tail _ (.tail _ (.head _))))))) (fun p hp => .tail _ (.tail _ (.tail _ (.tail _ (.tail _ (.tail _ (.tail _ hp))))))))))))))))))), ?hD9⟩)
  (case hD9 => refine dis_cons ?_ (dis_cons ?_ (dis_cons ?_ (dis_cons ?_ (dis_cons ?_ (dis_cons ?_ hDi2))))) <;> walk_at "disall")
  intro lim2 dl2 qg ql2 tsg u3 u4 N9 hD9
  clear Nz l1z
  generalize hLO : listOf #[Value.str ⟨f.toArray⟩ td4, Value.str ⟨f.toArray⟩ td4, Value.int 1 a34] 0 = LO at N9 hD9
  refine iter_listUnr (lo := LO) (n := 0) (vs := [Value.str ⟨f.toArray⟩ td4, Value.str ⟨f.toArray⟩ td4, Value.int 1 a34]) rfl Fz N9 (.head _) (by rw [← hLO]) (by rw [← hLO]) ?_
  clear hLO Fz
  intro I hI
  have hDI : ∀ it, Dis ((I, it) :: (ax, LO) :: (gr, instObj 234 dg) :: (dg, grD qg lim2 0 tsg ol) :: (ol, listOf ([] : List Value).toArray 0) :: (lim2, instObj 362 dl2) :: (dl2, liD ql2 n u3 (2 * S) u4) :: (lim, instObj 362 dl) :: (dl, liD ql n u1 S u2) :: RT) := fun it => dis_cons (fun p hp => Nat.ne_of_lt (hI p hp)) hD9
  have hRi : ∀ p ∈ (gr, instObj 234 dg) :: (dg, grD qg lim2 0 tsg ol) :: (ol, listOf ([] : List Value).toArray 0) :: (lim2, instObj 362 dl2) :: (dl2, liD ql2 n u3 (2 * S) u4) :: (lim, instObj 362 dl) :: (dl, liD ql n u1 S u2) :: RT, p.1 ≠ I := fun p hp => Nat.ne_of_lt (hI p (.tail _ hp))
  have hax : ax ≠ I := Nat.ne_of_lt (hI (ax, LO) (.head _))
  have hDa : ∀ (it o1 o2 : Obj), Dis ([(gr, instObj 234 dg), (dg, o1), (ol, o2)] ++ (lim2, instObj 362 dl2) :: (dl2, liD ql2 n u3 (2 * S) u4) :: (I, it) :: (ax, LO) :: (lim, instObj 362 dl) :: (dl, liD ql n u1 S u2) :: RT) := fun it o1 o2 =>
    dis_perm (hDI it) ((List.perm_append_comm (l₁ := [gr, dg, ol, lim2, dl2]) (l₂ := [I, ax])).append_right (lim :: dl :: RT.map fun x : Addr × Obj => x.1))
  have hTb : ∀ it : Obj, IsTab _ tb lim n (txtOf fv) ((I, it) :: (ax, LO) :: (lim, instObj 362 dl) :: (dl, liD ql n u1 S u2) :: RT) := fun it => hTab.mono fun _ hp => .tail _ (.tail _ (.tail _ (.tail _ hp)))
  have hoff : ∀ o1 o2 : Obj, ∀ p ∈ (ax, LO) :: (gr, instObj 234 dg) :: (dg, o1) :: (ol, o2) :: (lim2, instObj 362 dl2) :: (dl2, liD ql2 n u3 (2 * S) u4) :: (lim, instObj 362 dl) :: (dl, liD ql n u1 S u2) :: RT, p.1 ≠ I := fun o1 o2 =>
    (fmc (hax) ((fmc ((show gr ≠ I from hRi (gr, _) (.head _))) ((fmc ((show dg ≠ I from hRi (dg, _) (.tail _ (.head _)))) ((fmc ((show ol ≠ I from hRi (ol, _) (.tail _ (.tail _ (.head _))))) (fun p hp => hRi p (.tail _ (.tail _ (.tail _ hp)))))))))))
  clear N9 hD9 hI hDi2 hDI hTab hRi hax
  refine ListRest.succ ?_
  intro it h1 tk1 hit F1 N1
  rename_i pv930_22 pv930_21 _ pv930_20 pv930_19 pv930_18 pv930_17 pv930_16 _ pv930_15 pv930_14 pv930_13 pv930_12 pv930_11 pv930_10 pv930_9 pv930_8 pv930_7 _ pv930_6 pv930_5 _ pv930_4 pv930_3 pv930_2 pv930_1
  have dum31 : Unit := ()
  clear pv930_4 pv930_3
  revert pv744_24 K0 hsub hRT pv930_20 pv930_19 pv930_18 pv930_15 pv930_14 pv930_13 pv930_12 pv930_11 pv930_10 pv930_9 pv930_8 pv930_7 pv930_5 pv930_2 pv930_1 a2 a3 a14 lifted qk ek a17 a20 a22 a30 a35 hDa hTb hoff hit F1 N1
  revert RT pv930_22 pv930_21 pv930_17 pv930_16 pv930_6 gr dg a4 a5 a16 a19 ol tk a28 a34 ax a36 g0 lim2 dl2 qg ql2 tsg u3 u4 LO I it h1 tk1 dum31
  refine @pick32 _ _ _ _ _ _ _ _ _ _ _ _ _ _ _ _ _ _ _ _ _ _ _ _ _ _ _ _ _ _ _ _ _ ?ne930 ?_
  (case ne930 => walk_at "ne")
  generalize ck32 _ = tU
  generalize hd2 tU = RT, tl2 tU = tU
  generalize hd2 tU = pv930_22, tl2 tU = tU
  generalize hd2 tU = pv930_21, tl2 tU = tU
  generalize hd2 tU = pv930_17, tl2 tU = tU
  generalize hd2 tU = pv930_16, tl2 tU = tU
  generalize hd2 tU = pv930_6, tl2 tU = tU
  generalize hd2 tU = gr, tl2 tU = tU
  generalize hd2 tU = dg, tl2 tU = tU
  generalize hd2 tU = a4, tl2 tU = tU
  generalize hd2 tU = a5, tl2 tU = tU
  generalize hd2 tU = a16, tl2 tU = tU
  generalize hd2 tU = a19, tl2 tU = tU
  generalize hd2 tU = ol, tl2 tU = tU
  generalize hd2 tU = tk, tl2 tU = tU
  generalize hd2 tU = a28, tl2 tU = tU
  generalize hd2 tU = a34, tl2 tU = tU
  generalize hd2 tU = ax, tl2 tU = tU
  generalize hd2 tU = a36, tl2 tU = tU
  generalize hd2 tU = g0, tl2 tU = tU
  generalize hd2 tU = lim2, tl2 tU = tU
  generalize hd2 tU = dl2, tl2 tU = tU
  generalize hd2 tU = qg, tl2 tU = tU
  generalize hd2 tU = ql2, tl2 tU = tU
  generalize hd2 tU = tsg, tl2 tU = tU
  generalize hd2 tU = u3, tl2 tU = tU
  generalize hd2 tU = u4, tl2 tU = tU
  generalize hd2 tU = LO, tl2 tU = tU
  generalize hd2 tU = I, tl2 tU = tU
  generalize hd2 tU = it, tl2 tU = tU
  generalize hd2 tU = h1, tl2 tU = tU
  generalize hd2 tU = tk1
  intro pv744_24 K0 hsub hRT pv930_20 pv930_19 pv930_18 pv930_15 pv930_14 pv930_13 pv930_12 pv930_11 pv930_10 pv930_9 pv930_8 pv930_7 pv930_5 pv930_2 pv930_1 a2 a3 a14 lifted qk ek a17 a20 a22 a30 a35 hDa hTb hoff hit F1 N1
  show wpAny _ _ _ _ _ _
  k_fold
  k_steps
  refine Halt.at ?_
  rename News _ _ _ _ => NN
  refine CtrS.use0 (told_ctr (g := .given gr dg ol qg tsg 0) (sz := 0) (lim := lim2) (dl := dl2) (ql := ql2) (tlim := lim) (rest := (I, it) :: (ax, LO) :: (lim, instObj 362 dl) :: (dl, liD ql n u1 S u2) :: RT) (out := .txt f C) (fun h => nomatch h) (hDa it _ _) (hTb it) hn4 (by omega) hWc hWok hWl ht3 hE4 hf4) (news_sub NN ((fmc (.tail _ (.tail _ (.head _))) ((fmc (.tail _ (.tail _ (.tail _ (.head _)))) ((fmc (.tail _ (.tail _ (.tail _ (.tail _ (.head _))))) ((fmc (.tail _ (.tail _ (.tail _ (.tail _ (.tail _ (.head _)))))) ((fmc (.tail _ (.tail _ (.tail _ (.tail _ (.tail _ (.tail _ (.head _))))))) ((fmc (.head _) ((fmc (.tail _ (.head _)) (fun p hp => .tail _ (.tail _ (.tail _ (.tail _ (.tail _ (.tail _ (.tail _ hp)))))))))))))))))))))) (by k_asm) K0 KX TT KX TT ?_
  refine rts_oEvcEEn ?_
  intro v7 ts7 no7 h' tkC1 F2 N2
  replace N2 : News _ _ _ ((gr, instObj 234 dg) :: (dg, grD qg lim2 (C) ts7 ol) :: (ol, listOf ([] : List Value).toArray no7) :: (lim2, instObj 362 dl2) :: (dl2, liD ql2 n u3 (2 * S) u4) :: (I, it) :: (ax, LO) :: (lim, instObj 362 dl) :: (dl, liD ql n u1 S u2) :: RT) := N2
  clear NN F1
  k_sweep
  rename_i pv942_1 _
  have dum5 : Unit := ()
  revert pv744_24 K0 pv930_15 pv930_8 pv930_2 pv930_1 pv942_1 qk ek F2 N2
  revert v7 ts7 no7 h' tkC1 dum5
  refine @pick6 _ _ _ _ _ _ _ ?ne942 ?_
  (case ne942 => walk_at "ne")
  generalize ck6 _ = tU
  generalize hd2 tU = v7, tl2 tU = tU
  generalize hd2 tU = ts7, tl2 tU = tU
  generalize hd2 tU = no7, tl2 tU = tU
  generalize hd2 tU = h', tl2 tU = tU
  generalize hd2 tU = tkC1
  intro pv744_24 K0 pv930_15 pv930_8 pv930_2 pv930_1 pv942_1 qk ek F2 N2
  k_steps
  refine Halt.at ?_
  rename Fr _ _ _ _ => F8
  rename News _ _ _ _ => N8
  refine UnrEnd.intro F8 N8 ((ax, LO) :: (gr, instObj 234 dg) :: (dg, grD qg lim2 (C) ts7 ol) :: (ol, listOf ([] : List Value).toArray no7) :: (lim2, instObj 362 dl2) :: (dl2, liD ql2 n u3 (2 * S) u4) :: (lim, instObj 362 dl) :: (dl, liD ql n u1 S u2) :: RT) ((fmc (.tail _ (.tail _ (.tail _ (.tail _ (.tail _ (.head _)))))) ((fmc (.tail _ (.tail _ (.tail _ (.tail _ (.tail _ (.tail _ (.head _))))))) ((fmc (.head _) ((fmc (.tail _ (.head _)) ((fmc (.tail _ (.tail _ (.head _))) ((fmc (.tail _ (.tail _ (.tail _ (.head _)))) ((fmc (.tail _ (.tail _ (.tail _ (.tail _ (.head _))))) (fun p hp => .tail _ (.tail _ (.tail _ (.tail _ (.tail _ (.tail _ (.tail _ hp))))))))))))))))))))) (hoff _ _) ⟨.head _, ?_⟩
  clear F8 N8
  refine ListRest.succ ?_
  intro it h2 tk2 hit F1 N1
  have dum3 : Unit := ()
  revert pv744_24 K0 pv930_15 pv930_8 pv930_2 pv930_1 pv942_1 qk hit F1 N1
  revert it h2 tk2 dum3
  refine @pick4 _ _ _ _ _ ?ne951 ?_
  (case ne951 => walk_at "ne")
  generalize ck4 _ = tU
  generalize hd2 tU = it, tl2 tU = tU
  generalize hd2 tU = h2, tl2 tU = tU
  generalize hd2 tU = tk2
  intro pv744_24 K0 pv930_15 pv930_8 pv930_2 pv930_1 pv942_1 qk hit F1 N1
  show wpAny _ _ _ _ _ _
  k_fold
  k_steps
  refine Halt.at ?_
  rename News _ _ _ _ => NN
  refine CtrS.use0 (told_ctr (g := .given gr dg ol qg ts7 no7) (sz := C) (lim := lim2) (dl := dl2) (ql := ql2) (tlim := lim) (rest := (I, it) :: (ax, LO) :: (lim, instObj 362 dl) :: (dl, liD ql n u1 S u2) :: RT) (out := .txt f (C + C)) (fun h => nomatch h) (hDa it _ _) (hTb it) hn4 (by omega) hWc hWok hWl ht3 hE5 hf5) (news_sub NN ((fmc (.tail _ (.tail _ (.head _))) ((fmc (.tail _ (.tail _ (.tail _ (.head _)))) ((fmc (.tail _ (.tail _ (.tail _ (.tail _ (.head _))))) ((fmc (.tail _ (.tail _ (.tail _ (.tail _ (.tail _ (.head _)))))) ((fmc (.tail _ (.tail _ (.tail _ (.tail _ (.tail _ (.tail _ (.head _))))))) ((fmc (.head _) ((fmc (.tail _ (.head _)) (fun p hp => .tail _ (.tail _ (.tail _ (.tail _ (.tail _ (.tail _ (.tail _ hp)))))))))))))))))))))) (by k_asm) K0 KX TT KX TT ?_
  refine rts_oEvcEEn ?_
  intro v8 ts8 no8 h' tkC2 F2 N2
  replace N2 : News _ _ _ ((gr, instObj 234 dg) :: (dg, grD qg lim2 (C + C) ts8 ol) :: (ol, listOf ([] : List Value).toArray no8) :: (lim2, instObj 362 dl2) :: (dl2, liD ql2 n u3 (2 * S) u4) :: (I, it) :: (ax, LO) :: (lim, instObj 362 dl) :: (dl, liD ql n u1 S u2) :: RT) := N2
  clear NN F1
  k_sweep
  rename_i pv963_1
  have dum5 : Unit := ()
  revert pv744_24 K0 pv930_15 pv930_8 pv930_2 pv930_1 pv942_1 pv963_1 qk ek F2 N2
  revert v8 ts8 no8 h' tkC2 dum5
  refine @pick6 _ _ _ _ _ _ _ ?ne963 ?_
  (case ne963 => walk_at "ne")
  generalize ck6 _ = tU
  generalize hd2 tU = v8, tl2 tU = tU
  generalize hd2 tU = ts8, tl2 tU = tU
  generalize hd2 tU = no8, tl2 tU = tU
  generalize hd2 tU = h', tl2 tU = tU
  generalize hd2 tU = tkC2
  intro pv744_24 K0 pv930_15 pv930_8 pv930_2 pv930_1 pv942_1 pv963_1 qk ek F2 N2
  k_steps
  refine Halt.at ?_
  rename Fr _ _ _ _ => F8
  rename News _ _ _ _ => N8
  refine UnrEnd.intro F8 N8 ((ax, LO) :: (gr, instObj 234 dg) :: (dg, grD qg lim2 (C + C) ts8 ol) :: (ol, listOf ([] : List Value).toArray no8) :: (lim2, instObj 362 dl2) :: (dl2, liD ql2 n u3 (2 * S) u4) :: (lim, instObj 362 dl) :: (dl, liD ql n u1 S u2) :: RT) ((fmc (.tail _ (.tail _ (.tail _ (.tail _ (.tail _ (.head _)))))) ((fmc (.tail _ (.tail _ (.tail _ (.tail _ (.tail _ (.tail _ (.head _))))))) ((fmc (.head _) ((fmc (.tail _ (.head _)) ((fmc (.tail _ (.tail _ (.head _))) ((fmc (.tail _ (.tail _ (.tail _ (.head _)))) ((fmc (.tail _ (.tail _ (.tail _ (.tail _ (.head _))))) (fun p hp => .tail _ (.tail _ (.tail _ (.tail _ (.tail _ (.tail _ (.tail _ hp))))))))))))))))))))) (hoff _ _) ⟨.head _, ?_⟩
  clear F8 N8
  refine ListRest.succ ?_
  intro it h3 tk3 hit F1 N1
  have dum3 : Unit := ()
  revert pv744_24 K0 pv930_15 pv930_8 pv930_2 pv930_1 pv942_1 pv963_1 qk hit F1 N1
  revert it h3 tk3 dum3
  refine @pick4 _ _ _ _ _ ?ne972 ?_
  (case ne972 => walk_at "ne")
  generalize ck4 _ = tU
  generalize hd2 tU = it, tl2 tU = tU
  generalize hd2 tU = h3, tl2 tU = tU
  generalize hd2 tU = tk3
  intro pv744_24 K0 pv930_15 pv930_8 pv930_2 pv930_1 pv942_1 pv963_1 qk hit F1 N1
  show wpAny _ _ _ _ _ _
  k_fold
  k_steps
  refine Halt.at ?_
  rename News _ _ _ _ => NN
  refine CtrS.use0 (told_ctr (g := .given gr dg ol qg ts8 no8) (sz := C + C) (lim := lim2) (dl := dl2) (ql := ql2) (tlim := lim) (rest := (I, it) :: (ax, LO) :: (lim, instObj 362 dl) :: (dl, liD ql n u1 S u2) :: RT) (out := .lim) (fun h => nomatch h) (hDa it _ _) (hTb it) hn4 (by omega) hWc hWok hWl ht3 hE6 hf6) (news_sub NN ((fmc (.tail _ (.tail _ (.head _))) ((fmc (.tail _ (.tail _ (.tail _ (.head _)))) ((fmc (.tail _ (.tail _ (.tail _ (.tail _ (.head _))))) ((fmc (.tail _ (.tail _ (.tail _ (.tail _ (.tail _ (.head _)))))) ((fmc (.tail _ (.tail _ (.tail _ (.tail _ (.tail _ (.tail _ (.head _))))))) ((fmc (.head _) ((fmc (.tail _ (.head _)) (fun p hp => .tail _ (.tail _ (.tail _ (.tail _ (.tail _ (.tail _ (.tail _ hp)))))))))))))))))))))) (by k_asm) K0 KX TT KX TT ?_
  refine rts_oEvcn ?_
  intro v9 h' tkC3 F2 N2
  replace N2 : News _ _ _ ((lim2, instObj 362 dl2) :: (dl2, liD ql2 n u3 (2 * S) u4) :: (I, it) :: (ax, LO) :: (lim, instObj 362 dl) :: (dl, liD ql n u1 S u2) :: RT) := N2
  clear NN F1
  k_sweep
  rename_i pv984_1
  have dum3 : Unit := ()
  revert pv744_24 K0 pv930_15 pv930_8 pv930_2 pv930_1 pv942_1 pv963_1 pv984_1 qk ek F2 N2
  revert v9 h' tkC3 dum3
  refine @pick4 _ _ _ _ _ ?ne984 ?_
  (case ne984 => walk_at "ne")
  generalize ck4 _ = tU
  generalize hd2 tU = v9, tl2 tU = tU
  generalize hd2 tU = h', tl2 tU = tU
  generalize hd2 tU = tkC3
  intro pv744_24 K0 pv930_15 pv930_8 pv930_2 pv930_1 pv942_1 pv963_1 pv984_1 qk ek F2 N2
  k_steps
  refine Halt.at ?_
  rename Fr _ _ _ _ => F8
  rename News _ _ _ _ => N8
  refine UnrEnd.intro F8 N8 ((ax, LO) :: (lim, instObj 362 dl) :: (dl, liD ql n u1 S u2) :: RT) ((fmc (.tail _ (.tail _ (.head _))) ((fmc (.tail _ (.tail _ (.tail _ (.head _)))) (fun p hp => .tail _ (.tail _ (.tail _ (.tail _ hp)))))))) ((fmc (hoff LO LO (ax, LO) (.head _)) (fun p hp => hoff LO LO p (.tail _ (.tail _ (.tail _ (.tail _ (.tail _ (.tail _ hp))))))))) ⟨.head _, ?_⟩
  clear F8 N8 hDa hTb hoff
  refine ListRest.zero ?_
  intro hz tkz F9 N9
  k_steps
  refine Halt.at ?_
  rename News _ _ _ _ => NN
  refine ring_ctr (Ne.symm hst) hx3 hy3 hy32 hnn hn2 hn4 hT hX _ _ _ _ _ _ _ _ _ _ _ _ _ _ _ K0 (by k_asm) KX (news_sub NN ((fmc (.tail _ (.tail _ (.tail _ (hsub _ (.tail _ (.tail _ (.tail _ (.head _)))))))) (List.forall_mem_singleton.mpr (.tail _ (.tail _ (.tail _ (hsub _ (.tail _ (.tail _ (.head _))))))))))) TT KX TT rfl (by decide) (by decide) ?_
  intro hy tky F10
  k_sweep
  k_steps
end
end Mine
theorem PySem.Challenge.cw_nu0067_01_holds : PySem.Challenge.rw_nu0067_01.Holds :=
  Mine.law_holds
