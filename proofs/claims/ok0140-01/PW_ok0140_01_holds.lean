import PyProof.Rows.All
import Wide.All
import OpenK.AllK
import Wide.FinOn
import PySem.Challenge.RW_ok0140_01
set_option Elab.async false
set_option maxRecDepth 100000
set_option maxHeartbeats 8000000
set_option linter.unusedVariables false
set_option pp.deepTerms false
namespace Mine
end Mine
open PySem PySem.W PyProof.Rows PySem.Spec PySem.Calls Mine
-- HC
namespace Mine
section

namespace hd
open PySem.Str renaming ofString → S
noncomputable def isF : Stmt → Bool
  | .FunctionDef .. => true
  | _ => false
noncomputable def funs1 : Stmt → List Stmt
  | .FunctionDef n a b d r t s x y p => [.FunctionDef n a b d r t s x y p]
  | .ClassDef _ _ _ b _ _ _ _ _ _ _ => b.filter isF
  | _ => []
noncomputable def mS (i : Nat) : Stmt := (Challenge.pw_ok0140_01.main.body).getD i (.Pass ⟨0, 0, 0, 0⟩)
noncomputable def fN (i : Nat) : Stmt := ((Challenge.pw_ok0140_01.main.body).flatMap funs1).getD i (.Pass ⟨0, 0, 0, 0⟩)
noncomputable def fA (i : Nat) : Arguments := match fN i with
  | .FunctionDef _ a _ _ _ _ _ _ _ _ => a
  | _ => ⟨[], [], none, [], [], none, []⟩
noncomputable def fB (i : Nat) : List Stmt := match fN i with
  | .FunctionDef _ _ b _ _ _ _ _ _ _ => b
  | _ => []
noncomputable def fS (i : Nat) : Scope := match fN i with
  | .FunctionDef _ _ _ _ _ _ s _ _ _ => s
  | _ => { kind := .function, names := [], isGenerator := false, isCoroutine := false }
/-- the module's loader, as the start left it -/
noncomputable def ldr (P : Params) : Value := match (W.boot_o_3 P).data with
  | .dict es _ => (es.toList.map (·.val)).getD 3 .none
  | _ => .none
noncomputable def heap_39 : Params → Frag := fun P => (((nat_lit 2), ⟨Value.none, none, (Data.dict #[⟨(PyData.keyHash P (S "type.__subclasses__.Exception.0")), (Value.str (S "type.__subclasses__.Exception.0") 221), (Value.int 38 0)⟩, ⟨(PyData.keyHash P (S "type.__subclasses__.Exception.n")), (Value.str (S "type.__subclasses__.Exception.n") 222), (Value.int 1 0)⟩] 2), #[]⟩) ::
  ((nat_lit 3), ⟨(Value.type "dict"), none, (Data.dict #[⟨(PyData.keyHash P (S "__name__")), (Value.str (S "__name__") 165), (Value.str (S "law_ok0140_01") 547)⟩, ⟨(PyData.keyHash P (S "__doc__")), (Value.str (S "__doc__") 166), Value.none⟩, ⟨(PyData.keyHash P (S "__package__")), (Value.str (S "__package__") 167), Value.none⟩, ⟨(PyData.keyHash P (S "__loader__")), (Value.str (S "__loader__") 168), (ldr P)⟩, ⟨(PyData.keyHash P (S "__spec__")), (Value.str (S "__spec__") 169), Value.none⟩, ⟨(PyData.keyHash P (S "__annotations__")), (Value.str (S "__annotations__") 170), (Value.ref 6)⟩, ⟨(PyData.keyHash P (S "__builtins__")), (Value.str (S "__builtins__") 171), (Value.ref 4)⟩, ⟨(PyData.keyHash P (S "__file__")), (Value.str (S "__file__") 173), (Value.str (S "/claim/cut.py") 172)⟩, ⟨(PyData.keyHash P (S "__cached__")), (Value.str (S "__cached__") 174), Value.none⟩, ⟨(PyData.keyHash P (S "_wall")), (Value.str (S "_wall") 193), (Value.ref 21)⟩, ⟨(PyData.keyHash P (S "PressError")), (Value.str (S "PressError") 224), (Value.ref 38)⟩, ⟨(PyData.keyHash P (S "TableError")), (Value.str (S "TableError") 240), (Value.ref 51)⟩, ⟨(PyData.keyHash P (S "CodeError")), (Value.str (S "CodeError") 256), (Value.ref 63)⟩, ⟨(PyData.keyHash P (S "CutError")), (Value.str (S "CutError") 272), (Value.ref 75)⟩, ⟨(PyData.keyHash P (S "MOST_BITS")), (Value.str (S "MOST_BITS") 276), (Value.int 16 275)⟩, ⟨(PyData.keyHash P (S "MOST_SYMBOLS")), (Value.str (S "MOST_SYMBOLS") 278), (Value.int 256 277)⟩, ⟨(PyData.keyHash P (S "code_rows")), (Value.str (S "code_rows") 290), (Value.ref 84)⟩, ⟨(PyData.keyHash P (S "check_told")), (Value.str (S "check_told") 300), (Value.ref 91)⟩, ⟨(PyData.keyHash P (S "HuffTable")), (Value.str (S "HuffTable") 359), (Value.ref 122)⟩, ⟨(PyData.keyHash P (S "Tables")), (Value.str (S "Tables") 407), (Value.ref 157)⟩, ⟨(PyData.keyHash P (S "used_keys")), (Value.str (S "used_keys") 418), (Value.ref 168)⟩, ⟨(PyData.keyHash P (S "made_codes")), (Value.str (S "made_codes") 432), (Value.ref 175)⟩, ⟨(PyData.keyHash P (S "BitReader")), (Value.str (S "BitReader") 489), (Value.ref 213)⟩, ⟨(PyData.keyHash P (S "Scan")), (Value.str (S "Scan") 546), (Value.ref 248)⟩, ⟨(PyData.keyHash P (S "_law_pool")), (Value.str (S "_law_pool") 559), (Value.ref 259)⟩, ⟨(PyData.keyHash P (S "_law_take")), (Value.str (S "_law_take") 568), (Value.ref 266)⟩, ⟨(PyData.keyHash P (S "_law_one")), (Value.str (S "_law_one") 576), (Value.ref 273)⟩, ⟨(PyData.keyHash P (S "_law_head")), (Value.str (S "_law_head") 591), (Value.ref 280)⟩, ⟨(PyData.keyHash P (S "_law_spoilt")), (Value.str (S "_law_spoilt") 599), (Value.ref 287)⟩, ⟨(PyData.keyHash P (S "_law_wanted")), (Value.str (S "_law_wanted") 608), (Value.ref 294)⟩, ⟨(PyData.keyHash P (S "_law_octets")), (Value.str (S "_law_octets") 614), (Value.ref 299)⟩, ⟨(PyData.keyHash P (S "_law_reads")), (Value.str (S "_law_reads") 620), (Value.ref 304)⟩, ⟨(PyData.keyHash P (S "law")), (Value.str (S "law") 626), (Value.ref 309)⟩] 33), #[]⟩) ::
  ((nat_lit 15), ⟨(Value.type "tuple"), none, (Data.seq #[] 0), #[]⟩) ::
  ((nat_lit 17), ⟨(Value.type "tuple"), none, (Data.seq #[(Value.str (S "k") 190)] 0), #[]⟩) ::
  ((nat_lit 18), ⟨(Value.type "tuple"), none, (Data.seq #[] 0), #[]⟩) ::
  ((nat_lit 20), ⟨(Value.type "code"), none, (Data.fields #[(Value.str (S "_wall") 187), (Value.str (S "_wall") 188), (Value.str (S "/claim/cut.py") 189), (Value.int 1 0), (Value.int 1 0), (Value.int 0 0), (Value.int 0 0), (Value.int 3 0), (Value.ref 15), (Value.bool Bool.true), (Value.int 181 0), (Value.ref 16), Value.none, (Value.ref 17), (Value.ref 18), (Value.ref 19), (Value.int 191 0), (Value.int 1 0), (Value.str (S "/claim/cut.py") 192)]), #[]⟩) ::
  ((nat_lit 21), ⟨(Value.type "function"), none, (Data.func ⟨(S "_wall"), (S "_wall"), (fA 0), (FuncBody.stmts (fB 0)), (fS 0), 3, [], Value.none, Value.none, Value.none, (Value.str (S "__main__") 164), none, (Value.ref 20), Value.none, 0⟩), #[]⟩) ::
  ((nat_lit 22), ⟨(Value.type "tuple"), none, (Data.seq #[(Value.type "Exception")] 0), #[]⟩) ::
  ((nat_lit 29), ⟨(Value.type "tuple"), none, (Data.seq #[] 0), #[]⟩) ::
  ((nat_lit 31), ⟨(Value.type "tuple"), none, (Data.seq #[(Value.str (S "self") 211), (Value.str (S "message") 212)] 0), #[]⟩) ::
  ((nat_lit 32), ⟨(Value.type "tuple"), none, (Data.seq #[] 0), #[]⟩) ::
  ((nat_lit 34), ⟨(Value.type "code"), none, (Data.fields #[(Value.str (S "__init__") 208), (Value.str (S "PressError.__init__") 209), (Value.str (S "/claim/cut.py") 210), (Value.int 7 0), (Value.int 2 0), (Value.int 0 0), (Value.int 0 0), (Value.int 3 0), (Value.ref 29), (Value.bool Bool.true), (Value.int 181 0), (Value.ref 30), Value.none, (Value.ref 31), (Value.ref 32), (Value.ref 33), (Value.int 213 0), (Value.int 7 0), (Value.str (S "/claim/cut.py") 214)]), #[]⟩) ::
  ((nat_lit 35), ⟨(Value.type "function"), none, (Data.func ⟨(S "__init__"), (S "PressError.__init__"), (fA 1), (FuncBody.stmts (fB 1)), (fS 1), 3, [], Value.none, Value.none, Value.none, (Value.str (S "pixelpress.errors") 194), none, (Value.ref 34), Value.none, 0⟩), #[]⟩) ::
  ((nat_lit 36), ⟨(Value.type "tuple"), none, (Data.seq #[(Value.str (S "message") 216)] 0), #[]⟩) ::
  ((nat_lit 37), ⟨(Value.type "dict"), none, (Data.dict #[⟨(PyData.keyHash P (S "__module__")), (Value.str (S "__module__") 203), (Value.str (S "pixelpress.errors") 194)⟩, ⟨(PyData.keyHash P (S "__firstlineno__")), (Value.str (S "__firstlineno__") 207), (Value.int 5 206)⟩, ⟨(PyData.keyHash P (S "__init__")), (Value.str (S "__init__") 215), (Value.ref 35)⟩, ⟨(PyData.keyHash P (S "__static_attributes__")), (Value.str (S "__static_attributes__") 217), (Value.ref 36)⟩, ⟨(PyData.keyHash P (S "__weakref__")), (Value.str (S "__weakref__") 219), (Value.ref 39)⟩, ⟨(PyData.keyHash P (S "__doc__")), (Value.str (S "__doc__") 220), Value.none⟩] 3), #[]⟩) ::
  ((nat_lit 38), ⟨(Value.type "type"), none, (Data.cls ⟨(S "PressError"), [(Value.type "Exception")], [(Value.ref 38), (Value.type "Exception"), (Value.type "BaseException"), (Value.type "object")], 37, (S "PressError"), Bool.true, [], [(Value.ref 51), (Value.ref 63), (Value.ref 75)], Bool.false, none, Bool.false⟩), #[(some (Value.ref 22)), none, (some (Value.str (S "PressError") 196)), (some (Value.str (S "PressError") 204)), (some (Value.builtin "Exception.__new__")), (some (Value.bool Bool.true))]⟩) ::
  ((nat_lit 39), ⟨(Value.type "getset_descriptor"), none, (Data.fields #[(Value.str (S "__weakref__") 218), (Value.ref 38), (Value.builtin "ExceptionGroup.__weakref__"), Value.none]), #[]⟩) ::
  ((nat_lit 42), ⟨(Value.type "tuple"), none, (Data.seq #[(Value.ref 38)] 0), #[]⟩) ::
  ((nat_lit 49), ⟨(Value.type "tuple"), none, (Data.seq #[] 0), #[]⟩) ::
  ((nat_lit 50), ⟨(Value.type "dict"), none, (Data.dict #[⟨(PyData.keyHash P (S "__module__")), (Value.str (S "__module__") 232), (Value.str (S "pixelpress.errors") 194)⟩, ⟨(PyData.keyHash P (S "__firstlineno__")), (Value.str (S "__firstlineno__") 236), (Value.int 10 235)⟩, ⟨(PyData.keyHash P (S "__static_attributes__")), (Value.str (S "__static_attributes__") 237), (Value.ref 49)⟩, ⟨(PyData.keyHash P (S "__doc__")), (Value.str (S "__doc__") 238), Value.none⟩] 2), #[]⟩) ::
  ((nat_lit 51), ⟨(Value.type "type"), none, (Data.cls ⟨(S "TableError"), [(Value.ref 38)], [(Value.ref 51), (Value.ref 38), (Value.type "Exception"), (Value.type "BaseException"), (Value.type "object")], 50, (S "TableError"), Bool.true, [], [], Bool.false, none, Bool.false⟩), #[(some (Value.ref 42)), none, (some (Value.str (S "TableError") 225)), (some (Value.str (S "TableError") 233)), (some (Value.builtin "Exception.__new__")), (some (Value.bool Bool.true))]⟩) ::
  ((nat_lit 54), ⟨(Value.type "tuple"), none, (Data.seq #[(Value.ref 38)] 0), #[]⟩) ::
  ((nat_lit 61), ⟨(Value.type "tuple"), none, (Data.seq #[] 0), #[]⟩) ::
  ((nat_lit 62), ⟨(Value.type "dict"), none, (Data.dict #[⟨(PyData.keyHash P (S "__module__")), (Value.str (S "__module__") 248), (Value.str (S "pixelpress.errors") 194)⟩, ⟨(PyData.keyHash P (S "__firstlineno__")), (Value.str (S "__firstlineno__") 252), (Value.int 12 251)⟩, ⟨(PyData.keyHash P (S "__static_attributes__")), (Value.str (S "__static_attributes__") 253), (Value.ref 61)⟩, ⟨(PyData.keyHash P (S "__doc__")), (Value.str (S "__doc__") 254), Value.none⟩] 2), #[]⟩) ::
  ((nat_lit 63), ⟨(Value.type "type"), none, (Data.cls ⟨(S "CodeError"), [(Value.ref 38)], [(Value.ref 63), (Value.ref 38), (Value.type "Exception"), (Value.type "BaseException"), (Value.type "object")], 62, (S "CodeError"), Bool.true, [], [], Bool.false, none, Bool.false⟩), #[(some (Value.ref 54)), none, (some (Value.str (S "CodeError") 241)), (some (Value.str (S "CodeError") 249)), (some (Value.builtin "Exception.__new__")), (some (Value.bool Bool.true))]⟩) ::
  ((nat_lit 66), ⟨(Value.type "tuple"), none, (Data.seq #[(Value.ref 38)] 0), #[]⟩) ::
  ((nat_lit 73), ⟨(Value.type "tuple"), none, (Data.seq #[] 0), #[]⟩) ::
  ((nat_lit 74), ⟨(Value.type "dict"), none, (Data.dict #[⟨(PyData.keyHash P (S "__module__")), (Value.str (S "__module__") 264), (Value.str (S "pixelpress.errors") 194)⟩, ⟨(PyData.keyHash P (S "__firstlineno__")), (Value.str (S "__firstlineno__") 268), (Value.int 14 267)⟩, ⟨(PyData.keyHash P (S "__static_attributes__")), (Value.str (S "__static_attributes__") 269), (Value.ref 73)⟩, ⟨(PyData.keyHash P (S "__doc__")), (Value.str (S "__doc__") 270), Value.none⟩] 2), #[]⟩) ::
  ((nat_lit 75), ⟨(Value.type "type"), none, (Data.cls ⟨(S "CutError"), [(Value.ref 38)], [(Value.ref 75), (Value.ref 38), (Value.type "Exception"), (Value.type "BaseException"), (Value.type "object")], 74, (S "CutError"), Bool.true, [], [], Bool.false, none, Bool.false⟩), #[(some (Value.ref 66)), none, (some (Value.str (S "CutError") 257)), (some (Value.str (S "CutError") 265)), (some (Value.builtin "Exception.__new__")), (some (Value.bool Bool.true))]⟩) ::
  ((nat_lit 78), ⟨(Value.type "tuple"), none, (Data.seq #[] 0), #[]⟩) ::
  ((nat_lit 80), ⟨(Value.type "tuple"), none, (Data.seq #[(Value.str (S "counts") 282), (Value.str (S "rows") 283), (Value.str (S "code") 284), (Value.str (S "place") 285), (Value.str (S "size") 286), (Value.str (S "many") 287)] 0), #[]⟩) ::
  ((nat_lit 81), ⟨(Value.type "tuple"), none, (Data.seq #[] 0), #[]⟩) ::
  ((nat_lit 83), ⟨(Value.type "code"), none, (Data.fields #[(Value.str (S "code_rows") 279), (Value.str (S "code_rows") 280), (Value.str (S "/claim/cut.py") 281), (Value.int 19 0), (Value.int 1 0), (Value.int 0 0), (Value.int 0 0), (Value.int 3 0), (Value.ref 78), (Value.bool Bool.true), (Value.int 181 0), (Value.ref 79), Value.none, (Value.ref 80), (Value.ref 81), (Value.ref 82), (Value.int 288 0), (Value.int 19 0), (Value.str (S "/claim/cut.py") 289)]), #[]⟩) ::
  ((nat_lit 84), ⟨(Value.type "function"), none, (Data.func ⟨(S "code_rows"), (S "code_rows"), (fA 2), (FuncBody.stmts (fB 2)), (fS 2), 3, [], Value.none, Value.none, Value.none, (Value.str (S "pixelpress.huffman") 273), none, (Value.ref 83), Value.none, 0⟩), #[]⟩) ::
  ((nat_lit 85), ⟨(Value.type "tuple"), none, (Data.seq #[] 0), #[]⟩) ::
  ((nat_lit 87), ⟨(Value.type "tuple"), none, (Data.seq #[(Value.str (S "counts") 294), (Value.str (S "symbols") 295), (Value.str (S "met") 296), (Value.str (S "symbol") 297)] 0), #[]⟩) ::
  ((nat_lit 88), ⟨(Value.type "tuple"), none, (Data.seq #[] 0), #[]⟩) ::
  ((nat_lit 90), ⟨(Value.type "code"), none, (Data.fields #[(Value.str (S "check_told") 291), (Value.str (S "check_told") 292), (Value.str (S "/claim/cut.py") 293), (Value.int 31 0), (Value.int 2 0), (Value.int 0 0), (Value.int 0 0), (Value.int 3 0), (Value.ref 85), (Value.bool Bool.true), (Value.int 181 0), (Value.ref 86), Value.none, (Value.ref 87), (Value.ref 88), (Value.ref 89), (Value.int 298 0), (Value.int 31 0), (Value.str (S "/claim/cut.py") 299)]), #[]⟩) ::
  ((nat_lit 91), ⟨(Value.type "function"), none, (Data.func ⟨(S "check_told"), (S "check_told"), (fA 3), (FuncBody.stmts (fB 3)), (fS 3), 3, [], Value.none, Value.none, Value.none, (Value.str (S "pixelpress.huffman") 273), none, (Value.ref 90), Value.none, 0⟩), #[]⟩) ::
  ((nat_lit 99), ⟨(Value.type "tuple"), none, (Data.seq #[] 0), #[]⟩) ::
  ((nat_lit 101), ⟨(Value.type "tuple"), none, (Data.seq #[(Value.str (S "self") 316), (Value.str (S "counts") 317), (Value.str (S "symbols") 318), (Value.str (S "size") 319), (Value.str (S "first") 320), (Value.str (S "many") 321), (Value.str (S "place") 322), (Value.str (S "k") 323)] 0), #[]⟩) ::
  ((nat_lit 102), ⟨(Value.type "tuple"), none, (Data.seq #[] 0), #[]⟩) ::
  ((nat_lit 104), ⟨(Value.type "code"), none, (Data.fields #[(Value.str (S "__init__") 313), (Value.str (S "HuffTable.__init__") 314), (Value.str (S "/claim/cut.py") 315), (Value.int 43 0), (Value.int 3 0), (Value.int 0 0), (Value.int 0 0), (Value.int 3 0), (Value.ref 99), (Value.bool Bool.true), (Value.int 181 0), (Value.ref 100), Value.none, (Value.ref 101), (Value.ref 102), (Value.ref 103), (Value.int 324 0), (Value.int 43 0), (Value.str (S "/claim/cut.py") 325)]), #[]⟩) ::
  ((nat_lit 105), ⟨(Value.type "function"), none, (Data.func ⟨(S "__init__"), (S "HuffTable.__init__"), (fA 4), (FuncBody.stmts (fB 4)), (fS 4), 3, [], Value.none, Value.none, Value.none, (Value.str (S "pixelpress.huffman") 273), none, (Value.ref 104), Value.none, 0⟩), #[]⟩) ::
  ((nat_lit 106), ⟨(Value.type "tuple"), none, (Data.seq #[] 0), #[]⟩) ::
  ((nat_lit 108), ⟨(Value.type "tuple"), none, (Data.seq #[(Value.str (S "self") 330), (Value.str (S "symbol") 331), (Value.str (S "found") 332)] 0), #[]⟩) ::
  ((nat_lit 109), ⟨(Value.type "tuple"), none, (Data.seq #[] 0), #[]⟩) ::
  ((nat_lit 111), ⟨(Value.type "code"), none, (Data.fields #[(Value.str (S "code") 327), (Value.str (S "HuffTable.code") 328), (Value.str (S "/claim/cut.py") 329), (Value.int 54 0), (Value.int 2 0), (Value.int 0 0), (Value.int 0 0), (Value.int 3 0), (Value.ref 106), (Value.bool Bool.true), (Value.int 181 0), (Value.ref 107), Value.none, (Value.ref 108), (Value.ref 109), (Value.ref 110), (Value.int 333 0), (Value.int 54 0), (Value.str (S "/claim/cut.py") 334)]), #[]⟩) ::
  ((nat_lit 112), ⟨(Value.type "function"), none, (Data.func ⟨(S "code"), (S "HuffTable.code"), (fA 5), (FuncBody.stmts (fB 5)), (fS 5), 3, [], Value.none, Value.none, Value.none, (Value.str (S "pixelpress.huffman") 273), none, (Value.ref 111), Value.none, 0⟩), #[]⟩) ::
  ((nat_lit 113), ⟨(Value.type "tuple"), none, (Data.seq #[] 0), #[]⟩) ::
  ((nat_lit 115), ⟨(Value.type "tuple"), none, (Data.seq #[(Value.str (S "self") 339), (Value.str (S "reader") 340), (Value.str (S "code") 341), (Value.str (S "first") 342), (Value.str (S "many") 343), (Value.str (S "place") 344)] 0), #[]⟩) ::
  ((nat_lit 116), ⟨(Value.type "tuple"), none, (Data.seq #[] 0), #[]⟩) ::
  ((nat_lit 118), ⟨(Value.type "code"), none, (Data.fields #[(Value.str (S "read") 336), (Value.str (S "HuffTable.read") 337), (Value.str (S "/claim/cut.py") 338), (Value.int 60 0), (Value.int 2 0), (Value.int 0 0), (Value.int 0 0), (Value.int 3 0), (Value.ref 113), (Value.bool Bool.true), (Value.int 181 0), (Value.ref 114), Value.none, (Value.ref 115), (Value.ref 116), (Value.ref 117), (Value.int 345 0), (Value.int 60 0), (Value.str (S "/claim/cut.py") 346)]), #[]⟩) ::
  ((nat_lit 119), ⟨(Value.type "function"), none, (Data.func ⟨(S "read"), (S "HuffTable.read"), (fA 6), (FuncBody.stmts (fB 6)), (fS 6), 3, [], Value.none, Value.none, Value.none, (Value.str (S "pixelpress.huffman") 273), none, (Value.ref 118), Value.none, 0⟩), #[]⟩) ::
  ((nat_lit 120), ⟨(Value.type "tuple"), none, (Data.seq #[(Value.str (S "codes") 348), (Value.str (S "counts") 349), (Value.str (S "rows") 350), (Value.str (S "symbols") 351)] 0), #[]⟩) ::
  ((nat_lit 121), ⟨(Value.type "dict"), none, (Data.dict #[⟨(PyData.keyHash P (S "__module__")), (Value.str (S "__module__") 308), (Value.str (S "pixelpress.huffman") 273)⟩, ⟨(PyData.keyHash P (S "__firstlineno__")), (Value.str (S "__firstlineno__") 312), (Value.int 41 311)⟩, ⟨(PyData.keyHash P (S "__init__")), (Value.str (S "__init__") 326), (Value.ref 105)⟩, ⟨(PyData.keyHash P (S "code")), (Value.str (S "code") 335), (Value.ref 112)⟩, ⟨(PyData.keyHash P (S "read")), (Value.str (S "read") 347), (Value.ref 119)⟩, ⟨(PyData.keyHash P (S "__static_attributes__")), (Value.str (S "__static_attributes__") 352), (Value.ref 120)⟩, ⟨(PyData.keyHash P (S "__dict__")), (Value.str (S "__dict__") 354), (Value.ref 123)⟩, ⟨(PyData.keyHash P (S "__weakref__")), (Value.str (S "__weakref__") 356), (Value.ref 124)⟩, ⟨(PyData.keyHash P (S "__doc__")), (Value.str (S "__doc__") 357), Value.none⟩] 4), #[]⟩) ::
  ((nat_lit 122), ⟨(Value.type "type"), none, (Data.cls ⟨(S "HuffTable"), [(Value.type "object")], [(Value.ref 122), (Value.type "object")], 121, (S "HuffTable"), Bool.true, [], [], Bool.false, none, Bool.false⟩), #[none, none, (some (Value.str (S "HuffTable") 301)), (some (Value.str (S "HuffTable") 309)), (some (Value.builtin "object.__new__")), (some (Value.bool Bool.true))]⟩) ::
  ((nat_lit 123), ⟨(Value.type "getset_descriptor"), none, (Data.fields #[(Value.str (S "__dict__") 353), (Value.ref 122), (Value.builtin "function.__dict__"), (Value.builtin "function.__dict__#set")]), #[]⟩) ::
  ((nat_lit 124), ⟨(Value.type "getset_descriptor"), none, (Data.fields #[(Value.str (S "__weakref__") 355), (Value.ref 122), (Value.builtin "ExceptionGroup.__weakref__"), Value.none]), #[]⟩) ::
  ((nat_lit 134), ⟨(Value.type "tuple"), none, (Data.seq #[] 0), #[]⟩) ::
  ((nat_lit 136), ⟨(Value.type "tuple"), none, (Data.seq #[(Value.str (S "self") 377)] 0), #[]⟩) ::
  ((nat_lit 137), ⟨(Value.type "tuple"), none, (Data.seq #[] 0), #[]⟩) ::
  ((nat_lit 139), ⟨(Value.type "code"), none, (Data.fields #[(Value.str (S "__init__") 374), (Value.str (S "Tables.__init__") 375), (Value.str (S "/claim/cut.py") 376), (Value.int 70 0), (Value.int 1 0), (Value.int 0 0), (Value.int 0 0), (Value.int 3 0), (Value.ref 134), (Value.bool Bool.true), (Value.int 181 0), (Value.ref 135), Value.none, (Value.ref 136), (Value.ref 137), (Value.ref 138), (Value.int 378 0), (Value.int 70 0), (Value.str (S "/claim/cut.py") 379)]), #[]⟩) ::
  ((nat_lit 140), ⟨(Value.type "function"), none, (Data.func ⟨(S "__init__"), (S "Tables.__init__"), (fA 7), (FuncBody.stmts (fB 7)), (fS 7), 3, [], Value.none, Value.none, Value.none, (Value.str (S "pixelpress.tables") 360), none, (Value.ref 139), Value.none, 0⟩), #[]⟩) ::
  ((nat_lit 141), ⟨(Value.type "tuple"), none, (Data.seq #[] 0), #[]⟩) ::
  ((nat_lit 143), ⟨(Value.type "tuple"), none, (Data.seq #[(Value.str (S "self") 384), (Value.str (S "slot") 385)] 0), #[]⟩) ::
  ((nat_lit 144), ⟨(Value.type "tuple"), none, (Data.seq #[] 0), #[]⟩) ::
  ((nat_lit 146), ⟨(Value.type "code"), none, (Data.fields #[(Value.str (S "quant_of") 381), (Value.str (S "Tables.quant_of") 382), (Value.str (S "/claim/cut.py") 383), (Value.int 75 0), (Value.int 2 0), (Value.int 0 0), (Value.int 0 0), (Value.int 3 0), (Value.ref 141), (Value.bool Bool.true), (Value.int 181 0), (Value.ref 142), Value.none, (Value.ref 143), (Value.ref 144), (Value.ref 145), (Value.int 386 0), (Value.int 75 0), (Value.str (S "/claim/cut.py") 387)]), #[]⟩) ::
  ((nat_lit 147), ⟨(Value.type "function"), none, (Data.func ⟨(S "quant_of"), (S "Tables.quant_of"), (fA 8), (FuncBody.stmts (fB 8)), (fS 8), 3, [], Value.none, Value.none, Value.none, (Value.str (S "pixelpress.tables") 360), none, (Value.ref 146), Value.none, 0⟩), #[]⟩) ::
  ((nat_lit 148), ⟨(Value.type "tuple"), none, (Data.seq #[] 0), #[]⟩) ::
  ((nat_lit 150), ⟨(Value.type "tuple"), none, (Data.seq #[(Value.str (S "self") 392), (Value.str (S "key") 393)] 0), #[]⟩) ::
  ((nat_lit 151), ⟨(Value.type "tuple"), none, (Data.seq #[] 0), #[]⟩) ::
  ((nat_lit 153), ⟨(Value.type "code"), none, (Data.fields #[(Value.str (S "code_of") 389), (Value.str (S "Tables.code_of") 390), (Value.str (S "/claim/cut.py") 391), (Value.int 78 0), (Value.int 2 0), (Value.int 0 0), (Value.int 0 0), (Value.int 3 0), (Value.ref 148), (Value.bool Bool.true), (Value.int 181 0), (Value.ref 149), Value.none, (Value.ref 150), (Value.ref 151), (Value.ref 152), (Value.int 394 0), (Value.int 78 0), (Value.str (S "/claim/cut.py") 395)]), #[]⟩) ::
  ((nat_lit 154), ⟨(Value.type "function"), none, (Data.func ⟨(S "code_of"), (S "Tables.code_of"), (fA 9), (FuncBody.stmts (fB 9)), (fS 9), 3, [], Value.none, Value.none, Value.none, (Value.str (S "pixelpress.tables") 360), none, (Value.ref 153), Value.none, 0⟩), #[]⟩) ::
  ((nat_lit 155), ⟨(Value.type "tuple"), none, (Data.seq #[(Value.str (S "codes") 397), (Value.str (S "conditioning") 398), (Value.str (S "quant") 399)] 0), #[]⟩) ::
  ((nat_lit 156), ⟨(Value.type "dict"), none, (Data.dict #[⟨(PyData.keyHash P (S "__module__")), (Value.str (S "__module__") 369), (Value.str (S "pixelpress.tables") 360)⟩, ⟨(PyData.keyHash P (S "__firstlineno__")), (Value.str (S "__firstlineno__") 373), (Value.int 68 372)⟩, ⟨(PyData.keyHash P (S "__init__")), (Value.str (S "__init__") 380), (Value.ref 140)⟩, ⟨(PyData.keyHash P (S "quant_of")), (Value.str (S "quant_of") 388), (Value.ref 147)⟩, ⟨(PyData.keyHash P (S "code_of")), (Value.str (S "code_of") 396), (Value.ref 154)⟩, ⟨(PyData.keyHash P (S "__static_attributes__")), (Value.str (S "__static_attributes__") 400), (Value.ref 155)⟩, ⟨(PyData.keyHash P (S "__dict__")), (Value.str (S "__dict__") 402), (Value.ref 158)⟩, ⟨(PyData.keyHash P (S "__weakref__")), (Value.str (S "__weakref__") 404), (Value.ref 159)⟩, ⟨(PyData.keyHash P (S "__doc__")), (Value.str (S "__doc__") 405), Value.none⟩] 4), #[]⟩) ::
  ((nat_lit 157), ⟨(Value.type "type"), none, (Data.cls ⟨(S "Tables"), [(Value.type "object")], [(Value.ref 157), (Value.type "object")], 156, (S "Tables"), Bool.true, [], [], Bool.false, none, Bool.false⟩), #[none, none, (some (Value.str (S "Tables") 362)), (some (Value.str (S "Tables") 370)), (some (Value.builtin "object.__new__")), (some (Value.bool Bool.true))]⟩) ::
  ((nat_lit 158), ⟨(Value.type "getset_descriptor"), none, (Data.fields #[(Value.str (S "__dict__") 401), (Value.ref 157), (Value.builtin "function.__dict__"), (Value.builtin "function.__dict__#set")]), #[]⟩) ::
  ((nat_lit 159), ⟨(Value.type "getset_descriptor"), none, (Data.fields #[(Value.str (S "__weakref__") 403), (Value.ref 157), (Value.builtin "ExceptionGroup.__weakref__"), Value.none]), #[]⟩) ::
  ((nat_lit 162), ⟨(Value.type "tuple"), none, (Data.seq #[] 0), #[]⟩) ::
  ((nat_lit 164), ⟨(Value.type "tuple"), none, (Data.seq #[(Value.str (S "scan") 411), (Value.str (S "found") 412), (Value.str (S "at") 413), (Value.str (S "wanted") 414), (Value.str (S "key") 415)] 0), #[]⟩) ::
  ((nat_lit 165), ⟨(Value.type "tuple"), none, (Data.seq #[] 0), #[]⟩) ::
  ((nat_lit 167), ⟨(Value.type "code"), none, (Data.fields #[(Value.str (S "used_keys") 408), (Value.str (S "used_keys") 409), (Value.str (S "/claim/cut.py") 410), (Value.int 82 0), (Value.int 1 0), (Value.int 0 0), (Value.int 0 0), (Value.int 3 0), (Value.ref 162), (Value.bool Bool.true), (Value.int 181 0), (Value.ref 163), Value.none, (Value.ref 164), (Value.ref 165), (Value.ref 166), (Value.int 416 0), (Value.int 82 0), (Value.str (S "/claim/cut.py") 417)]), #[]⟩) ::
  ((nat_lit 168), ⟨(Value.type "function"), none, (Data.func ⟨(S "used_keys"), (S "used_keys"), (fA 10), (FuncBody.stmts (fB 10)), (fS 10), 3, [], Value.none, Value.none, Value.none, (Value.str (S "pixelpress.tables") 360), none, (Value.ref 167), Value.none, 0⟩), #[]⟩) ::
  ((nat_lit 169), ⟨(Value.type "tuple"), none, (Data.seq #[] 0), #[]⟩) ::
  ((nat_lit 171), ⟨(Value.type "tuple"), none, (Data.seq #[(Value.str (S "tables") 424), (Value.str (S "scan") 425), (Value.str (S "found") 426), (Value.str (S "key") 427), (Value.str (S "counts") 428), (Value.str (S "symbols") 429)] 0), #[]⟩) ::
  ((nat_lit 172), ⟨(Value.type "tuple"), none, (Data.seq #[] 0), #[]⟩) ::
  ((nat_lit 174), ⟨(Value.type "code"), none, (Data.fields #[(Value.str (S "made_codes") 421), (Value.str (S "made_codes") 422), (Value.str (S "/claim/cut.py") 423), (Value.int 95 0), (Value.int 2 0), (Value.int 0 0), (Value.int 0 0), (Value.int 3 0), (Value.ref 169), (Value.bool Bool.true), (Value.int 181 0), (Value.ref 170), Value.none, (Value.ref 171), (Value.ref 172), (Value.ref 173), (Value.int 430 0), (Value.int 95 0), (Value.str (S "/claim/cut.py") 431)]), #[]⟩) ::
  ((nat_lit 175), ⟨(Value.type "function"), none, (Data.func ⟨(S "made_codes"), (S "made_codes"), (fA 11), (FuncBody.stmts (fB 11)), (fS 11), 3, [], Value.none, Value.none, Value.none, (Value.str (S "pixelpress.block_coders") 419), none, (Value.ref 174), Value.none, 0⟩), #[]⟩) ::
  ((nat_lit 183), ⟨(Value.type "tuple"), none, (Data.seq #[] 0), #[]⟩) ::
  ((nat_lit 185), ⟨(Value.type "tuple"), none, (Data.seq #[(Value.str (S "self") 450), (Value.str (S "octets") 451)] 0), #[]⟩) ::
  ((nat_lit 186), ⟨(Value.type "tuple"), none, (Data.seq #[] 0), #[]⟩) ::
  ((nat_lit 188), ⟨(Value.type "code"), none, (Data.fields #[(Value.str (S "__init__") 447), (Value.str (S "BitReader.__init__") 448), (Value.str (S "/claim/cut.py") 449), (Value.int 104 0), (Value.int 2 0), (Value.int 0 0), (Value.int 0 0), (Value.int 3 0), (Value.ref 183), (Value.bool Bool.true), (Value.int 181 0), (Value.ref 184), Value.none, (Value.ref 185), (Value.ref 186), (Value.ref 187), (Value.int 452 0), (Value.int 104 0), (Value.str (S "/claim/cut.py") 453)]), #[]⟩) ::
  ((nat_lit 189), ⟨(Value.type "function"), none, (Data.func ⟨(S "__init__"), (S "BitReader.__init__"), (fA 12), (FuncBody.stmts (fB 12)), (fS 12), 3, [], Value.none, Value.none, Value.none, (Value.str (S "pixelpress.bits") 433), none, (Value.ref 188), Value.none, 0⟩), #[]⟩) ::
  ((nat_lit 190), ⟨(Value.type "tuple"), none, (Data.seq #[] 0), #[]⟩) ::
  ((nat_lit 192), ⟨(Value.type "tuple"), none, (Data.seq #[(Value.str (S "self") 458)] 0), #[]⟩) ::
  ((nat_lit 193), ⟨(Value.type "tuple"), none, (Data.seq #[] 0), #[]⟩) ::
  ((nat_lit 195), ⟨(Value.type "code"), none, (Data.fields #[(Value.str (S "left") 455), (Value.str (S "BitReader.left") 456), (Value.str (S "/claim/cut.py") 457), (Value.int 108 0), (Value.int 1 0), (Value.int 0 0), (Value.int 0 0), (Value.int 3 0), (Value.ref 190), (Value.bool Bool.true), (Value.int 181 0), (Value.ref 191), Value.none, (Value.ref 192), (Value.ref 193), (Value.ref 194), (Value.int 459 0), (Value.int 108 0), (Value.str (S "/claim/cut.py") 460)]), #[]⟩) ::
  ((nat_lit 196), ⟨(Value.type "function"), none, (Data.func ⟨(S "left"), (S "BitReader.left"), (fA 13), (FuncBody.stmts (fB 13)), (fS 13), 3, [], Value.none, Value.none, Value.none, (Value.str (S "pixelpress.bits") 433), none, (Value.ref 195), Value.none, 0⟩), #[]⟩) ::
  ((nat_lit 197), ⟨(Value.type "tuple"), none, (Data.seq #[] 0), #[]⟩) ::
  ((nat_lit 199), ⟨(Value.type "tuple"), none, (Data.seq #[(Value.str (S "self") 465), (Value.str (S "found") 466)] 0), #[]⟩) ::
  ((nat_lit 200), ⟨(Value.type "tuple"), none, (Data.seq #[] 0), #[]⟩) ::
  ((nat_lit 202), ⟨(Value.type "code"), none, (Data.fields #[(Value.str (S "bit") 462), (Value.str (S "BitReader.bit") 463), (Value.str (S "/claim/cut.py") 464), (Value.int 111 0), (Value.int 1 0), (Value.int 0 0), (Value.int 0 0), (Value.int 3 0), (Value.ref 197), (Value.bool Bool.true), (Value.int 181 0), (Value.ref 198), Value.none, (Value.ref 199), (Value.ref 200), (Value.ref 201), (Value.int 467 0), (Value.int 111 0), (Value.str (S "/claim/cut.py") 468)]), #[]⟩) ::
  ((nat_lit 203), ⟨(Value.type "function"), none, (Data.func ⟨(S "bit"), (S "BitReader.bit"), (fA 14), (FuncBody.stmts (fB 14)), (fS 14), 3, [], Value.none, Value.none, Value.none, (Value.str (S "pixelpress.bits") 433), none, (Value.ref 202), Value.none, 0⟩), #[]⟩) ::
  ((nat_lit 204), ⟨(Value.type "tuple"), none, (Data.seq #[] 0), #[]⟩) ::
  ((nat_lit 206), ⟨(Value.type "tuple"), none, (Data.seq #[(Value.str (S "self") 473), (Value.str (S "size") 474), (Value.str (S "found") 475), (Value.str (S "turn") 476)] 0), #[]⟩) ::
  ((nat_lit 207), ⟨(Value.type "tuple"), none, (Data.seq #[] 0), #[]⟩) ::
  ((nat_lit 209), ⟨(Value.type "code"), none, (Data.fields #[(Value.str (S "bits") 470), (Value.str (S "BitReader.bits") 471), (Value.str (S "/claim/cut.py") 472), (Value.int 118 0), (Value.int 2 0), (Value.int 0 0), (Value.int 0 0), (Value.int 3 0), (Value.ref 204), (Value.bool Bool.true), (Value.int 181 0), (Value.ref 205), Value.none, (Value.ref 206), (Value.ref 207), (Value.ref 208), (Value.int 477 0), (Value.int 118 0), (Value.str (S "/claim/cut.py") 478)]), #[]⟩) ::
  ((nat_lit 210), ⟨(Value.type "function"), none, (Data.func ⟨(S "bits"), (S "BitReader.bits"), (fA 15), (FuncBody.stmts (fB 15)), (fS 15), 3, [], Value.none, Value.none, Value.none, (Value.str (S "pixelpress.bits") 433), none, (Value.ref 209), Value.none, 0⟩), #[]⟩) ::
  ((nat_lit 211), ⟨(Value.type "tuple"), none, (Data.seq #[(Value.str (S "at") 480), (Value.str (S "source") 481)] 0), #[]⟩) ::
  ((nat_lit 212), ⟨(Value.type "dict"), none, (Data.dict #[⟨(PyData.keyHash P (S "__module__")), (Value.str (S "__module__") 442), (Value.str (S "pixelpress.bits") 433)⟩, ⟨(PyData.keyHash P (S "__firstlineno__")), (Value.str (S "__firstlineno__") 446), (Value.int 102 445)⟩, ⟨(PyData.keyHash P (S "__init__")), (Value.str (S "__init__") 454), (Value.ref 189)⟩, ⟨(PyData.keyHash P (S "left")), (Value.str (S "left") 461), (Value.ref 196)⟩, ⟨(PyData.keyHash P (S "bit")), (Value.str (S "bit") 469), (Value.ref 203)⟩, ⟨(PyData.keyHash P (S "bits")), (Value.str (S "bits") 479), (Value.ref 210)⟩, ⟨(PyData.keyHash P (S "__static_attributes__")), (Value.str (S "__static_attributes__") 482), (Value.ref 211)⟩, ⟨(PyData.keyHash P (S "__dict__")), (Value.str (S "__dict__") 484), (Value.ref 214)⟩, ⟨(PyData.keyHash P (S "__weakref__")), (Value.str (S "__weakref__") 486), (Value.ref 215)⟩, ⟨(PyData.keyHash P (S "__doc__")), (Value.str (S "__doc__") 487), Value.none⟩] 4), #[]⟩) ::
  ((nat_lit 213), ⟨(Value.type "type"), none, (Data.cls ⟨(S "BitReader"), [(Value.type "object")], [(Value.ref 213), (Value.type "object")], 212, (S "BitReader"), Bool.true, [], [], Bool.false, none, Bool.false⟩), #[none, none, (some (Value.str (S "BitReader") 435)), (some (Value.str (S "BitReader") 443)), (some (Value.builtin "object.__new__")), (some (Value.bool Bool.true))]⟩) ::
  ((nat_lit 214), ⟨(Value.type "getset_descriptor"), none, (Data.fields #[(Value.str (S "__dict__") 483), (Value.ref 213), (Value.builtin "function.__dict__"), (Value.builtin "function.__dict__#set")]), #[]⟩) ::
  ((nat_lit 215), ⟨(Value.type "getset_descriptor"), none, (Data.fields #[(Value.str (S "__weakref__") 485), (Value.ref 213), (Value.builtin "ExceptionGroup.__weakref__"), Value.none]), #[]⟩) ::
  ((nat_lit 225), ⟨(Value.type "tuple"), none, (Data.seq #[] 0), #[]⟩) ::
  ((nat_lit 227), ⟨(Value.type "tuple"), none, (Data.seq #[(Value.str (S "self") 507), (Value.str (S "places") 508), (Value.str (S "dc_slots") 509), (Value.str (S "ac_slots") 510), (Value.str (S "start") 511), (Value.str (S "end") 512), (Value.str (S "high") 513), (Value.str (S "low") 514)] 0), #[]⟩) ::
  ((nat_lit 228), ⟨(Value.type "tuple"), none, (Data.seq #[] 0), #[]⟩) ::
  ((nat_lit 230), ⟨(Value.type "code"), none, (Data.fields #[(Value.str (S "__init__") 504), (Value.str (S "Scan.__init__") 505), (Value.str (S "/claim/cut.py") 506), (Value.int 128 0), (Value.int 8 0), (Value.int 0 0), (Value.int 0 0), (Value.int 3 0), (Value.ref 225), (Value.bool Bool.true), (Value.int 181 0), (Value.ref 226), Value.none, (Value.ref 227), (Value.ref 228), (Value.ref 229), (Value.int 515 0), (Value.int 128 0), (Value.str (S "/claim/cut.py") 516)]), #[]⟩) ::
  ((nat_lit 231), ⟨(Value.type "function"), none, (Data.func ⟨(S "__init__"), (S "Scan.__init__"), (fA 16), (FuncBody.stmts (fB 16)), (fS 16), 3, [], Value.none, Value.none, Value.none, (Value.str (S "pixelpress.scans") 490), none, (Value.ref 230), Value.none, 0⟩), #[]⟩) ::
  ((nat_lit 232), ⟨(Value.type "tuple"), none, (Data.seq #[] 0), #[]⟩) ::
  ((nat_lit 234), ⟨(Value.type "tuple"), none, (Data.seq #[(Value.str (S "self") 521)] 0), #[]⟩) ::
  ((nat_lit 235), ⟨(Value.type "tuple"), none, (Data.seq #[] 0), #[]⟩) ::
  ((nat_lit 237), ⟨(Value.type "code"), none, (Data.fields #[(Value.str (S "is_alone") 518), (Value.str (S "Scan.is_alone") 519), (Value.str (S "/claim/cut.py") 520), (Value.int 137 0), (Value.int 1 0), (Value.int 0 0), (Value.int 0 0), (Value.int 3 0), (Value.ref 232), (Value.bool Bool.true), (Value.int 181 0), (Value.ref 233), Value.none, (Value.ref 234), (Value.ref 235), (Value.ref 236), (Value.int 522 0), (Value.int 137 0), (Value.str (S "/claim/cut.py") 523)]), #[]⟩) ::
  ((nat_lit 238), ⟨(Value.type "function"), none, (Data.func ⟨(S "is_alone"), (S "Scan.is_alone"), (fA 17), (FuncBody.stmts (fB 17)), (fS 18), 3, [], Value.none, Value.none, Value.none, (Value.str (S "pixelpress.scans") 490), none, (Value.ref 237), Value.none, 0⟩), #[]⟩) ::
  ((nat_lit 239), ⟨(Value.type "tuple"), none, (Data.seq #[] 0), #[]⟩) ::
  ((nat_lit 241), ⟨(Value.type "tuple"), none, (Data.seq #[(Value.str (S "self") 528)] 0), #[]⟩) ::
  ((nat_lit 242), ⟨(Value.type "tuple"), none, (Data.seq #[] 0), #[]⟩) ::
  ((nat_lit 244), ⟨(Value.type "code"), none, (Data.fields #[(Value.str (S "is_finer") 525), (Value.str (S "Scan.is_finer") 526), (Value.str (S "/claim/cut.py") 527), (Value.int 140 0), (Value.int 1 0), (Value.int 0 0), (Value.int 0 0), (Value.int 3 0), (Value.ref 239), (Value.bool Bool.true), (Value.int 181 0), (Value.ref 240), Value.none, (Value.ref 241), (Value.ref 242), (Value.ref 243), (Value.int 529 0), (Value.int 140 0), (Value.str (S "/claim/cut.py") 530)]), #[]⟩) ::
  ((nat_lit 245), ⟨(Value.type "function"), none, (Data.func ⟨(S "is_finer"), (S "Scan.is_finer"), (fA 18), (FuncBody.stmts (fB 18)), (fS 18), 3, [], Value.none, Value.none, Value.none, (Value.str (S "pixelpress.scans") 490), none, (Value.ref 244), Value.none, 0⟩), #[]⟩) ::
  ((nat_lit 246), ⟨(Value.type "tuple"), none, (Data.seq #[(Value.str (S "ac_slots") 532), (Value.str (S "dc_slots") 533), (Value.str (S "end") 534), (Value.str (S "high") 535), (Value.str (S "low") 536), (Value.str (S "places") 537), (Value.str (S "start") 538)] 0), #[]⟩) ::
  ((nat_lit 247), ⟨(Value.type "dict"), none, (Data.dict #[⟨(PyData.keyHash P (S "__module__")), (Value.str (S "__module__") 499), (Value.str (S "pixelpress.scans") 490)⟩, ⟨(PyData.keyHash P (S "__firstlineno__")), (Value.str (S "__firstlineno__") 503), (Value.int 126 502)⟩, ⟨(PyData.keyHash P (S "__init__")), (Value.str (S "__init__") 517), (Value.ref 231)⟩, ⟨(PyData.keyHash P (S "is_alone")), (Value.str (S "is_alone") 524), (Value.ref 238)⟩, ⟨(PyData.keyHash P (S "is_finer")), (Value.str (S "is_finer") 531), (Value.ref 245)⟩, ⟨(PyData.keyHash P (S "__static_attributes__")), (Value.str (S "__static_attributes__") 539), (Value.ref 246)⟩, ⟨(PyData.keyHash P (S "__dict__")), (Value.str (S "__dict__") 541), (Value.ref 249)⟩, ⟨(PyData.keyHash P (S "__weakref__")), (Value.str (S "__weakref__") 543), (Value.ref 250)⟩, ⟨(PyData.keyHash P (S "__doc__")), (Value.str (S "__doc__") 544), Value.none⟩] 4), #[]⟩) ::
  ((nat_lit 248), ⟨(Value.type "type"), none, (Data.cls ⟨(S "Scan"), [(Value.type "object")], [(Value.ref 248), (Value.type "object")], 247, (S "Scan"), Bool.true, [], [], Bool.false, none, Bool.false⟩), #[none, none, (some (Value.str (S "Scan") 492)), (some (Value.str (S "Scan") 500)), (some (Value.builtin "object.__new__")), (some (Value.bool Bool.true))]⟩) ::
  ((nat_lit 249), ⟨(Value.type "getset_descriptor"), none, (Data.fields #[(Value.str (S "__dict__") 540), (Value.ref 248), (Value.builtin "function.__dict__"), (Value.builtin "function.__dict__#set")]), #[]⟩) ::
  ((nat_lit 250), ⟨(Value.type "getset_descriptor"), none, (Data.fields #[(Value.str (S "__weakref__") 542), (Value.ref 248), (Value.builtin "ExceptionGroup.__weakref__"), Value.none]), #[]⟩) ::
  ((nat_lit 253), ⟨(Value.type "tuple"), none, (Data.seq #[] 0), #[]⟩) ::
  ((nat_lit 255), ⟨(Value.type "tuple"), none, (Data.seq #[(Value.str (S "script") 552), (Value.str (S "k") 553), (Value.str (S "cell") 554), (Value.str (S "big") 555), (Value.str (S "mixed") 556)] 0), #[]⟩) ::
  ((nat_lit 256), ⟨(Value.type "tuple"), none, (Data.seq #[] 0), #[]⟩) ::
  ((nat_lit 258), ⟨(Value.type "code"), none, (Data.fields #[(Value.str (S "_law_pool") 549), (Value.str (S "_law_pool") 550), (Value.str (S "/claim/cut.py") 551), (Value.int 143 0), (Value.int 2 0), (Value.int 0 0), (Value.int 0 0), (Value.int 3 0), (Value.ref 253), (Value.bool Bool.true), (Value.int 181 0), (Value.ref 254), Value.none, (Value.ref 255), (Value.ref 256), (Value.ref 257), (Value.int 557 0), (Value.int 143 0), (Value.str (S "/claim/cut.py") 558)]), #[]⟩) ::
  ((nat_lit 259), ⟨(Value.type "function"), none, (Data.func ⟨(S "_law_pool"), (S "_law_pool"), (fA 19), (FuncBody.stmts (fB 19)), (fS 19), 3, [], Value.none, Value.none, Value.none, (Value.str (S "law_ok0140_01") 547), none, (Value.ref 258), Value.none, 0⟩), #[]⟩) ::
  ((nat_lit 260), ⟨(Value.type "tuple"), none, (Data.seq #[] 0), #[]⟩) ::
  ((nat_lit 262), ⟨(Value.type "tuple"), none, (Data.seq #[(Value.str (S "source") 563), (Value.str (S "top") 564), (Value.str (S "got") 565)] 0), #[]⟩) ::
  ((nat_lit 263), ⟨(Value.type "tuple"), none, (Data.seq #[] 0), #[]⟩) ::
  ((nat_lit 265), ⟨(Value.type "code"), none, (Data.fields #[(Value.str (S "_law_take") 560), (Value.str (S "_law_take") 561), (Value.str (S "/claim/cut.py") 562), (Value.int 150 0), (Value.int 2 0), (Value.int 0 0), (Value.int 0 0), (Value.int 3 0), (Value.ref 260), (Value.bool Bool.true), (Value.int 181 0), (Value.ref 261), Value.none, (Value.ref 262), (Value.ref 263), (Value.ref 264), (Value.int 566 0), (Value.int 150 0), (Value.str (S "/claim/cut.py") 567)]), #[]⟩) ::
  ((nat_lit 266), ⟨(Value.type "function"), none, (Data.func ⟨(S "_law_take"), (S "_law_take"), (fA 20), (FuncBody.stmts (fB 20)), (fS 20), 3, [], Value.none, Value.none, Value.none, (Value.str (S "law_ok0140_01") 547), none, (Value.ref 265), Value.none, 0⟩), #[]⟩) ::
  ((nat_lit 267), ⟨(Value.type "tuple"), none, (Data.seq #[] 0), #[]⟩) ::
  ((nat_lit 269), ⟨(Value.type "tuple"), none, (Data.seq #[(Value.str (S "source") 572), (Value.str (S "things") 573)] 0), #[]⟩) ::
  ((nat_lit 270), ⟨(Value.type "tuple"), none, (Data.seq #[] 0), #[]⟩) ::
  ((nat_lit 272), ⟨(Value.type "code"), none, (Data.fields #[(Value.str (S "_law_one") 569), (Value.str (S "_law_one") 570), (Value.str (S "/claim/cut.py") 571), (Value.int 157 0), (Value.int 2 0), (Value.int 0 0), (Value.int 0 0), (Value.int 3 0), (Value.ref 267), (Value.bool Bool.true), (Value.int 181 0), (Value.ref 268), Value.none, (Value.ref 269), (Value.ref 270), (Value.ref 271), (Value.int 574 0), (Value.int 157 0), (Value.str (S "/claim/cut.py") 575)]), #[]⟩) ::
  ((nat_lit 273), ⟨(Value.type "function"), none, (Data.func ⟨(S "_law_one"), (S "_law_one"), (fA 21), (FuncBody.stmts (fB 21)), (fS 21), 3, [], Value.none, Value.none, Value.none, (Value.str (S "law_ok0140_01") 547), none, (Value.ref 272), Value.none, 0⟩), #[]⟩) ::
  ((nat_lit 274), ⟨(Value.type "tuple"), none, (Data.seq #[] 0), #[]⟩) ::
  ((nat_lit 276), ⟨(Value.type "tuple"), none, (Data.seq #[(Value.str (S "source") 580), (Value.str (S "box") 581), (Value.str (S "counts") 582), (Value.str (S "symbols") 583), (Value.str (S "codes") 584), (Value.str (S "free") 585), (Value.str (S "size") 586), (Value.str (S "turn") 587), (Value.str (S "symbol") 588)] 0), #[]⟩) ::
  ((nat_lit 277), ⟨(Value.type "tuple"), none, (Data.seq #[] 0), #[]⟩) ::
  ((nat_lit 279), ⟨(Value.type "code"), none, (Data.fields #[(Value.str (S "_law_head") 577), (Value.str (S "_law_head") 578), (Value.str (S "/claim/cut.py") 579), (Value.int 159 0), (Value.int 2 0), (Value.int 0 0), (Value.int 0 0), (Value.int 3 0), (Value.ref 274), (Value.bool Bool.true), (Value.int 181 0), (Value.ref 275), Value.none, (Value.ref 276), (Value.ref 277), (Value.ref 278), (Value.int 589 0), (Value.int 159 0), (Value.str (S "/claim/cut.py") 590)]), #[]⟩) ::
  ((nat_lit 280), ⟨(Value.type "function"), none, (Data.func ⟨(S "_law_head"), (S "_law_head"), (fA 22), (FuncBody.stmts (fB 22)), (fS 22), 3, [], Value.none, Value.none, Value.none, (Value.str (S "law_ok0140_01") 547), none, (Value.ref 279), Value.none, 0⟩), #[]⟩) ::
  ((nat_lit 281), ⟨(Value.type "tuple"), none, (Data.seq #[] 0), #[]⟩) ::
  ((nat_lit 283), ⟨(Value.type "tuple"), none, (Data.seq #[(Value.str (S "head") 595), (Value.str (S "counts") 596)] 0), #[]⟩) ::
  ((nat_lit 284), ⟨(Value.type "tuple"), none, (Data.seq #[] 0), #[]⟩) ::
  ((nat_lit 286), ⟨(Value.type "code"), none, (Data.fields #[(Value.str (S "_law_spoilt") 592), (Value.str (S "_law_spoilt") 593), (Value.str (S "/claim/cut.py") 594), (Value.int 172 0), (Value.int 1 0), (Value.int 0 0), (Value.int 0 0), (Value.int 3 0), (Value.ref 281), (Value.bool Bool.true), (Value.int 181 0), (Value.ref 282), Value.none, (Value.ref 283), (Value.ref 284), (Value.ref 285), (Value.int 597 0), (Value.int 172 0), (Value.str (S "/claim/cut.py") 598)]), #[]⟩) ::
  ((nat_lit 287), ⟨(Value.type "function"), none, (Data.func ⟨(S "_law_spoilt"), (S "_law_spoilt"), (fA 23), (FuncBody.stmts (fB 23)), (fS 23), 3, [], Value.none, Value.none, Value.none, (Value.str (S "law_ok0140_01") 547), none, (Value.ref 286), Value.none, 0⟩), #[]⟩) ::
  ((nat_lit 288), ⟨(Value.type "tuple"), none, (Data.seq #[] 0), #[]⟩) ::
  ((nat_lit 290), ⟨(Value.type "tuple"), none, (Data.seq #[(Value.str (S "scan") 603), (Value.str (S "found") 604), (Value.str (S "spot") 605)] 0), #[]⟩) ::
  ((nat_lit 291), ⟨(Value.type "tuple"), none, (Data.seq #[] 0), #[]⟩) ::
  ((nat_lit 293), ⟨(Value.type "code"), none, (Data.fields #[(Value.str (S "_law_wanted") 600), (Value.str (S "_law_wanted") 601), (Value.str (S "/claim/cut.py") 602), (Value.int 176 0), (Value.int 1 0), (Value.int 0 0), (Value.int 0 0), (Value.int 3 0), (Value.ref 288), (Value.bool Bool.true), (Value.int 181 0), (Value.ref 289), Value.none, (Value.ref 290), (Value.ref 291), (Value.ref 292), (Value.int 606 0), (Value.int 176 0), (Value.str (S "/claim/cut.py") 607)]), #[]⟩) ::
  ((nat_lit 294), ⟨(Value.type "function"), none, (Data.func ⟨(S "_law_wanted"), (S "_law_wanted"), (fA 24), (FuncBody.stmts (fB 24)), (fS 24), 3, [], Value.none, Value.none, Value.none, (Value.str (S "law_ok0140_01") 547), none, (Value.ref 293), Value.none, 0⟩), #[]⟩) ::
  ((nat_lit 295), ⟨(Value.type "tuple"), none, (Data.seq #[] 0), #[]⟩) ::
  ((nat_lit 298), ⟨(Value.type "code"), none, (Data.fields #[(Value.str (S "_law_octets") 609), (Value.str (S "_law_octets") 610), (Value.str (S "/claim/cut.py") 611), (Value.int 184 0), (Value.int 1 0), (Value.int 0 0), (Value.int 0 0), (Value.int 3 0), (Value.ref 295), (Value.bool Bool.true), (Value.int 181 0), (Value.ref 296), Value.none, Value.none, Value.none, (Value.ref 297), (Value.int 612 0), (Value.int 184 0), (Value.str (S "/claim/cut.py") 613)]), #[]⟩) ::
  ((nat_lit 299), ⟨(Value.type "function"), none, (Data.func ⟨(S "_law_octets"), (S "_law_octets"), (fA 25), (FuncBody.stmts (fB 25)), (fS 25), 3, [], Value.none, Value.none, Value.none, (Value.str (S "law_ok0140_01") 547), none, (Value.ref 298), Value.none, 0⟩), #[]⟩) ::
  ((nat_lit 300), ⟨(Value.type "tuple"), none, (Data.seq #[] 0), #[]⟩) ::
  ((nat_lit 303), ⟨(Value.type "code"), none, (Data.fields #[(Value.str (S "_law_reads") 615), (Value.str (S "_law_reads") 616), (Value.str (S "/claim/cut.py") 617), (Value.int 187 0), (Value.int 3 0), (Value.int 0 0), (Value.int 0 0), (Value.int 3 0), (Value.ref 300), (Value.bool Bool.true), (Value.int 181 0), (Value.ref 301), Value.none, Value.none, Value.none, (Value.ref 302), (Value.int 618 0), (Value.int 187 0), (Value.str (S "/claim/cut.py") 619)]), #[]⟩) ::
  ((nat_lit 304), ⟨(Value.type "function"), none, (Data.func ⟨(S "_law_reads"), (S "_law_reads"), (fA 26), (FuncBody.stmts (fB 26)), (fS 26), 3, [], Value.none, Value.none, Value.none, (Value.str (S "law_ok0140_01") 547), none, (Value.ref 303), Value.none, 0⟩), #[]⟩) ::
  ((nat_lit 305), ⟨(Value.type "tuple"), none, (Data.seq #[] 0), #[]⟩) ::
  ((nat_lit 308), ⟨(Value.type "code"), none, (Data.fields #[(Value.str (S "law") 621), (Value.str (S "law") 622), (Value.str (S "/claim/cut.py") 623), (Value.int 196 0), (Value.int 1 0), (Value.int 0 0), (Value.int 0 0), (Value.int 3 0), (Value.ref 305), (Value.bool Bool.true), (Value.int 181 0), (Value.ref 306), Value.none, Value.none, Value.none, (Value.ref 307), (Value.int 624 0), (Value.int 196 0), (Value.str (S "/claim/cut.py") 625)]), #[]⟩) ::
  ((nat_lit 309), ⟨(Value.type "function"), none, (Data.func ⟨(S "law"), (S "law"), (fA 27), (FuncBody.stmts (fB 27)), (fS 27), 3, [], Value.none, Value.none, Value.none, (Value.str (S "law_ok0140_01") 547), none, (Value.ref 308), Value.none, 0⟩), #[]⟩) ::
  [] : List (Nat × Obj))
noncomputable def view_39 : Program := { Challenge.rw_ok0140_01.row.toRowW.1 with main := { (Challenge.rw_ok0140_01.row.toRowW.1).main with body := (mS 0) ::
  (mS 2) ::
  (mS 3) ::
  (mS 4) ::
  (mS 5) ::
  (mS 7) ::
  (mS 8) ::
  (mS 9) ::
  (mS 10) ::
  (mS 11) ::
  (mS 13) ::
  (mS 14) ::
  (mS 16) ::
  (mS 18) ::
  (mS 20) ::
  (mS 22) ::
  (mS 23) ::
  (mS 24) ::
  (mS 25) ::
  (mS 26) ::
  (mS 27) ::
  (mS 28) ::
  (mS 29) ::
  (mS 30) ::
  [] } }
noncomputable def kO (P : Params) (j : Nat) : Obj := ((heap_39 P).map Prod.snd).getD j (W.boot_o_0 P)
noncomputable def o_43 : Params → Obj := fun P => ⟨(Value.type "tuple"), none, (Data.seq #[] 0), #[]⟩
noncomputable def o_44 : Params → Obj := fun P => ⟨Value.none, none, (Data.fields #[]), #[]⟩
noncomputable def o_45 : Params → Obj := fun P => ⟨(Value.type "code"), none, (Data.fields #[(Value.str (S "<module>") 182), (Value.str (S "<module>") 183), (Value.str (S "/claim/cut.py") 184), (Value.int 1 0), (Value.int 0 0), (Value.int 0 0), (Value.int 0 0), (Value.int 0 0), (Value.ref 11), (Value.bool Bool.false), (Value.int 181 0), (Value.ref 12), Value.none, Value.none, Value.none, Value.none, (Value.int 185 0), (Value.int 1 0), (Value.str (S "/claim/cut.py") 186)]), #[]⟩
noncomputable def o_46 : Params → Obj := fun P => ⟨(Value.type "frame"), none, Data.plain, #[(some (Value.ref 13)), (some (Value.ref 3)), (some (Value.ref 3)), none, (some (Value.str (S "__main__") 164)), none, (some (Value.ref 0))]⟩
noncomputable def heap_I : Params → Heap := fun P => ⟨⟨W.boot_o_0 P :: W.boot_o_1 P :: W.boot_o_2 P :: W.boot_o_3 P :: W.boot_o_4 P :: W.boot_o_5 P :: W.boot_o_6 P :: W.boot_o_7 P :: W.boot_o_8 P :: W.boot_o_9 P :: W.boot_o_10 P :: o_43 P :: o_44 P :: o_45 P :: o_46 P :: []⟩, ⟨[], [], [], 0, [], [], Bool.false, #[], [], 0, Bool.false, Bool.false, Bool.false, 0, [2000, 10, 10], Bool.false, 0, Bool.true, [], [], 0, Bool.false⟩⟩
noncomputable def o_329 : Params → Obj := fun P => ⟨Value.none, none, (Data.fields #[(Value.int 1 0), (Value.int 0 0), (Value.ref 20), (Value.int 5 0), (Value.int 0 0), (Value.ref 27), (Value.int 10 0), (Value.int 0 0), (Value.ref 47), (Value.int 12 0), (Value.int 0 0), (Value.ref 59), (Value.int 14 0), (Value.int 0 0), (Value.ref 71), (Value.int 19 0), (Value.int 0 0), (Value.ref 83), (Value.int 31 0), (Value.int 0 0), (Value.ref 90), (Value.int 41 0), (Value.int 0 0), (Value.ref 97), (Value.int 68 0), (Value.int 0 0), (Value.ref 132), (Value.int 82 0), (Value.int 0 0), (Value.ref 167), (Value.int 95 0), (Value.int 0 0), (Value.ref 174), (Value.int 102 0), (Value.int 0 0), (Value.ref 181), (Value.int 126 0), (Value.int 0 0), (Value.ref 223), (Value.int 143 0), (Value.int 0 0), (Value.ref 258), (Value.int 150 0), (Value.int 0 0), (Value.ref 265), (Value.int 157 0), (Value.int 0 0), (Value.ref 272), (Value.int 159 0), (Value.int 0 0), (Value.ref 279), (Value.int 172 0), (Value.int 0 0), (Value.ref 286), (Value.int 176 0), (Value.int 0 0), (Value.ref 293), (Value.int 184 0), (Value.int 0 0), (Value.ref 298), (Value.int 187 0), (Value.int 0 0), (Value.ref 303), (Value.int 196 0), (Value.int 0 0), (Value.ref 308)]), #[]⟩
noncomputable def o_53 : Params → Obj := fun P => ⟨Value.none, none, (Data.fields #[]), #[]⟩
noncomputable def o_56 : Params → Obj := fun P => ⟨Value.none, none, (Data.func ⟨(S "_wall"), (S "_wall"), (fA 0), (FuncBody.stmts (fB 0)), (fS 0), 0, [], Value.none, Value.none, Value.none, Value.none, none, Value.none, Value.none, 0⟩), #[]⟩
noncomputable def o_60 : Params → Obj := fun P => ⟨(Value.type "builtin_function_or_method"), none, (Data.fields #[(Value.builtin "type.__prepare__"), (Value.type "type")]), #[]⟩
noncomputable def o_61 : Params → Obj := fun P => ⟨(Value.type "dict"), none, (Data.dict #[⟨(PyData.keyHash P (S "__module__")), (Value.str (S "__module__") 203), (Value.str (S "pixelpress.errors") 194)⟩, ⟨(PyData.keyHash P (S "__qualname__")), (Value.str (S "__qualname__") 205), (Value.str (S "PressError") 204)⟩, ⟨(PyData.keyHash P (S "__firstlineno__")), (Value.str (S "__firstlineno__") 207), (Value.int 5 206)⟩, ⟨(PyData.keyHash P (S "__init__")), (Value.str (S "__init__") 215), (Value.ref 35)⟩, ⟨(PyData.keyHash P (S "__static_attributes__")), (Value.str (S "__static_attributes__") 217), (Value.ref 36)⟩] 5), #[]⟩
noncomputable def o_62 : Params → Obj := fun P => ⟨(Value.type "tuple"), none, (Data.seq #[] 0), #[]⟩
noncomputable def o_63 : Params → Obj := fun P => ⟨Value.none, none, (Data.fields #[(Value.int 7 0), (Value.int 4 0), (Value.ref 34)]), #[]⟩
noncomputable def o_64 : Params → Obj := fun P => ⟨(Value.type "code"), none, (Data.fields #[(Value.str (S "PressError") 198), (Value.str (S "PressError") 199), (Value.str (S "/claim/cut.py") 200), (Value.int 5 0), (Value.int 0 0), (Value.int 0 0), (Value.int 0 0), (Value.int 0 0), (Value.ref 25), (Value.bool Bool.false), (Value.int 181 0), (Value.ref 26), Value.none, Value.none, Value.none, Value.none, (Value.int 201 0), (Value.int 5 0), (Value.str (S "/claim/cut.py") 202)]), #[]⟩
noncomputable def o_65 : Params → Obj := fun P => ⟨(Value.type "frame"), none, Data.plain, #[(some (Value.ref 27)), (some (Value.ref 3)), (some (Value.ref 24)), none, (some (Value.str (S "pixelpress.errors") 194)), none, (some (Value.ref 0))]⟩
noncomputable def o_67 : Params → Obj := fun P => ⟨Value.none, none, (Data.fields #[]), #[]⟩
noncomputable def o_70 : Params → Obj := fun P => ⟨Value.none, none, (Data.func ⟨(S "__init__"), (S "PressError.__init__"), (fA 1), (FuncBody.stmts (fB 1)), (fS 1), 0, [], Value.none, Value.none, Value.none, Value.none, none, Value.none, Value.none, 0⟩), #[]⟩
noncomputable def o_77 : Params → Obj := fun P => ⟨(Value.type "super"), none, (Data.fields #[(Value.ref 38), (Value.ref 38), (Value.ref 38)]), #[]⟩
noncomputable def o_78 : Params → Obj := fun P => ⟨(Value.type "builtin_function_or_method"), none, (Data.fields #[(Value.builtin "object.__init_subclass__"), (Value.ref 38)]), #[]⟩
noncomputable def o_83 : Params → Obj := fun P => ⟨(Value.type "builtin_function_or_method"), none, (Data.fields #[(Value.builtin "type.__prepare__"), (Value.type "type")]), #[]⟩
noncomputable def o_84 : Params → Obj := fun P => ⟨(Value.type "dict"), none, (Data.dict #[⟨(PyData.keyHash P (S "__module__")), (Value.str (S "__module__") 232), (Value.str (S "pixelpress.errors") 194)⟩, ⟨(PyData.keyHash P (S "__qualname__")), (Value.str (S "__qualname__") 234), (Value.str (S "TableError") 233)⟩, ⟨(PyData.keyHash P (S "__firstlineno__")), (Value.str (S "__firstlineno__") 236), (Value.int 10 235)⟩, ⟨(PyData.keyHash P (S "__static_attributes__")), (Value.str (S "__static_attributes__") 237), (Value.ref 49)⟩] 4), #[]⟩
noncomputable def o_85 : Params → Obj := fun P => ⟨(Value.type "tuple"), none, (Data.seq #[] 0), #[]⟩
noncomputable def o_86 : Params → Obj := fun P => ⟨Value.none, none, (Data.fields #[]), #[]⟩
noncomputable def o_87 : Params → Obj := fun P => ⟨(Value.type "code"), none, (Data.fields #[(Value.str (S "TableError") 227), (Value.str (S "TableError") 228), (Value.str (S "/claim/cut.py") 229), (Value.int 10 0), (Value.int 0 0), (Value.int 0 0), (Value.int 0 0), (Value.int 0 0), (Value.ref 45), (Value.bool Bool.false), (Value.int 181 0), (Value.ref 46), Value.none, Value.none, Value.none, Value.none, (Value.int 230 0), (Value.int 10 0), (Value.str (S "/claim/cut.py") 231)]), #[]⟩
noncomputable def o_88 : Params → Obj := fun P => ⟨(Value.type "frame"), none, Data.plain, #[(some (Value.ref 47)), (some (Value.ref 3)), (some (Value.ref 44)), none, (some (Value.str (S "pixelpress.errors") 194)), none, (some (Value.ref 0))]⟩
noncomputable def o_92 : Params → Obj := fun P => ⟨(Value.type "super"), none, (Data.fields #[(Value.ref 51), (Value.ref 51), (Value.ref 51)]), #[]⟩
noncomputable def o_93 : Params → Obj := fun P => ⟨(Value.type "builtin_function_or_method"), none, (Data.fields #[(Value.builtin "object.__init_subclass__"), (Value.ref 51)]), #[]⟩
noncomputable def o_98 : Params → Obj := fun P => ⟨(Value.type "builtin_function_or_method"), none, (Data.fields #[(Value.builtin "type.__prepare__"), (Value.type "type")]), #[]⟩
noncomputable def o_99 : Params → Obj := fun P => ⟨(Value.type "dict"), none, (Data.dict #[⟨(PyData.keyHash P (S "__module__")), (Value.str (S "__module__") 248), (Value.str (S "pixelpress.errors") 194)⟩, ⟨(PyData.keyHash P (S "__qualname__")), (Value.str (S "__qualname__") 250), (Value.str (S "CodeError") 249)⟩, ⟨(PyData.keyHash P (S "__firstlineno__")), (Value.str (S "__firstlineno__") 252), (Value.int 12 251)⟩, ⟨(PyData.keyHash P (S "__static_attributes__")), (Value.str (S "__static_attributes__") 253), (Value.ref 61)⟩] 4), #[]⟩
noncomputable def o_100 : Params → Obj := fun P => ⟨(Value.type "tuple"), none, (Data.seq #[] 0), #[]⟩
noncomputable def o_101 : Params → Obj := fun P => ⟨Value.none, none, (Data.fields #[]), #[]⟩
noncomputable def o_102 : Params → Obj := fun P => ⟨(Value.type "code"), none, (Data.fields #[(Value.str (S "CodeError") 243), (Value.str (S "CodeError") 244), (Value.str (S "/claim/cut.py") 245), (Value.int 12 0), (Value.int 0 0), (Value.int 0 0), (Value.int 0 0), (Value.int 0 0), (Value.ref 57), (Value.bool Bool.false), (Value.int 181 0), (Value.ref 58), Value.none, Value.none, Value.none, Value.none, (Value.int 246 0), (Value.int 12 0), (Value.str (S "/claim/cut.py") 247)]), #[]⟩
noncomputable def o_103 : Params → Obj := fun P => ⟨(Value.type "frame"), none, Data.plain, #[(some (Value.ref 59)), (some (Value.ref 3)), (some (Value.ref 56)), none, (some (Value.str (S "pixelpress.errors") 194)), none, (some (Value.ref 0))]⟩
noncomputable def o_107 : Params → Obj := fun P => ⟨(Value.type "super"), none, (Data.fields #[(Value.ref 63), (Value.ref 63), (Value.ref 63)]), #[]⟩
noncomputable def o_108 : Params → Obj := fun P => ⟨(Value.type "builtin_function_or_method"), none, (Data.fields #[(Value.builtin "object.__init_subclass__"), (Value.ref 63)]), #[]⟩
noncomputable def o_113 : Params → Obj := fun P => ⟨(Value.type "builtin_function_or_method"), none, (Data.fields #[(Value.builtin "type.__prepare__"), (Value.type "type")]), #[]⟩
noncomputable def o_114 : Params → Obj := fun P => ⟨(Value.type "dict"), none, (Data.dict #[⟨(PyData.keyHash P (S "__module__")), (Value.str (S "__module__") 264), (Value.str (S "pixelpress.errors") 194)⟩, ⟨(PyData.keyHash P (S "__qualname__")), (Value.str (S "__qualname__") 266), (Value.str (S "CutError") 265)⟩, ⟨(PyData.keyHash P (S "__firstlineno__")), (Value.str (S "__firstlineno__") 268), (Value.int 14 267)⟩, ⟨(PyData.keyHash P (S "__static_attributes__")), (Value.str (S "__static_attributes__") 269), (Value.ref 73)⟩] 4), #[]⟩
noncomputable def o_115 : Params → Obj := fun P => ⟨(Value.type "tuple"), none, (Data.seq #[] 0), #[]⟩
noncomputable def o_116 : Params → Obj := fun P => ⟨Value.none, none, (Data.fields #[]), #[]⟩
noncomputable def o_117 : Params → Obj := fun P => ⟨(Value.type "code"), none, (Data.fields #[(Value.str (S "CutError") 259), (Value.str (S "CutError") 260), (Value.str (S "/claim/cut.py") 261), (Value.int 14 0), (Value.int 0 0), (Value.int 0 0), (Value.int 0 0), (Value.int 0 0), (Value.ref 69), (Value.bool Bool.false), (Value.int 181 0), (Value.ref 70), Value.none, Value.none, Value.none, Value.none, (Value.int 262 0), (Value.int 14 0), (Value.str (S "/claim/cut.py") 263)]), #[]⟩
noncomputable def o_118 : Params → Obj := fun P => ⟨(Value.type "frame"), none, Data.plain, #[(some (Value.ref 71)), (some (Value.ref 3)), (some (Value.ref 68)), none, (some (Value.str (S "pixelpress.errors") 194)), none, (some (Value.ref 0))]⟩
noncomputable def o_122 : Params → Obj := fun P => ⟨(Value.type "super"), none, (Data.fields #[(Value.ref 75), (Value.ref 75), (Value.ref 75)]), #[]⟩
noncomputable def o_123 : Params → Obj := fun P => ⟨(Value.type "builtin_function_or_method"), none, (Data.fields #[(Value.builtin "object.__init_subclass__"), (Value.ref 75)]), #[]⟩
noncomputable def o_125 : Params → Obj := fun P => ⟨Value.none, none, (Data.fields #[]), #[]⟩
noncomputable def o_128 : Params → Obj := fun P => ⟨Value.none, none, (Data.func ⟨(S "code_rows"), (S "code_rows"), (fA 2), (FuncBody.stmts (fB 2)), (fS 2), 0, [], Value.none, Value.none, Value.none, Value.none, none, Value.none, Value.none, 0⟩), #[]⟩
noncomputable def o_132 : Params → Obj := fun P => ⟨Value.none, none, (Data.fields #[]), #[]⟩
noncomputable def o_135 : Params → Obj := fun P => ⟨Value.none, none, (Data.func ⟨(S "check_told"), (S "check_told"), (fA 3), (FuncBody.stmts (fB 3)), (fS 3), 0, [], Value.none, Value.none, Value.none, Value.none, none, Value.none, Value.none, 0⟩), #[]⟩
noncomputable def o_140 : Params → Obj := fun P => ⟨(Value.type "tuple"), none, (Data.seq #[] 0), #[]⟩
noncomputable def o_141 : Params → Obj := fun P => ⟨(Value.type "builtin_function_or_method"), none, (Data.fields #[(Value.builtin "type.__prepare__"), (Value.type "type")]), #[]⟩
noncomputable def o_142 : Params → Obj := fun P => ⟨(Value.type "dict"), none, (Data.dict #[⟨(PyData.keyHash P (S "__module__")), (Value.str (S "__module__") 308), (Value.str (S "pixelpress.huffman") 273)⟩, ⟨(PyData.keyHash P (S "__qualname__")), (Value.str (S "__qualname__") 310), (Value.str (S "HuffTable") 309)⟩, ⟨(PyData.keyHash P (S "__firstlineno__")), (Value.str (S "__firstlineno__") 312), (Value.int 41 311)⟩, ⟨(PyData.keyHash P (S "__init__")), (Value.str (S "__init__") 326), (Value.ref 105)⟩, ⟨(PyData.keyHash P (S "code")), (Value.str (S "code") 335), (Value.ref 112)⟩, ⟨(PyData.keyHash P (S "read")), (Value.str (S "read") 347), (Value.ref 119)⟩, ⟨(PyData.keyHash P (S "__static_attributes__")), (Value.str (S "__static_attributes__") 352), (Value.ref 120)⟩] 7), #[]⟩
noncomputable def o_143 : Params → Obj := fun P => ⟨(Value.type "tuple"), none, (Data.seq #[] 0), #[]⟩
noncomputable def o_144 : Params → Obj := fun P => ⟨Value.none, none, (Data.fields #[(Value.int 43 0), (Value.int 4 0), (Value.ref 104), (Value.int 54 0), (Value.int 4 0), (Value.ref 111), (Value.int 60 0), (Value.int 4 0), (Value.ref 118)]), #[]⟩
noncomputable def o_145 : Params → Obj := fun P => ⟨(Value.type "code"), none, (Data.fields #[(Value.str (S "HuffTable") 303), (Value.str (S "HuffTable") 304), (Value.str (S "/claim/cut.py") 305), (Value.int 41 0), (Value.int 0 0), (Value.int 0 0), (Value.int 0 0), (Value.int 0 0), (Value.ref 95), (Value.bool Bool.false), (Value.int 181 0), (Value.ref 96), Value.none, Value.none, Value.none, Value.none, (Value.int 306 0), (Value.int 41 0), (Value.str (S "/claim/cut.py") 307)]), #[]⟩
noncomputable def o_146 : Params → Obj := fun P => ⟨(Value.type "frame"), none, Data.plain, #[(some (Value.ref 97)), (some (Value.ref 3)), (some (Value.ref 94)), none, (some (Value.str (S "pixelpress.huffman") 273)), none, (some (Value.ref 0))]⟩
noncomputable def o_148 : Params → Obj := fun P => ⟨Value.none, none, (Data.fields #[]), #[]⟩
noncomputable def o_151 : Params → Obj := fun P => ⟨Value.none, none, (Data.func ⟨(S "__init__"), (S "HuffTable.__init__"), (fA 4), (FuncBody.stmts (fB 4)), (fS 4), 0, [], Value.none, Value.none, Value.none, Value.none, none, Value.none, Value.none, 0⟩), #[]⟩
noncomputable def o_155 : Params → Obj := fun P => ⟨Value.none, none, (Data.fields #[]), #[]⟩
noncomputable def o_158 : Params → Obj := fun P => ⟨Value.none, none, (Data.func ⟨(S "code"), (S "HuffTable.code"), (fA 5), (FuncBody.stmts (fB 5)), (fS 5), 0, [], Value.none, Value.none, Value.none, Value.none, none, Value.none, Value.none, 0⟩), #[]⟩
noncomputable def o_162 : Params → Obj := fun P => ⟨Value.none, none, (Data.fields #[]), #[]⟩
noncomputable def o_165 : Params → Obj := fun P => ⟨Value.none, none, (Data.func ⟨(S "read"), (S "HuffTable.read"), (fA 6), (FuncBody.stmts (fB 6)), (fS 6), 0, [], Value.none, Value.none, Value.none, Value.none, none, Value.none, Value.none, 0⟩), #[]⟩
noncomputable def o_173 : Params → Obj := fun P => ⟨(Value.type "super"), none, (Data.fields #[(Value.ref 122), (Value.ref 122), (Value.ref 122)]), #[]⟩
noncomputable def o_174 : Params → Obj := fun P => ⟨(Value.type "builtin_function_or_method"), none, (Data.fields #[(Value.builtin "object.__init_subclass__"), (Value.ref 122)]), #[]⟩
noncomputable def o_177 : Params → Obj := fun P => ⟨(Value.type "tuple"), none, (Data.seq #[] 0), #[]⟩
noncomputable def o_178 : Params → Obj := fun P => ⟨(Value.type "builtin_function_or_method"), none, (Data.fields #[(Value.builtin "type.__prepare__"), (Value.type "type")]), #[]⟩
noncomputable def o_179 : Params → Obj := fun P => ⟨(Value.type "dict"), none, (Data.dict #[⟨(PyData.keyHash P (S "__module__")), (Value.str (S "__module__") 369), (Value.str (S "pixelpress.tables") 360)⟩, ⟨(PyData.keyHash P (S "__qualname__")), (Value.str (S "__qualname__") 371), (Value.str (S "Tables") 370)⟩, ⟨(PyData.keyHash P (S "__firstlineno__")), (Value.str (S "__firstlineno__") 373), (Value.int 68 372)⟩, ⟨(PyData.keyHash P (S "__init__")), (Value.str (S "__init__") 380), (Value.ref 140)⟩, ⟨(PyData.keyHash P (S "quant_of")), (Value.str (S "quant_of") 388), (Value.ref 147)⟩, ⟨(PyData.keyHash P (S "code_of")), (Value.str (S "code_of") 396), (Value.ref 154)⟩, ⟨(PyData.keyHash P (S "__static_attributes__")), (Value.str (S "__static_attributes__") 400), (Value.ref 155)⟩] 7), #[]⟩
noncomputable def o_180 : Params → Obj := fun P => ⟨(Value.type "tuple"), none, (Data.seq #[] 0), #[]⟩
noncomputable def o_181 : Params → Obj := fun P => ⟨Value.none, none, (Data.fields #[(Value.int 70 0), (Value.int 4 0), (Value.ref 139), (Value.int 75 0), (Value.int 4 0), (Value.ref 146), (Value.int 78 0), (Value.int 4 0), (Value.ref 153)]), #[]⟩
noncomputable def o_182 : Params → Obj := fun P => ⟨(Value.type "code"), none, (Data.fields #[(Value.str (S "Tables") 364), (Value.str (S "Tables") 365), (Value.str (S "/claim/cut.py") 366), (Value.int 68 0), (Value.int 0 0), (Value.int 0 0), (Value.int 0 0), (Value.int 0 0), (Value.ref 130), (Value.bool Bool.false), (Value.int 181 0), (Value.ref 131), Value.none, Value.none, Value.none, Value.none, (Value.int 367 0), (Value.int 68 0), (Value.str (S "/claim/cut.py") 368)]), #[]⟩
noncomputable def o_183 : Params → Obj := fun P => ⟨(Value.type "frame"), none, Data.plain, #[(some (Value.ref 132)), (some (Value.ref 3)), (some (Value.ref 129)), none, (some (Value.str (S "pixelpress.tables") 360)), none, (some (Value.ref 0))]⟩
noncomputable def o_185 : Params → Obj := fun P => ⟨Value.none, none, (Data.fields #[]), #[]⟩
noncomputable def o_188 : Params → Obj := fun P => ⟨Value.none, none, (Data.func ⟨(S "__init__"), (S "Tables.__init__"), (fA 7), (FuncBody.stmts (fB 7)), (fS 7), 0, [], Value.none, Value.none, Value.none, Value.none, none, Value.none, Value.none, 0⟩), #[]⟩
noncomputable def o_192 : Params → Obj := fun P => ⟨Value.none, none, (Data.fields #[]), #[]⟩
noncomputable def o_195 : Params → Obj := fun P => ⟨Value.none, none, (Data.func ⟨(S "quant_of"), (S "Tables.quant_of"), (fA 8), (FuncBody.stmts (fB 8)), (fS 8), 0, [], Value.none, Value.none, Value.none, Value.none, none, Value.none, Value.none, 0⟩), #[]⟩
noncomputable def o_199 : Params → Obj := fun P => ⟨Value.none, none, (Data.fields #[]), #[]⟩
noncomputable def o_202 : Params → Obj := fun P => ⟨Value.none, none, (Data.func ⟨(S "code_of"), (S "Tables.code_of"), (fA 9), (FuncBody.stmts (fB 9)), (fS 9), 0, [], Value.none, Value.none, Value.none, Value.none, none, Value.none, Value.none, 0⟩), #[]⟩
noncomputable def o_210 : Params → Obj := fun P => ⟨(Value.type "super"), none, (Data.fields #[(Value.ref 157), (Value.ref 157), (Value.ref 157)]), #[]⟩
noncomputable def o_211 : Params → Obj := fun P => ⟨(Value.type "builtin_function_or_method"), none, (Data.fields #[(Value.builtin "object.__init_subclass__"), (Value.ref 157)]), #[]⟩
noncomputable def o_213 : Params → Obj := fun P => ⟨Value.none, none, (Data.fields #[]), #[]⟩
noncomputable def o_216 : Params → Obj := fun P => ⟨Value.none, none, (Data.func ⟨(S "used_keys"), (S "used_keys"), (fA 10), (FuncBody.stmts (fB 10)), (fS 10), 0, [], Value.none, Value.none, Value.none, Value.none, none, Value.none, Value.none, 0⟩), #[]⟩
noncomputable def o_220 : Params → Obj := fun P => ⟨Value.none, none, (Data.fields #[]), #[]⟩
noncomputable def o_223 : Params → Obj := fun P => ⟨Value.none, none, (Data.func ⟨(S "made_codes"), (S "made_codes"), (fA 11), (FuncBody.stmts (fB 11)), (fS 11), 0, [], Value.none, Value.none, Value.none, Value.none, none, Value.none, Value.none, 0⟩), #[]⟩
noncomputable def o_228 : Params → Obj := fun P => ⟨(Value.type "tuple"), none, (Data.seq #[] 0), #[]⟩
noncomputable def o_229 : Params → Obj := fun P => ⟨(Value.type "builtin_function_or_method"), none, (Data.fields #[(Value.builtin "type.__prepare__"), (Value.type "type")]), #[]⟩
noncomputable def o_230 : Params → Obj := fun P => ⟨(Value.type "dict"), none, (Data.dict #[⟨(PyData.keyHash P (S "__module__")), (Value.str (S "__module__") 442), (Value.str (S "pixelpress.bits") 433)⟩, ⟨(PyData.keyHash P (S "__qualname__")), (Value.str (S "__qualname__") 444), (Value.str (S "BitReader") 443)⟩, ⟨(PyData.keyHash P (S "__firstlineno__")), (Value.str (S "__firstlineno__") 446), (Value.int 102 445)⟩, ⟨(PyData.keyHash P (S "__init__")), (Value.str (S "__init__") 454), (Value.ref 189)⟩, ⟨(PyData.keyHash P (S "left")), (Value.str (S "left") 461), (Value.ref 196)⟩, ⟨(PyData.keyHash P (S "bit")), (Value.str (S "bit") 469), (Value.ref 203)⟩, ⟨(PyData.keyHash P (S "bits")), (Value.str (S "bits") 479), (Value.ref 210)⟩, ⟨(PyData.keyHash P (S "__static_attributes__")), (Value.str (S "__static_attributes__") 482), (Value.ref 211)⟩] 8), #[]⟩
noncomputable def o_231 : Params → Obj := fun P => ⟨(Value.type "tuple"), none, (Data.seq #[] 0), #[]⟩
noncomputable def o_232 : Params → Obj := fun P => ⟨Value.none, none, (Data.fields #[(Value.int 104 0), (Value.int 4 0), (Value.ref 188), (Value.int 108 0), (Value.int 4 0), (Value.ref 195), (Value.int 111 0), (Value.int 4 0), (Value.ref 202), (Value.int 118 0), (Value.int 4 0), (Value.ref 209)]), #[]⟩
noncomputable def o_233 : Params → Obj := fun P => ⟨(Value.type "code"), none, (Data.fields #[(Value.str (S "BitReader") 437), (Value.str (S "BitReader") 438), (Value.str (S "/claim/cut.py") 439), (Value.int 102 0), (Value.int 0 0), (Value.int 0 0), (Value.int 0 0), (Value.int 0 0), (Value.ref 179), (Value.bool Bool.false), (Value.int 181 0), (Value.ref 180), Value.none, Value.none, Value.none, Value.none, (Value.int 440 0), (Value.int 102 0), (Value.str (S "/claim/cut.py") 441)]), #[]⟩
noncomputable def o_234 : Params → Obj := fun P => ⟨(Value.type "frame"), none, Data.plain, #[(some (Value.ref 181)), (some (Value.ref 3)), (some (Value.ref 178)), none, (some (Value.str (S "pixelpress.bits") 433)), none, (some (Value.ref 0))]⟩
noncomputable def o_236 : Params → Obj := fun P => ⟨Value.none, none, (Data.fields #[]), #[]⟩
noncomputable def o_239 : Params → Obj := fun P => ⟨Value.none, none, (Data.func ⟨(S "__init__"), (S "BitReader.__init__"), (fA 12), (FuncBody.stmts (fB 12)), (fS 12), 0, [], Value.none, Value.none, Value.none, Value.none, none, Value.none, Value.none, 0⟩), #[]⟩
noncomputable def o_243 : Params → Obj := fun P => ⟨Value.none, none, (Data.fields #[]), #[]⟩
noncomputable def o_246 : Params → Obj := fun P => ⟨Value.none, none, (Data.func ⟨(S "left"), (S "BitReader.left"), (fA 13), (FuncBody.stmts (fB 13)), (fS 13), 0, [], Value.none, Value.none, Value.none, Value.none, none, Value.none, Value.none, 0⟩), #[]⟩
noncomputable def o_250 : Params → Obj := fun P => ⟨Value.none, none, (Data.fields #[]), #[]⟩
noncomputable def o_253 : Params → Obj := fun P => ⟨Value.none, none, (Data.func ⟨(S "bit"), (S "BitReader.bit"), (fA 14), (FuncBody.stmts (fB 14)), (fS 14), 0, [], Value.none, Value.none, Value.none, Value.none, none, Value.none, Value.none, 0⟩), #[]⟩
noncomputable def o_257 : Params → Obj := fun P => ⟨Value.none, none, (Data.fields #[]), #[]⟩
noncomputable def o_260 : Params → Obj := fun P => ⟨Value.none, none, (Data.func ⟨(S "bits"), (S "BitReader.bits"), (fA 15), (FuncBody.stmts (fB 15)), (fS 15), 0, [], Value.none, Value.none, Value.none, Value.none, none, Value.none, Value.none, 0⟩), #[]⟩
noncomputable def o_268 : Params → Obj := fun P => ⟨(Value.type "super"), none, (Data.fields #[(Value.ref 213), (Value.ref 213), (Value.ref 213)]), #[]⟩
noncomputable def o_269 : Params → Obj := fun P => ⟨(Value.type "builtin_function_or_method"), none, (Data.fields #[(Value.builtin "object.__init_subclass__"), (Value.ref 213)]), #[]⟩
noncomputable def o_272 : Params → Obj := fun P => ⟨(Value.type "tuple"), none, (Data.seq #[] 0), #[]⟩
noncomputable def o_273 : Params → Obj := fun P => ⟨(Value.type "builtin_function_or_method"), none, (Data.fields #[(Value.builtin "type.__prepare__"), (Value.type "type")]), #[]⟩
noncomputable def o_274 : Params → Obj := fun P => ⟨(Value.type "dict"), none, (Data.dict #[⟨(PyData.keyHash P (S "__module__")), (Value.str (S "__module__") 499), (Value.str (S "pixelpress.scans") 490)⟩, ⟨(PyData.keyHash P (S "__qualname__")), (Value.str (S "__qualname__") 501), (Value.str (S "Scan") 500)⟩, ⟨(PyData.keyHash P (S "__firstlineno__")), (Value.str (S "__firstlineno__") 503), (Value.int 126 502)⟩, ⟨(PyData.keyHash P (S "__init__")), (Value.str (S "__init__") 517), (Value.ref 231)⟩, ⟨(PyData.keyHash P (S "is_alone")), (Value.str (S "is_alone") 524), (Value.ref 238)⟩, ⟨(PyData.keyHash P (S "is_finer")), (Value.str (S "is_finer") 531), (Value.ref 245)⟩, ⟨(PyData.keyHash P (S "__static_attributes__")), (Value.str (S "__static_attributes__") 539), (Value.ref 246)⟩] 7), #[]⟩
noncomputable def o_275 : Params → Obj := fun P => ⟨(Value.type "tuple"), none, (Data.seq #[] 0), #[]⟩
noncomputable def o_276 : Params → Obj := fun P => ⟨Value.none, none, (Data.fields #[(Value.int 128 0), (Value.int 4 0), (Value.ref 230), (Value.int 137 0), (Value.int 4 0), (Value.ref 237), (Value.int 140 0), (Value.int 4 0), (Value.ref 244)]), #[]⟩
noncomputable def o_277 : Params → Obj := fun P => ⟨(Value.type "code"), none, (Data.fields #[(Value.str (S "Scan") 494), (Value.str (S "Scan") 495), (Value.str (S "/claim/cut.py") 496), (Value.int 126 0), (Value.int 0 0), (Value.int 0 0), (Value.int 0 0), (Value.int 0 0), (Value.ref 221), (Value.bool Bool.false), (Value.int 181 0), (Value.ref 222), Value.none, Value.none, Value.none, Value.none, (Value.int 497 0), (Value.int 126 0), (Value.str (S "/claim/cut.py") 498)]), #[]⟩
noncomputable def o_278 : Params → Obj := fun P => ⟨(Value.type "frame"), none, Data.plain, #[(some (Value.ref 223)), (some (Value.ref 3)), (some (Value.ref 220)), none, (some (Value.str (S "pixelpress.scans") 490)), none, (some (Value.ref 0))]⟩
noncomputable def o_280 : Params → Obj := fun P => ⟨Value.none, none, (Data.fields #[]), #[]⟩
noncomputable def o_283 : Params → Obj := fun P => ⟨Value.none, none, (Data.func ⟨(S "__init__"), (S "Scan.__init__"), (fA 16), (FuncBody.stmts (fB 16)), (fS 16), 0, [], Value.none, Value.none, Value.none, Value.none, none, Value.none, Value.none, 0⟩), #[]⟩
noncomputable def o_287 : Params → Obj := fun P => ⟨Value.none, none, (Data.fields #[]), #[]⟩
noncomputable def o_290 : Params → Obj := fun P => ⟨Value.none, none, (Data.func ⟨(S "is_alone"), (S "Scan.is_alone"), (fA 17), (FuncBody.stmts (fB 17)), (fS 18), 0, [], Value.none, Value.none, Value.none, Value.none, none, Value.none, Value.none, 0⟩), #[]⟩
noncomputable def o_294 : Params → Obj := fun P => ⟨Value.none, none, (Data.fields #[]), #[]⟩
noncomputable def o_297 : Params → Obj := fun P => ⟨Value.none, none, (Data.func ⟨(S "is_finer"), (S "Scan.is_finer"), (fA 18), (FuncBody.stmts (fB 18)), (fS 18), 0, [], Value.none, Value.none, Value.none, Value.none, none, Value.none, Value.none, 0⟩), #[]⟩
noncomputable def o_305 : Params → Obj := fun P => ⟨(Value.type "super"), none, (Data.fields #[(Value.ref 248), (Value.ref 248), (Value.ref 248)]), #[]⟩
noncomputable def o_306 : Params → Obj := fun P => ⟨(Value.type "builtin_function_or_method"), none, (Data.fields #[(Value.builtin "object.__init_subclass__"), (Value.ref 248)]), #[]⟩
noncomputable def o_308 : Params → Obj := fun P => ⟨Value.none, none, (Data.fields #[]), #[]⟩
noncomputable def o_311 : Params → Obj := fun P => ⟨Value.none, none, (Data.func ⟨(S "_law_pool"), (S "_law_pool"), (fA 19), (FuncBody.stmts (fB 19)), (fS 19), 0, [], Value.none, Value.none, Value.none, Value.none, none, Value.none, Value.none, 0⟩), #[]⟩
noncomputable def o_315 : Params → Obj := fun P => ⟨Value.none, none, (Data.fields #[]), #[]⟩
noncomputable def o_318 : Params → Obj := fun P => ⟨Value.none, none, (Data.func ⟨(S "_law_take"), (S "_law_take"), (fA 20), (FuncBody.stmts (fB 20)), (fS 20), 0, [], Value.none, Value.none, Value.none, Value.none, none, Value.none, Value.none, 0⟩), #[]⟩
noncomputable def o_322 : Params → Obj := fun P => ⟨Value.none, none, (Data.fields #[]), #[]⟩
noncomputable def o_325 : Params → Obj := fun P => ⟨Value.none, none, (Data.func ⟨(S "_law_one"), (S "_law_one"), (fA 21), (FuncBody.stmts (fB 21)), (fS 21), 0, [], Value.none, Value.none, Value.none, Value.none, none, Value.none, Value.none, 0⟩), #[]⟩
noncomputable def o_331 : Params → Obj := fun P => ⟨Value.none, none, (Data.fields #[]), #[]⟩
noncomputable def o_334 : Params → Obj := fun P => ⟨Value.none, none, (Data.func ⟨(S "_law_head"), (S "_law_head"), (fA 22), (FuncBody.stmts (fB 22)), (fS 22), 0, [], Value.none, Value.none, Value.none, Value.none, none, Value.none, Value.none, 0⟩), #[]⟩
noncomputable def o_338 : Params → Obj := fun P => ⟨Value.none, none, (Data.fields #[]), #[]⟩
noncomputable def o_341 : Params → Obj := fun P => ⟨Value.none, none, (Data.func ⟨(S "_law_spoilt"), (S "_law_spoilt"), (fA 23), (FuncBody.stmts (fB 23)), (fS 23), 0, [], Value.none, Value.none, Value.none, Value.none, none, Value.none, Value.none, 0⟩), #[]⟩
noncomputable def o_345 : Params → Obj := fun P => ⟨Value.none, none, (Data.fields #[]), #[]⟩
noncomputable def o_348 : Params → Obj := fun P => ⟨Value.none, none, (Data.func ⟨(S "_law_wanted"), (S "_law_wanted"), (fA 24), (FuncBody.stmts (fB 24)), (fS 24), 0, [], Value.none, Value.none, Value.none, Value.none, none, Value.none, Value.none, 0⟩), #[]⟩
noncomputable def o_352 : Params → Obj := fun P => ⟨Value.none, none, (Data.fields #[]), #[]⟩
noncomputable def o_353 : Params → Obj := fun P => ⟨Value.none, none, (Data.func ⟨(S "_law_octets"), (S "_law_octets"), (fA 25), (FuncBody.stmts (fB 25)), (fS 25), 0, [], Value.none, Value.none, Value.none, Value.none, none, Value.none, Value.none, 0⟩), #[]⟩
noncomputable def o_357 : Params → Obj := fun P => ⟨Value.none, none, (Data.fields #[]), #[]⟩
noncomputable def o_358 : Params → Obj := fun P => ⟨Value.none, none, (Data.func ⟨(S "_law_reads"), (S "_law_reads"), (fA 26), (FuncBody.stmts (fB 26)), (fS 26), 0, [], Value.none, Value.none, Value.none, Value.none, none, Value.none, Value.none, 0⟩), #[]⟩
noncomputable def o_362 : Params → Obj := fun P => ⟨Value.none, none, (Data.fields #[]), #[]⟩
noncomputable def o_363 : Params → Obj := fun P => ⟨Value.none, none, (Data.func ⟨(S "law"), (S "law"), (fA 27), (FuncBody.stmts (fB 27)), (fS 27), 0, [], Value.none, Value.none, Value.none, Value.none, none, Value.none, Value.none, 0⟩), #[]⟩
noncomputable def heap_F : Params → Heap := fun P => ⟨⟨W.boot_o_0 P :: W.boot_o_1 P :: kO P 0 :: kO P 1 :: W.boot_o_4 P :: W.boot_o_5 P :: W.boot_o_6 P :: W.boot_o_7 P :: W.boot_o_8 P :: W.boot_o_9 P :: W.boot_o_10 P :: o_43 P :: o_329 P :: o_45 P :: o_46 P :: kO P 2 :: o_53 P :: kO P 3 :: kO P 4 :: o_56 P :: kO P 5 :: kO P 6 :: kO P 7 :: o_60 P :: o_61 P :: o_62 P :: o_63 P :: o_64 P :: o_65 P :: kO P 8 :: o_67 P :: kO P 9 :: kO P 10 :: o_70 P :: kO P 11 :: kO P 12 :: kO P 13 :: kO P 14 :: kO P 15 :: kO P 16 :: o_77 P :: o_78 P :: kO P 17 :: o_83 P :: o_84 P :: o_85 P :: o_86 P :: o_87 P :: o_88 P :: kO P 18 :: kO P 19 :: kO P 20 :: o_92 P :: o_93 P :: kO P 21 :: o_98 P :: o_99 P :: o_100 P :: o_101 P :: o_102 P :: o_103 P :: kO P 22 :: kO P 23 :: kO P 24 :: o_107 P :: o_108 P :: kO P 25 :: o_113 P :: o_114 P :: o_115 P :: o_116 P :: o_117 P :: o_118 P :: kO P 26 :: kO P 27 :: kO P 28 :: o_122 P :: o_123 P :: kO P 29 :: o_125 P :: kO P 30 :: kO P 31 :: o_128 P :: kO P 32 :: kO P 33 :: kO P 34 :: o_132 P :: kO P 35 :: kO P 36 :: o_135 P :: kO P 37 :: kO P 38 :: o_140 P :: o_141 P :: o_142 P :: o_143 P :: o_144 P :: o_145 P :: o_146 P :: kO P 39 :: o_148 P :: kO P 40 :: kO P 41 :: o_151 P :: kO P 42 :: kO P 43 :: kO P 44 :: o_155 P :: kO P 45 :: kO P 46 :: o_158 P :: kO P 47 :: kO P 48 :: kO P 49 :: o_162 P :: kO P 50 :: kO P 51 :: o_165 P :: kO P 52 :: kO P 53 :: kO P 54 :: kO P 55 :: kO P 56 :: kO P 57 :: kO P 58 :: o_173 P :: o_174 P :: o_177 P :: o_178 P :: o_179 P :: o_180 P :: o_181 P :: o_182 P :: o_183 P :: kO P 59 :: o_185 P :: kO P 60 :: kO P 61 :: o_188 P :: kO P 62 :: kO P 63 :: kO P 64 :: o_192 P :: kO P 65 :: kO P 66 :: o_195 P :: kO P 67 :: kO P 68 :: kO P 69 :: o_199 P :: kO P 70 :: kO P 71 :: o_202 P :: kO P 72 :: kO P 73 :: kO P 74 :: kO P 75 :: kO P 76 :: kO P 77 :: kO P 78 :: o_210 P :: o_211 P :: kO P 79 :: o_213 P :: kO P 80 :: kO P 81 :: o_216 P :: kO P 82 :: kO P 83 :: kO P 84 :: o_220 P :: kO P 85 :: kO P 86 :: o_223 P :: kO P 87 :: kO P 88 :: o_228 P :: o_229 P :: o_230 P :: o_231 P :: o_232 P :: o_233 P :: o_234 P :: kO P 89 :: o_236 P :: kO P 90 :: kO P 91 :: o_239 P :: kO P 92 :: kO P 93 :: kO P 94 :: o_243 P :: kO P 95 :: kO P 96 :: o_246 P :: kO P 97 :: kO P 98 :: kO P 99 :: o_250 P :: kO P 100 :: kO P 101 :: o_253 P :: kO P 102 :: kO P 103 :: kO P 104 :: o_257 P :: kO P 105 :: kO P 106 :: o_260 P :: kO P 107 :: kO P 108 :: kO P 109 :: kO P 110 :: kO P 111 :: kO P 112 :: kO P 113 :: o_268 P :: o_269 P :: o_272 P :: o_273 P :: o_274 P :: o_275 P :: o_276 P :: o_277 P :: o_278 P :: kO P 114 :: o_280 P :: kO P 115 :: kO P 116 :: o_283 P :: kO P 117 :: kO P 118 :: kO P 119 :: o_287 P :: kO P 120 :: kO P 121 :: o_290 P :: kO P 122 :: kO P 123 :: kO P 124 :: o_294 P :: kO P 125 :: kO P 126 :: o_297 P :: kO P 127 :: kO P 128 :: kO P 129 :: kO P 130 :: kO P 131 :: kO P 132 :: kO P 133 :: o_305 P :: o_306 P :: kO P 134 :: o_308 P :: kO P 135 :: kO P 136 :: o_311 P :: kO P 137 :: kO P 138 :: kO P 139 :: o_315 P :: kO P 140 :: kO P 141 :: o_318 P :: kO P 142 :: kO P 143 :: kO P 144 :: o_322 P :: kO P 145 :: kO P 146 :: o_325 P :: kO P 147 :: kO P 148 :: kO P 149 :: o_331 P :: kO P 150 :: kO P 151 :: o_334 P :: kO P 152 :: kO P 153 :: kO P 154 :: o_338 P :: kO P 155 :: kO P 156 :: o_341 P :: kO P 157 :: kO P 158 :: kO P 159 :: o_345 P :: kO P 160 :: kO P 161 :: o_348 P :: kO P 162 :: kO P 163 :: kO P 164 :: o_352 P :: o_353 P :: kO P 165 :: kO P 166 :: kO P 167 :: o_357 P :: o_358 P :: kO P 168 :: kO P 169 :: kO P 170 :: o_362 P :: o_363 P :: kO P 171 :: kO P 172 :: []⟩, ⟨[], [], [], 0, [], [], Bool.false, #[], [], 0, Bool.false, Bool.false, Bool.false, 0, [2000, 10, 10], Bool.false, 0, Bool.true, [], [], 0, Bool.false⟩⟩
end hd
end
end Mine
namespace Mine
theorem warm9 (w : World) : (Challenge.rw_ok0140_01.prog, Mine.hd.heap_39 w.params) = (Challenge.rw_ok0140_01.prog, Mine.hd.heap_39 w.params) := by
  k_fill
  rfl
end Mine
namespace Mine
theorem upR (c : Nat) {a b n : Nat} (h : a + b < n) (hc : Nat.ble c b = true) : a + c < n :=
  Nat.lt_of_le_of_lt (Nat.add_le_add_left (Nat.le_of_ble_eq_true hc) a) h
end Mine

local macro_rules | `(tactic| k_ne) => `(tactic| k_extra "my kne")
local macro_rules | `(tactic| ktr_room) => `(tactic| k_extra "my room")
local macro_rules | `(tactic| ktr_units) => `(tactic| k_extra "my units")
local macro_rules | `(tactic| k_mem) => `(tactic| k_extra "my mem")
local macro_rules | `(tactic| omega) => `(tactic| k_extra "my omega")
local macro_rules | `(tactic| k_lt $h:ident) => `(tactic| (replace $h := allLt_of $h; dsimp only [AllLt] at $h:ident; (try simp only [and_true] at $h:ident)))
local macro_rules | `(tactic| walk_at $s:str) => `(tactic| k_extra $s)
-- LB
namespace Mine
section

theorem lia_LB : True := by
  k_with_none
  k_with "my omega" => ((fail_if_success (fail_if_success omega (config := {}))); lia)
  trivial
theorem news_front {h₀ h : Heap} {L d : Addr} {o : Obj} {pre post : List (Addr × Obj)} (N : News h₀ L h (pre ++ (d, o) :: post)) : News h₀ L h ((d, o) :: (pre ++ post)) := fun p hp => by
  refine N p ?_
  simp only [List.mem_cons, List.mem_append] at hp ⊢
  rcases hp with rfl | hp | hp <;> simp [*]
theorem news_back {h₀ h : Heap} {L d : Addr} {o : Obj} {pre post : List (Addr × Obj)} (N : News h₀ L h ((d, o) :: (pre ++ post))) : News h₀ L h (pre ++ (d, o) :: post) := fun p hp => by
  refine N p ?_
  simp only [List.mem_cons, List.mem_append] at hp ⊢
  rcases hp with hp | rfl | hp <;> simp [*]

/-- the source of draws: a list of two ints -/
noncomputable def IsSrc (o : Obj) : Prop := ∃ (x y : Int) (t1 t2 : Tok) (n : Nat), o = W.listOf #[.int x t1, .int y t2] n ∧ 0 ≤ x ∧ 0 ≤ y ∧ y < 2147483647

/-- new objects lie above the elder ones -/
noncomputable def Above (l fz : List (Addr × Obj)) : Prop := ∀ p ∈ fz, AllLt p.1 l
theorem Above.nil {l : List (Addr × Obj)} : Above l [] := fun _ h => nomatch h
theorem Above.cons {l fz : List (Addr × Obj)} {d : Addr} {o : Obj} (h : AllLt d l) (r : Above l fz) : Above l ((d, o) :: fz) := fun p hp => by
  rcases List.mem_cons.mp hp with rfl | hp
  · exact h
  · exact r p hp
theorem allLt_iff {d : Addr} : ∀ {l : List (Addr × Obj)}, AllLt d l ↔ ∀ p ∈ l, p.1 < d
  | [] => ⟨fun _ _ hp => (nomatch hp), fun _ => trivial⟩
  | q :: r => by
    constructor
    · intro h p hp
      rcases List.mem_cons.mp hp with rfl | hp
      · exact h.1
      · exact allLt_iff.mp h.2 p hp
    · intro h
      exact ⟨h q (.head _), allLt_iff.mpr fun p hp => h p (.tail _ hp)⟩
theorem Above.ne {l fz : List (Addr × Obj)} (h : Above l fz) {q : Addr × Obj} (hq : q ∈ l) : ∀ p ∈ fz, p.1 ≠ q.1 := fun p hp e => by
  have := allLt_iff.mp (h p hp) q hq
  rw [e] at this
  exact absurd this (Nat.lt_irrefl _)
abbrev tupO (vs : List Value) : Obj := { cls := .type "tuple", data := .seq vs.toArray }
theorem tup_ints {prog : Program} {w : World} {A : Around} {E : Value → Shared → Prop} {s : Shared} {t : Addr} {vs : List Value} {ns : List Int} {value slice : Expr} {k : Int} {u : Tok} {Q : Value → Shared → Prop} (ht : IsTup s.heap t vs.toArray) (hi : IntsAre vs ns)
    (h0 : 0 ≤ k) (hk : k < (ns.length : Int)) (hfit : ns.length < 2 ^ 62) (h : ∀ u', Q (.int (ns.getD k.toNat 0) u') s)
    (hs : subscripted slice false (.ref t) (.int k u) = operate [.ref t, .int k u] (getItem (.ref t) (.int k u)) := by with_unfolding_all rfl) :
    wpAny (model prog w) A (subscriptTail value slice (.ref t) (.int k u)) Q E s := by
  have hl := hi.length
  have hkn : k.toNat < ns.length := by omega
  obtain ⟨u', hx⟩ := hi.get k.toNat ns[k.toNat] (List.getElem?_eq_getElem hkn)
  have e : ns.getD k.toNat 0 = ns[k.toNat] := by rw [List.getD_eq_getElem?_getD, List.getElem?_eq_getElem hkn]; rfl
  refine item_tupleT ht (by omega) (by omega) (seqIndex_of h0 (by omega)) hx ?_ hs
  have := h u'
  rw [e] at this
  exact this
end
end Mine
-- HT
namespace Mine
section

namespace hd
open PySem.Str renaming ofString → S
open PySem.W.BT renaming node → nd, nil → nl
noncomputable def o_50 : Params → Obj := fun P => ⟨(Value.type "dict"), none, (Data.dict #[⟨(PyData.keyHash P (S "__name__")), (Value.str (S "__name__") 165), (Value.str (S "pixelpress.errors") 194)⟩, ⟨(PyData.keyHash P (S "__doc__")), (Value.str (S "__doc__") 166), Value.none⟩, ⟨(PyData.keyHash P (S "__package__")), (Value.str (S "__package__") 167), Value.none⟩, ⟨(PyData.keyHash P (S "__loader__")), (Value.str (S "__loader__") 168), (ldr P)⟩, ⟨(PyData.keyHash P (S "__spec__")), (Value.str (S "__spec__") 169), Value.none⟩, ⟨(PyData.keyHash P (S "__annotations__")), (Value.str (S "__annotations__") 170), (Value.ref 6)⟩, ⟨(PyData.keyHash P (S "__builtins__")), (Value.str (S "__builtins__") 171), (Value.ref 4)⟩, ⟨(PyData.keyHash P (S "__file__")), (Value.str (S "__file__") 173), (Value.str (S "/claim/cut.py") 172)⟩, ⟨(PyData.keyHash P (S "__cached__")), (Value.str (S "__cached__") 174), Value.none⟩, ⟨(PyData.keyHash P (S "_wall")), (Value.str (S "_wall") 193), (Value.ref 21)⟩, ⟨(PyData.keyHash P (S "PressError")), (Value.str (S "PressError") 224), (Value.ref 38)⟩] 11), #[]⟩
noncomputable def o_51 : Params → Obj := fun P => ⟨Value.none, none, (Data.fields #[(Value.int 1 0), (Value.int 0 0), (Value.ref 20), (Value.int 5 0), (Value.int 0 0), (Value.ref 27)]), #[]⟩
noncomputable def o_75 : Params → Obj := fun P => ⟨(Value.type "type"), none, (Data.cls ⟨(S "PressError"), [(Value.type "Exception")], [(Value.ref 38), (Value.type "Exception"), (Value.type "BaseException"), (Value.type "object")], 37, (S "PressError"), Bool.true, [], [], Bool.false, none, Bool.false⟩), #[(some (Value.ref 22)), none, (some (Value.str (S "PressError") 196)), (some (Value.str (S "PressError") 204)), (some (Value.builtin "Exception.__new__")), (some (Value.bool Bool.true))]⟩
noncomputable def o_79 : Params → Obj := fun P => ⟨(Value.type "dict"), none, (Data.dict #[⟨(PyData.keyHash P (S "__name__")), (Value.str (S "__name__") 165), (Value.str (S "pixelpress.errors") 194)⟩, ⟨(PyData.keyHash P (S "__doc__")), (Value.str (S "__doc__") 166), Value.none⟩, ⟨(PyData.keyHash P (S "__package__")), (Value.str (S "__package__") 167), Value.none⟩, ⟨(PyData.keyHash P (S "__loader__")), (Value.str (S "__loader__") 168), (ldr P)⟩, ⟨(PyData.keyHash P (S "__spec__")), (Value.str (S "__spec__") 169), Value.none⟩, ⟨(PyData.keyHash P (S "__annotations__")), (Value.str (S "__annotations__") 170), (Value.ref 6)⟩, ⟨(PyData.keyHash P (S "__builtins__")), (Value.str (S "__builtins__") 171), (Value.ref 4)⟩, ⟨(PyData.keyHash P (S "__file__")), (Value.str (S "__file__") 173), (Value.str (S "/claim/cut.py") 172)⟩, ⟨(PyData.keyHash P (S "__cached__")), (Value.str (S "__cached__") 174), Value.none⟩, ⟨(PyData.keyHash P (S "_wall")), (Value.str (S "_wall") 193), (Value.ref 21)⟩, ⟨(PyData.keyHash P (S "PressError")), (Value.str (S "PressError") 224), (Value.ref 38)⟩, ⟨(PyData.keyHash P (S "TableError")), (Value.str (S "TableError") 240), (Value.ref 51)⟩] 12), #[]⟩
noncomputable def o_80 : Params → Obj := fun P => ⟨Value.none, none, (Data.fields #[(Value.int 1 0), (Value.int 0 0), (Value.ref 20), (Value.int 5 0), (Value.int 0 0), (Value.ref 27), (Value.int 10 0), (Value.int 0 0), (Value.ref 47)]), #[]⟩
noncomputable def o_81 : Params → Obj := fun P => ⟨(Value.type "type"), none, (Data.cls ⟨(S "PressError"), [(Value.type "Exception")], [(Value.ref 38), (Value.type "Exception"), (Value.type "BaseException"), (Value.type "object")], 37, (S "PressError"), Bool.true, [], [(Value.ref 51)], Bool.false, none, Bool.false⟩), #[(some (Value.ref 22)), none, (some (Value.str (S "PressError") 196)), (some (Value.str (S "PressError") 204)), (some (Value.builtin "Exception.__new__")), (some (Value.bool Bool.true))]⟩
noncomputable def o_94 : Params → Obj := fun P => ⟨(Value.type "dict"), none, (Data.dict #[⟨(PyData.keyHash P (S "__name__")), (Value.str (S "__name__") 165), (Value.str (S "pixelpress.errors") 194)⟩, ⟨(PyData.keyHash P (S "__doc__")), (Value.str (S "__doc__") 166), Value.none⟩, ⟨(PyData.keyHash P (S "__package__")), (Value.str (S "__package__") 167), Value.none⟩, ⟨(PyData.keyHash P (S "__loader__")), (Value.str (S "__loader__") 168), (ldr P)⟩, ⟨(PyData.keyHash P (S "__spec__")), (Value.str (S "__spec__") 169), Value.none⟩, ⟨(PyData.keyHash P (S "__annotations__")), (Value.str (S "__annotations__") 170), (Value.ref 6)⟩, ⟨(PyData.keyHash P (S "__builtins__")), (Value.str (S "__builtins__") 171), (Value.ref 4)⟩, ⟨(PyData.keyHash P (S "__file__")), (Value.str (S "__file__") 173), (Value.str (S "/claim/cut.py") 172)⟩, ⟨(PyData.keyHash P (S "__cached__")), (Value.str (S "__cached__") 174), Value.none⟩, ⟨(PyData.keyHash P (S "_wall")), (Value.str (S "_wall") 193), (Value.ref 21)⟩, ⟨(PyData.keyHash P (S "PressError")), (Value.str (S "PressError") 224), (Value.ref 38)⟩, ⟨(PyData.keyHash P (S "TableError")), (Value.str (S "TableError") 240), (Value.ref 51)⟩, ⟨(PyData.keyHash P (S "CodeError")), (Value.str (S "CodeError") 256), (Value.ref 63)⟩] 13), #[]⟩
noncomputable def o_95 : Params → Obj := fun P => ⟨Value.none, none, (Data.fields #[(Value.int 1 0), (Value.int 0 0), (Value.ref 20), (Value.int 5 0), (Value.int 0 0), (Value.ref 27), (Value.int 10 0), (Value.int 0 0), (Value.ref 47), (Value.int 12 0), (Value.int 0 0), (Value.ref 59)]), #[]⟩
noncomputable def o_96 : Params → Obj := fun P => ⟨(Value.type "type"), none, (Data.cls ⟨(S "PressError"), [(Value.type "Exception")], [(Value.ref 38), (Value.type "Exception"), (Value.type "BaseException"), (Value.type "object")], 37, (S "PressError"), Bool.true, [], [(Value.ref 51), (Value.ref 63)], Bool.false, none, Bool.false⟩), #[(some (Value.ref 22)), none, (some (Value.str (S "PressError") 196)), (some (Value.str (S "PressError") 204)), (some (Value.builtin "Exception.__new__")), (some (Value.bool Bool.true))]⟩
noncomputable def o_109 : Params → Obj := fun P => ⟨(Value.type "dict"), none, (Data.dict #[⟨(PyData.keyHash P (S "__name__")), (Value.str (S "__name__") 165), (Value.str (S "pixelpress.huffman") 273)⟩, ⟨(PyData.keyHash P (S "__doc__")), (Value.str (S "__doc__") 166), Value.none⟩, ⟨(PyData.keyHash P (S "__package__")), (Value.str (S "__package__") 167), Value.none⟩, ⟨(PyData.keyHash P (S "__loader__")), (Value.str (S "__loader__") 168), (ldr P)⟩, ⟨(PyData.keyHash P (S "__spec__")), (Value.str (S "__spec__") 169), Value.none⟩, ⟨(PyData.keyHash P (S "__annotations__")), (Value.str (S "__annotations__") 170), (Value.ref 6)⟩, ⟨(PyData.keyHash P (S "__builtins__")), (Value.str (S "__builtins__") 171), (Value.ref 4)⟩, ⟨(PyData.keyHash P (S "__file__")), (Value.str (S "__file__") 173), (Value.str (S "/claim/cut.py") 172)⟩, ⟨(PyData.keyHash P (S "__cached__")), (Value.str (S "__cached__") 174), Value.none⟩, ⟨(PyData.keyHash P (S "_wall")), (Value.str (S "_wall") 193), (Value.ref 21)⟩, ⟨(PyData.keyHash P (S "PressError")), (Value.str (S "PressError") 224), (Value.ref 38)⟩, ⟨(PyData.keyHash P (S "TableError")), (Value.str (S "TableError") 240), (Value.ref 51)⟩, ⟨(PyData.keyHash P (S "CodeError")), (Value.str (S "CodeError") 256), (Value.ref 63)⟩, ⟨(PyData.keyHash P (S "CutError")), (Value.str (S "CutError") 272), (Value.ref 75)⟩, ⟨(PyData.keyHash P (S "MOST_BITS")), (Value.str (S "MOST_BITS") 276), (Value.int 16 275)⟩, ⟨(PyData.keyHash P (S "MOST_SYMBOLS")), (Value.str (S "MOST_SYMBOLS") 278), (Value.int 256 277)⟩, ⟨(PyData.keyHash P (S "code_rows")), (Value.str (S "code_rows") 290), (Value.ref 84)⟩, ⟨(PyData.keyHash P (S "check_told")), (Value.str (S "check_told") 300), (Value.ref 91)⟩] 18), #[]⟩
noncomputable def o_110 : Params → Obj := fun P => ⟨Value.none, none, (Data.fields #[(Value.int 1 0), (Value.int 0 0), (Value.ref 20), (Value.int 5 0), (Value.int 0 0), (Value.ref 27), (Value.int 10 0), (Value.int 0 0), (Value.ref 47), (Value.int 12 0), (Value.int 0 0), (Value.ref 59), (Value.int 14 0), (Value.int 0 0), (Value.ref 71), (Value.int 19 0), (Value.int 0 0), (Value.ref 83), (Value.int 31 0), (Value.int 0 0), (Value.ref 90)]), #[]⟩
noncomputable def o_138 : Params → Obj := fun P => ⟨(Value.type "dict"), none, (Data.dict #[⟨(PyData.keyHash P (S "__name__")), (Value.str (S "__name__") 165), (Value.str (S "pixelpress.tables") 360)⟩, ⟨(PyData.keyHash P (S "__doc__")), (Value.str (S "__doc__") 166), Value.none⟩, ⟨(PyData.keyHash P (S "__package__")), (Value.str (S "__package__") 167), Value.none⟩, ⟨(PyData.keyHash P (S "__loader__")), (Value.str (S "__loader__") 168), (ldr P)⟩, ⟨(PyData.keyHash P (S "__spec__")), (Value.str (S "__spec__") 169), Value.none⟩, ⟨(PyData.keyHash P (S "__annotations__")), (Value.str (S "__annotations__") 170), (Value.ref 6)⟩, ⟨(PyData.keyHash P (S "__builtins__")), (Value.str (S "__builtins__") 171), (Value.ref 4)⟩, ⟨(PyData.keyHash P (S "__file__")), (Value.str (S "__file__") 173), (Value.str (S "/claim/cut.py") 172)⟩, ⟨(PyData.keyHash P (S "__cached__")), (Value.str (S "__cached__") 174), Value.none⟩, ⟨(PyData.keyHash P (S "_wall")), (Value.str (S "_wall") 193), (Value.ref 21)⟩, ⟨(PyData.keyHash P (S "PressError")), (Value.str (S "PressError") 224), (Value.ref 38)⟩, ⟨(PyData.keyHash P (S "TableError")), (Value.str (S "TableError") 240), (Value.ref 51)⟩, ⟨(PyData.keyHash P (S "CodeError")), (Value.str (S "CodeError") 256), (Value.ref 63)⟩, ⟨(PyData.keyHash P (S "CutError")), (Value.str (S "CutError") 272), (Value.ref 75)⟩, ⟨(PyData.keyHash P (S "MOST_BITS")), (Value.str (S "MOST_BITS") 276), (Value.int 16 275)⟩, ⟨(PyData.keyHash P (S "MOST_SYMBOLS")), (Value.str (S "MOST_SYMBOLS") 278), (Value.int 256 277)⟩, ⟨(PyData.keyHash P (S "code_rows")), (Value.str (S "code_rows") 290), (Value.ref 84)⟩, ⟨(PyData.keyHash P (S "check_told")), (Value.str (S "check_told") 300), (Value.ref 91)⟩, ⟨(PyData.keyHash P (S "HuffTable")), (Value.str (S "HuffTable") 359), (Value.ref 122)⟩] 19), #[]⟩
noncomputable def o_139 : Params → Obj := fun P => ⟨Value.none, none, (Data.fields #[(Value.int 1 0), (Value.int 0 0), (Value.ref 20), (Value.int 5 0), (Value.int 0 0), (Value.ref 27), (Value.int 10 0), (Value.int 0 0), (Value.ref 47), (Value.int 12 0), (Value.int 0 0), (Value.ref 59), (Value.int 14 0), (Value.int 0 0), (Value.ref 71), (Value.int 19 0), (Value.int 0 0), (Value.ref 83), (Value.int 31 0), (Value.int 0 0), (Value.ref 90), (Value.int 41 0), (Value.int 0 0), (Value.ref 97)]), #[]⟩
noncomputable def o_175 : Params → Obj := fun P => ⟨(Value.type "dict"), none, (Data.dict #[⟨(PyData.keyHash P (S "__name__")), (Value.str (S "__name__") 165), (Value.str (S "pixelpress.bits") 433)⟩, ⟨(PyData.keyHash P (S "__doc__")), (Value.str (S "__doc__") 166), Value.none⟩, ⟨(PyData.keyHash P (S "__package__")), (Value.str (S "__package__") 167), Value.none⟩, ⟨(PyData.keyHash P (S "__loader__")), (Value.str (S "__loader__") 168), (ldr P)⟩, ⟨(PyData.keyHash P (S "__spec__")), (Value.str (S "__spec__") 169), Value.none⟩, ⟨(PyData.keyHash P (S "__annotations__")), (Value.str (S "__annotations__") 170), (Value.ref 6)⟩, ⟨(PyData.keyHash P (S "__builtins__")), (Value.str (S "__builtins__") 171), (Value.ref 4)⟩, ⟨(PyData.keyHash P (S "__file__")), (Value.str (S "__file__") 173), (Value.str (S "/claim/cut.py") 172)⟩, ⟨(PyData.keyHash P (S "__cached__")), (Value.str (S "__cached__") 174), Value.none⟩, ⟨(PyData.keyHash P (S "_wall")), (Value.str (S "_wall") 193), (Value.ref 21)⟩, ⟨(PyData.keyHash P (S "PressError")), (Value.str (S "PressError") 224), (Value.ref 38)⟩, ⟨(PyData.keyHash P (S "TableError")), (Value.str (S "TableError") 240), (Value.ref 51)⟩, ⟨(PyData.keyHash P (S "CodeError")), (Value.str (S "CodeError") 256), (Value.ref 63)⟩, ⟨(PyData.keyHash P (S "CutError")), (Value.str (S "CutError") 272), (Value.ref 75)⟩, ⟨(PyData.keyHash P (S "MOST_BITS")), (Value.str (S "MOST_BITS") 276), (Value.int 16 275)⟩, ⟨(PyData.keyHash P (S "MOST_SYMBOLS")), (Value.str (S "MOST_SYMBOLS") 278), (Value.int 256 277)⟩, ⟨(PyData.keyHash P (S "code_rows")), (Value.str (S "code_rows") 290), (Value.ref 84)⟩, ⟨(PyData.keyHash P (S "check_told")), (Value.str (S "check_told") 300), (Value.ref 91)⟩, ⟨(PyData.keyHash P (S "HuffTable")), (Value.str (S "HuffTable") 359), (Value.ref 122)⟩, ⟨(PyData.keyHash P (S "Tables")), (Value.str (S "Tables") 407), (Value.ref 157)⟩, ⟨(PyData.keyHash P (S "used_keys")), (Value.str (S "used_keys") 418), (Value.ref 168)⟩, ⟨(PyData.keyHash P (S "made_codes")), (Value.str (S "made_codes") 432), (Value.ref 175)⟩] 22), #[]⟩
noncomputable def o_176 : Params → Obj := fun P => ⟨Value.none, none, (Data.fields #[(Value.int 1 0), (Value.int 0 0), (Value.ref 20), (Value.int 5 0), (Value.int 0 0), (Value.ref 27), (Value.int 10 0), (Value.int 0 0), (Value.ref 47), (Value.int 12 0), (Value.int 0 0), (Value.ref 59), (Value.int 14 0), (Value.int 0 0), (Value.ref 71), (Value.int 19 0), (Value.int 0 0), (Value.ref 83), (Value.int 31 0), (Value.int 0 0), (Value.ref 90), (Value.int 41 0), (Value.int 0 0), (Value.ref 97), (Value.int 68 0), (Value.int 0 0), (Value.ref 132), (Value.int 82 0), (Value.int 0 0), (Value.ref 167), (Value.int 95 0), (Value.int 0 0), (Value.ref 174)]), #[]⟩
noncomputable def o_226 : Params → Obj := fun P => ⟨(Value.type "dict"), none, (Data.dict #[⟨(PyData.keyHash P (S "__name__")), (Value.str (S "__name__") 165), (Value.str (S "pixelpress.scans") 490)⟩, ⟨(PyData.keyHash P (S "__doc__")), (Value.str (S "__doc__") 166), Value.none⟩, ⟨(PyData.keyHash P (S "__package__")), (Value.str (S "__package__") 167), Value.none⟩, ⟨(PyData.keyHash P (S "__loader__")), (Value.str (S "__loader__") 168), (ldr P)⟩, ⟨(PyData.keyHash P (S "__spec__")), (Value.str (S "__spec__") 169), Value.none⟩, ⟨(PyData.keyHash P (S "__annotations__")), (Value.str (S "__annotations__") 170), (Value.ref 6)⟩, ⟨(PyData.keyHash P (S "__builtins__")), (Value.str (S "__builtins__") 171), (Value.ref 4)⟩, ⟨(PyData.keyHash P (S "__file__")), (Value.str (S "__file__") 173), (Value.str (S "/claim/cut.py") 172)⟩, ⟨(PyData.keyHash P (S "__cached__")), (Value.str (S "__cached__") 174), Value.none⟩, ⟨(PyData.keyHash P (S "_wall")), (Value.str (S "_wall") 193), (Value.ref 21)⟩, ⟨(PyData.keyHash P (S "PressError")), (Value.str (S "PressError") 224), (Value.ref 38)⟩, ⟨(PyData.keyHash P (S "TableError")), (Value.str (S "TableError") 240), (Value.ref 51)⟩, ⟨(PyData.keyHash P (S "CodeError")), (Value.str (S "CodeError") 256), (Value.ref 63)⟩, ⟨(PyData.keyHash P (S "CutError")), (Value.str (S "CutError") 272), (Value.ref 75)⟩, ⟨(PyData.keyHash P (S "MOST_BITS")), (Value.str (S "MOST_BITS") 276), (Value.int 16 275)⟩, ⟨(PyData.keyHash P (S "MOST_SYMBOLS")), (Value.str (S "MOST_SYMBOLS") 278), (Value.int 256 277)⟩, ⟨(PyData.keyHash P (S "code_rows")), (Value.str (S "code_rows") 290), (Value.ref 84)⟩, ⟨(PyData.keyHash P (S "check_told")), (Value.str (S "check_told") 300), (Value.ref 91)⟩, ⟨(PyData.keyHash P (S "HuffTable")), (Value.str (S "HuffTable") 359), (Value.ref 122)⟩, ⟨(PyData.keyHash P (S "Tables")), (Value.str (S "Tables") 407), (Value.ref 157)⟩, ⟨(PyData.keyHash P (S "used_keys")), (Value.str (S "used_keys") 418), (Value.ref 168)⟩, ⟨(PyData.keyHash P (S "made_codes")), (Value.str (S "made_codes") 432), (Value.ref 175)⟩, ⟨(PyData.keyHash P (S "BitReader")), (Value.str (S "BitReader") 489), (Value.ref 213)⟩] 23), #[]⟩
noncomputable def o_227 : Params → Obj := fun P => ⟨Value.none, none, (Data.fields #[(Value.int 1 0), (Value.int 0 0), (Value.ref 20), (Value.int 5 0), (Value.int 0 0), (Value.ref 27), (Value.int 10 0), (Value.int 0 0), (Value.ref 47), (Value.int 12 0), (Value.int 0 0), (Value.ref 59), (Value.int 14 0), (Value.int 0 0), (Value.ref 71), (Value.int 19 0), (Value.int 0 0), (Value.ref 83), (Value.int 31 0), (Value.int 0 0), (Value.ref 90), (Value.int 41 0), (Value.int 0 0), (Value.ref 97), (Value.int 68 0), (Value.int 0 0), (Value.ref 132), (Value.int 82 0), (Value.int 0 0), (Value.ref 167), (Value.int 95 0), (Value.int 0 0), (Value.ref 174), (Value.int 102 0), (Value.int 0 0), (Value.ref 181)]), #[]⟩
noncomputable def o_270 : Params → Obj := fun P => ⟨(Value.type "dict"), none, (Data.dict #[⟨(PyData.keyHash P (S "__name__")), (Value.str (S "__name__") 165), (Value.str (S "law_ok0140_01") 547)⟩, ⟨(PyData.keyHash P (S "__doc__")), (Value.str (S "__doc__") 166), Value.none⟩, ⟨(PyData.keyHash P (S "__package__")), (Value.str (S "__package__") 167), Value.none⟩, ⟨(PyData.keyHash P (S "__loader__")), (Value.str (S "__loader__") 168), (ldr P)⟩, ⟨(PyData.keyHash P (S "__spec__")), (Value.str (S "__spec__") 169), Value.none⟩, ⟨(PyData.keyHash P (S "__annotations__")), (Value.str (S "__annotations__") 170), (Value.ref 6)⟩, ⟨(PyData.keyHash P (S "__builtins__")), (Value.str (S "__builtins__") 171), (Value.ref 4)⟩, ⟨(PyData.keyHash P (S "__file__")), (Value.str (S "__file__") 173), (Value.str (S "/claim/cut.py") 172)⟩, ⟨(PyData.keyHash P (S "__cached__")), (Value.str (S "__cached__") 174), Value.none⟩, ⟨(PyData.keyHash P (S "_wall")), (Value.str (S "_wall") 193), (Value.ref 21)⟩, ⟨(PyData.keyHash P (S "PressError")), (Value.str (S "PressError") 224), (Value.ref 38)⟩, ⟨(PyData.keyHash P (S "TableError")), (Value.str (S "TableError") 240), (Value.ref 51)⟩, ⟨(PyData.keyHash P (S "CodeError")), (Value.str (S "CodeError") 256), (Value.ref 63)⟩, ⟨(PyData.keyHash P (S "CutError")), (Value.str (S "CutError") 272), (Value.ref 75)⟩, ⟨(PyData.keyHash P (S "MOST_BITS")), (Value.str (S "MOST_BITS") 276), (Value.int 16 275)⟩, ⟨(PyData.keyHash P (S "MOST_SYMBOLS")), (Value.str (S "MOST_SYMBOLS") 278), (Value.int 256 277)⟩, ⟨(PyData.keyHash P (S "code_rows")), (Value.str (S "code_rows") 290), (Value.ref 84)⟩, ⟨(PyData.keyHash P (S "check_told")), (Value.str (S "check_told") 300), (Value.ref 91)⟩, ⟨(PyData.keyHash P (S "HuffTable")), (Value.str (S "HuffTable") 359), (Value.ref 122)⟩, ⟨(PyData.keyHash P (S "Tables")), (Value.str (S "Tables") 407), (Value.ref 157)⟩, ⟨(PyData.keyHash P (S "used_keys")), (Value.str (S "used_keys") 418), (Value.ref 168)⟩, ⟨(PyData.keyHash P (S "made_codes")), (Value.str (S "made_codes") 432), (Value.ref 175)⟩, ⟨(PyData.keyHash P (S "BitReader")), (Value.str (S "BitReader") 489), (Value.ref 213)⟩, ⟨(PyData.keyHash P (S "Scan")), (Value.str (S "Scan") 546), (Value.ref 248)⟩, ⟨(PyData.keyHash P (S "_law_pool")), (Value.str (S "_law_pool") 559), (Value.ref 259)⟩, ⟨(PyData.keyHash P (S "_law_take")), (Value.str (S "_law_take") 568), (Value.ref 266)⟩, ⟨(PyData.keyHash P (S "_law_one")), (Value.str (S "_law_one") 576), (Value.ref 273)⟩] 27), #[]⟩
noncomputable def o_271 : Params → Obj := fun P => ⟨Value.none, none, (Data.fields #[(Value.int 1 0), (Value.int 0 0), (Value.ref 20), (Value.int 5 0), (Value.int 0 0), (Value.ref 27), (Value.int 10 0), (Value.int 0 0), (Value.ref 47), (Value.int 12 0), (Value.int 0 0), (Value.ref 59), (Value.int 14 0), (Value.int 0 0), (Value.ref 71), (Value.int 19 0), (Value.int 0 0), (Value.ref 83), (Value.int 31 0), (Value.int 0 0), (Value.ref 90), (Value.int 41 0), (Value.int 0 0), (Value.ref 97), (Value.int 68 0), (Value.int 0 0), (Value.ref 132), (Value.int 82 0), (Value.int 0 0), (Value.ref 167), (Value.int 95 0), (Value.int 0 0), (Value.ref 174), (Value.int 102 0), (Value.int 0 0), (Value.ref 181), (Value.int 126 0), (Value.int 0 0), (Value.ref 223), (Value.int 143 0), (Value.int 0 0), (Value.ref 258), (Value.int 150 0), (Value.int 0 0), (Value.ref 265), (Value.int 157 0), (Value.int 0 0), (Value.ref 272)]), #[]⟩
noncomputable def tr0 : Params → BT := fun P => (nd (W.boot_o_0 P) (nd (W.boot_o_1 P) (nd (W.boot_o_3 P) (nd (W.boot_o_7 P) nl nl) (nd (o_43 P) nl nl)) (nd (W.boot_o_5 P) (nd (W.boot_o_9 P) nl nl) (nd (o_45 P) nl nl))) (nd (W.boot_o_2 P) (nd (W.boot_o_4 P) (nd (W.boot_o_8 P) nl nl) (nd (o_44 P) nl nl)) (nd (W.boot_o_6 P) (nd (W.boot_o_10 P) nl nl) (nd (o_46 P) nl nl))))
noncomputable def tr1 : Params → BT := fun P => (nd (W.boot_o_0 P) (nd (W.boot_o_1 P) (nd (o_50 P) (nd (W.boot_o_7 P) (nd (kO P 2) (nd (kO P 9) nl nl) nl) (nd (o_60 P) (nd (kO P 16) nl nl) nl)) (nd (o_43 P) (nd (o_56 P) (nd (kO P 12) nl nl) nl) (nd (o_64 P) nl nl))) (nd (W.boot_o_5 P) (nd (W.boot_o_9 P) (nd (kO P 3) (nd (o_70 P) nl nl) nl) (nd (o_62 P) (nd (o_78 P) nl nl) nl)) (nd (o_45 P) (nd (kO P 6) (nd (kO P 14) nl nl) nl) (nd (kO P 8) nl nl)))) (nd (kO P 0) (nd (W.boot_o_4 P) (nd (W.boot_o_8 P) (nd (o_53 P) (nd (kO P 10) nl nl) nl) (nd (o_61 P) (nd (o_77 P) nl nl) nl)) (nd (o_51 P) (nd (kO P 5) (nd (kO P 13) nl nl) nl) (nd (o_65 P) nl nl))) (nd (W.boot_o_6 P) (nd (W.boot_o_10 P) (nd (kO P 4) (nd (kO P 11) nl nl) nl) (nd (o_63 P) nl nl)) (nd (o_46 P) (nd (kO P 7) (nd (o_75 P) nl nl) nl) (nd (o_67 P) nl nl)))))
noncomputable def tr2 : Params → BT := fun P => (nd (W.boot_o_0 P) (nd (W.boot_o_1 P) (nd (o_79 P) (nd (W.boot_o_7 P) (nd (kO P 2) (nd (kO P 9) nl nl) (nd (o_87 P) nl nl)) (nd (o_60 P) (nd (kO P 16) nl nl) nl)) (nd (o_43 P) (nd (o_56 P) (nd (kO P 12) nl nl) (nd (kO P 20) nl nl)) (nd (o_64 P) (nd (o_83 P) nl nl) nl))) (nd (W.boot_o_5 P) (nd (W.boot_o_9 P) (nd (kO P 3) (nd (o_70 P) nl nl) (nd (kO P 18) nl nl)) (nd (o_62 P) (nd (o_78 P) nl nl) nl)) (nd (o_45 P) (nd (kO P 6) (nd (kO P 14) nl nl) (nd (o_93 P) nl nl)) (nd (kO P 8) (nd (o_85 P) nl nl) nl)))) (nd (kO P 0) (nd (W.boot_o_4 P) (nd (W.boot_o_8 P) (nd (o_53 P) (nd (kO P 10) nl nl) (nd (o_88 P) nl nl)) (nd (o_61 P) (nd (o_77 P) nl nl) nl)) (nd (o_80 P) (nd (kO P 5) (nd (kO P 13) nl nl) (nd (o_92 P) nl nl)) (nd (o_65 P) (nd (o_84 P) nl nl) nl))) (nd (W.boot_o_6 P) (nd (W.boot_o_10 P) (nd (kO P 4) (nd (kO P 11) nl nl) (nd (kO P 19) nl nl)) (nd (o_63 P) (nd (kO P 17) nl nl) nl)) (nd (o_46 P) (nd (kO P 7) (nd (o_81 P) nl nl) nl) (nd (o_67 P) (nd (o_86 P) nl nl) nl)))))
noncomputable def tr3 : Params → BT := fun P => (nd (W.boot_o_0 P) (nd (W.boot_o_1 P) (nd (o_94 P) (nd (W.boot_o_7 P) (nd (kO P 2) (nd (kO P 9) (nd (kO P 24) nl nl) nl) (nd (o_87 P) nl nl)) (nd (o_60 P) (nd (kO P 16) nl nl) (nd (o_98 P) nl nl))) (nd (o_43 P) (nd (o_56 P) (nd (kO P 12) nl nl) (nd (kO P 20) nl nl)) (nd (o_64 P) (nd (o_83 P) nl nl) (nd (o_102 P) nl nl)))) (nd (W.boot_o_5 P) (nd (W.boot_o_9 P) (nd (kO P 3) (nd (o_70 P) (nd (o_108 P) nl nl) nl) (nd (kO P 18) nl nl)) (nd (o_62 P) (nd (o_78 P) nl nl) (nd (o_100 P) nl nl))) (nd (o_45 P) (nd (kO P 6) (nd (kO P 14) nl nl) (nd (o_93 P) nl nl)) (nd (kO P 8) (nd (o_85 P) nl nl) (nd (kO P 22) nl nl))))) (nd (kO P 0) (nd (W.boot_o_4 P) (nd (W.boot_o_8 P) (nd (o_53 P) (nd (kO P 10) (nd (o_107 P) nl nl) nl) (nd (o_88 P) nl nl)) (nd (o_61 P) (nd (o_77 P) nl nl) (nd (o_99 P) nl nl))) (nd (o_95 P) (nd (kO P 5) (nd (kO P 13) nl nl) (nd (o_92 P) nl nl)) (nd (o_65 P) (nd (o_84 P) nl nl) (nd (o_103 P) nl nl)))) (nd (W.boot_o_6 P) (nd (W.boot_o_10 P) (nd (kO P 4) (nd (kO P 11) nl nl) (nd (kO P 19) nl nl)) (nd (o_63 P) (nd (kO P 17) nl nl) (nd (o_101 P) nl nl))) (nd (o_46 P) (nd (kO P 7) (nd (o_96 P) nl nl) (nd (kO P 21) nl nl)) (nd (o_67 P) (nd (o_86 P) nl nl) (nd (kO P 23) nl nl))))))
noncomputable def tr4 : Params → BT := fun P => (nd (W.boot_o_0 P) (nd (W.boot_o_1 P) (nd (o_109 P) (nd (W.boot_o_7 P) (nd (kO P 2) (nd (kO P 9) (nd (kO P 24) nl nl) nl) (nd (o_87 P) (nd (o_125 P) nl nl) nl)) (nd (o_60 P) (nd (kO P 16) (nd (o_117 P) nl nl) nl) (nd (o_98 P) (nd (kO P 35) nl nl) nl))) (nd (o_43 P) (nd (o_56 P) (nd (kO P 12) (nd (o_113 P) nl nl) nl) (nd (kO P 20) (nd (kO P 32) nl nl) nl)) (nd (o_64 P) (nd (o_83 P) (nd (kO P 28) nl nl) nl) (nd (o_102 P) (nd (kO P 38) nl nl) nl)))) (nd (W.boot_o_5 P) (nd (W.boot_o_9 P) (nd (kO P 3) (nd (o_70 P) (nd (o_108 P) nl nl) nl) (nd (kO P 18) (nd (kO P 31) nl nl) nl)) (nd (o_62 P) (nd (o_78 P) (nd (kO P 26) nl nl) nl) (nd (o_100 P) (nd (o_135 P) nl nl) nl))) (nd (o_45 P) (nd (kO P 6) (nd (kO P 14) (nd (o_115 P) nl nl) nl) (nd (o_93 P) (nd (kO P 34) nl nl) nl)) (nd (kO P 8) (nd (o_85 P) (nd (o_123 P) nl nl) nl) (nd (kO P 22) nl nl))))) (nd (kO P 0) (nd (W.boot_o_4 P) (nd (W.boot_o_8 P) (nd (o_53 P) (nd (kO P 10) (nd (o_107 P) nl nl) nl) (nd (o_88 P) (nd (kO P 30) nl nl) nl)) (nd (o_61 P) (nd (o_77 P) (nd (o_118 P) nl nl) nl) (nd (o_99 P) (nd (kO P 36) nl nl) nl))) (nd (o_110 P) (nd (kO P 5) (nd (kO P 13) (nd (o_114 P) nl nl) nl) (nd (o_92 P) (nd (kO P 33) nl nl) nl)) (nd (o_65 P) (nd (o_84 P) (nd (o_122 P) nl nl) nl) (nd (o_103 P) nl nl)))) (nd (W.boot_o_6 P) (nd (W.boot_o_10 P) (nd (kO P 4) (nd (kO P 11) (nd (kO P 25) nl nl) nl) (nd (kO P 19) (nd (o_128 P) nl nl) nl)) (nd (o_63 P) (nd (kO P 17) (nd (kO P 27) nl nl) nl) (nd (o_101 P) (nd (kO P 37) nl nl) nl))) (nd (o_46 P) (nd (kO P 7) (nd (kO P 15) (nd (o_116 P) nl nl) nl) (nd (kO P 21) (nd (o_132 P) nl nl) nl)) (nd (o_67 P) (nd (o_86 P) (nd (kO P 29) nl nl) nl) (nd (kO P 23) nl nl))))))
noncomputable def tr5 : Params → BT := fun P => (nd (W.boot_o_0 P) (nd (W.boot_o_1 P) (nd (o_138 P) (nd (W.boot_o_7 P) (nd (kO P 2) (nd (kO P 9) (nd (kO P 24) nl nl) (nd (o_143 P) nl nl)) (nd (o_87 P) (nd (o_125 P) nl nl) (nd (kO P 47) nl nl))) (nd (o_60 P) (nd (kO P 16) (nd (o_117 P) nl nl) (nd (o_151 P) nl nl)) (nd (o_98 P) (nd (kO P 35) nl nl) (nd (kO P 53) nl nl)))) (nd (o_43 P) (nd (o_56 P) (nd (kO P 12) (nd (o_113 P) nl nl) (nd (kO P 39) nl nl)) (nd (kO P 20) (nd (kO P 32) nl nl) (nd (kO P 50) nl nl))) (nd (o_64 P) (nd (o_83 P) (nd (kO P 28) nl nl) (nd (o_155 P) nl nl)) (nd (o_102 P) (nd (kO P 38) nl nl) (nd (kO P 57) nl nl))))) (nd (W.boot_o_5 P) (nd (W.boot_o_9 P) (nd (kO P 3) (nd (o_70 P) (nd (o_108 P) nl nl) (nd (o_145 P) nl nl)) (nd (kO P 18) (nd (kO P 31) nl nl) (nd (kO P 49) nl nl))) (nd (o_62 P) (nd (o_78 P) (nd (kO P 26) nl nl) (nd (kO P 43) nl nl)) (nd (o_100 P) (nd (o_135 P) nl nl) (nd (kO P 55) nl nl)))) (nd (o_45 P) (nd (kO P 6) (nd (kO P 14) (nd (o_115 P) nl nl) (nd (kO P 40) nl nl)) (nd (o_93 P) (nd (kO P 34) nl nl) (nd (o_165 P) nl nl))) (nd (kO P 8) (nd (o_85 P) (nd (o_123 P) nl nl) (nd (kO P 46) nl nl)) (nd (kO P 22) (nd (o_141 P) nl nl) (nd (o_173 P) nl nl)))))) (nd (kO P 0) (nd (W.boot_o_4 P) (nd (W.boot_o_8 P) (nd (o_53 P) (nd (kO P 10) (nd (o_107 P) nl nl) (nd (o_144 P) nl nl)) (nd (o_88 P) (nd (kO P 30) nl nl) (nd (kO P 48) nl nl))) (nd (o_61 P) (nd (o_77 P) (nd (o_118 P) nl nl) (nd (kO P 42) nl nl)) (nd (o_99 P) (nd (kO P 36) nl nl) (nd (kO P 54) nl nl)))) (nd (o_139 P) (nd (kO P 5) (nd (kO P 13) (nd (o_114 P) nl nl) (nd (o_148 P) nl nl)) (nd (o_92 P) (nd (kO P 33) nl nl) (nd (kO P 51) nl nl))) (nd (o_65 P) (nd (o_84 P) (nd (o_122 P) nl nl) (nd (kO P 45) nl nl)) (nd (o_103 P) (nd (o_140 P) nl nl) (nd (kO P 58) nl nl))))) (nd (W.boot_o_6 P) (nd (W.boot_o_10 P) (nd (kO P 4) (nd (kO P 11) (nd (kO P 25) nl nl) (nd (o_146 P) nl nl)) (nd (kO P 19) (nd (o_128 P) nl nl) (nd (o_162 P) nl nl))) (nd (o_63 P) (nd (kO P 17) (nd (kO P 27) nl nl) (nd (kO P 44) nl nl)) (nd (o_101 P) (nd (kO P 37) nl nl) (nd (kO P 56) nl nl)))) (nd (o_46 P) (nd (kO P 7) (nd (kO P 15) (nd (o_116 P) nl nl) (nd (kO P 41) nl nl)) (nd (kO P 21) (nd (o_132 P) nl nl) (nd (kO P 52) nl nl))) (nd (o_67 P) (nd (o_86 P) (nd (kO P 29) nl nl) (nd (o_158 P) nl nl)) (nd (kO P 23) (nd (o_142 P) nl nl) (nd (o_174 P) nl nl)))))))
noncomputable def tr6 : Params → BT := fun P => (nd (W.boot_o_0 P) (nd (W.boot_o_1 P) (nd (o_175 P) (nd (W.boot_o_7 P) (nd (kO P 2) (nd (kO P 9) (nd (kO P 24) (nd (o_177 P) nl nl) nl) (nd (o_143 P) (nd (kO P 78) nl nl) nl)) (nd (o_87 P) (nd (o_125 P) (nd (kO P 65) nl nl) nl) (nd (kO P 47) (nd (kO P 88) nl nl) nl))) (nd (o_60 P) (nd (kO P 16) (nd (o_117 P) (nd (o_185 P) nl nl) nl) (nd (o_151 P) (nd (kO P 82) nl nl) nl)) (nd (o_98 P) (nd (kO P 35) (nd (kO P 71) nl nl) nl) (nd (kO P 53) nl nl)))) (nd (o_43 P) (nd (o_56 P) (nd (kO P 12) (nd (o_113 P) (nd (o_181 P) nl nl) nl) (nd (kO P 39) (nd (o_213 P) nl nl) nl)) (nd (kO P 20) (nd (kO P 32) (nd (kO P 68) nl nl) nl) (nd (kO P 50) nl nl))) (nd (o_64 P) (nd (o_83 P) (nd (kO P 28) (nd (kO P 62) nl nl) nl) (nd (o_155 P) (nd (kO P 85) nl nl) nl)) (nd (o_102 P) (nd (kO P 38) (nd (kO P 74) nl nl) nl) (nd (kO P 57) nl nl))))) (nd (W.boot_o_5 P) (nd (W.boot_o_9 P) (nd (kO P 3) (nd (o_70 P) (nd (o_108 P) (nd (o_179 P) nl nl) nl) (nd (o_145 P) (nd (o_211 P) nl nl) nl)) (nd (kO P 18) (nd (kO P 31) (nd (o_195 P) nl nl) nl) (nd (kO P 49) nl nl))) (nd (o_62 P) (nd (o_78 P) (nd (kO P 26) (nd (kO P 61) nl nl) nl) (nd (kO P 43) (nd (kO P 84) nl nl) nl)) (nd (o_100 P) (nd (o_135 P) (nd (kO P 72) nl nl) nl) (nd (kO P 55) nl nl)))) (nd (o_45 P) (nd (kO P 6) (nd (kO P 14) (nd (o_115 P) (nd (o_183 P) nl nl) nl) (nd (kO P 40) (nd (kO P 81) nl nl) nl)) (nd (o_93 P) (nd (kO P 34) (nd (o_199 P) nl nl) nl) (nd (o_165 P) nl nl))) (nd (kO P 8) (nd (o_85 P) (nd (o_123 P) (nd (kO P 64) nl nl) nl) (nd (kO P 46) (nd (o_223 P) nl nl) nl)) (nd (kO P 22) (nd (o_141 P) (nd (kO P 76) nl nl) nl) (nd (o_173 P) nl nl)))))) (nd (kO P 0) (nd (W.boot_o_4 P) (nd (W.boot_o_8 P) (nd (o_53 P) (nd (kO P 10) (nd (o_107 P) (nd (o_178 P) nl nl) nl) (nd (o_144 P) (nd (o_210 P) nl nl) nl)) (nd (o_88 P) (nd (kO P 30) (nd (kO P 66) nl nl) nl) (nd (kO P 48) nl nl))) (nd (o_61 P) (nd (o_77 P) (nd (o_118 P) (nd (kO P 60) nl nl) nl) (nd (kO P 42) (nd (kO P 83) nl nl) nl)) (nd (o_99 P) (nd (kO P 36) (nd (o_202 P) nl nl) nl) (nd (kO P 54) nl nl)))) (nd (o_176 P) (nd (kO P 5) (nd (kO P 13) (nd (o_114 P) (nd (o_182 P) nl nl) nl) (nd (o_148 P) (nd (kO P 80) nl nl) nl)) (nd (o_92 P) (nd (kO P 33) (nd (kO P 69) nl nl) nl) (nd (kO P 51) nl nl))) (nd (o_65 P) (nd (o_84 P) (nd (o_122 P) (nd (kO P 63) nl nl) nl) (nd (kO P 45) (nd (kO P 86) nl nl) nl)) (nd (o_103 P) (nd (o_140 P) (nd (kO P 75) nl nl) nl) (nd (kO P 58) nl nl))))) (nd (W.boot_o_6 P) (nd (W.boot_o_10 P) (nd (kO P 4) (nd (kO P 11) (nd (kO P 25) (nd (o_180 P) nl nl) nl) (nd (o_146 P) (nd (kO P 79) nl nl) nl)) (nd (kO P 19) (nd (o_128 P) (nd (kO P 67) nl nl) nl) (nd (o_162 P) nl nl))) (nd (o_63 P) (nd (kO P 17) (nd (kO P 27) (nd (o_188 P) nl nl) nl) (nd (kO P 44) (nd (o_220 P) nl nl) nl)) (nd (o_101 P) (nd (kO P 37) (nd (kO P 73) nl nl) nl) (nd (kO P 56) nl nl)))) (nd (o_46 P) (nd (kO P 7) (nd (kO P 15) (nd (o_116 P) (nd (kO P 59) nl nl) nl) (nd (kO P 41) (nd (o_216 P) nl nl) nl)) (nd (kO P 21) (nd (o_132 P) (nd (kO P 70) nl nl) nl) (nd (kO P 52) nl nl))) (nd (o_67 P) (nd (o_86 P) (nd (kO P 29) (nd (o_192 P) nl nl) nl) (nd (o_158 P) (nd (kO P 87) nl nl) nl)) (nd (kO P 23) (nd (o_142 P) (nd (kO P 77) nl nl) nl) (nd (o_174 P) nl nl)))))))
noncomputable def tr7 : Params → BT := fun P => (nd (W.boot_o_0 P) (nd (W.boot_o_1 P) (nd (o_226 P) (nd (W.boot_o_7 P) (nd (kO P 2) (nd (kO P 9) (nd (kO P 24) (nd (o_177 P) nl nl) (nd (o_243 P) nl nl)) (nd (o_143 P) (nd (kO P 78) nl nl) nl)) (nd (o_87 P) (nd (o_125 P) (nd (kO P 65) nl nl) (nd (kO P 106) nl nl)) (nd (kO P 47) (nd (kO P 88) nl nl) nl))) (nd (o_60 P) (nd (kO P 16) (nd (o_117 P) (nd (o_185 P) nl nl) (nd (kO P 100) nl nl)) (nd (o_151 P) (nd (kO P 82) nl nl) nl)) (nd (o_98 P) (nd (kO P 35) (nd (kO P 71) nl nl) (nd (kO P 113) nl nl)) (nd (kO P 53) (nd (kO P 89) nl nl) nl)))) (nd (o_43 P) (nd (o_56 P) (nd (kO P 12) (nd (o_113 P) (nd (o_181 P) nl nl) (nd (kO P 97) nl nl)) (nd (kO P 39) (nd (o_213 P) nl nl) nl)) (nd (kO P 20) (nd (kO P 32) (nd (kO P 68) nl nl) (nd (kO P 109) nl nl)) (nd (kO P 50) (nd (o_231 P) nl nl) nl))) (nd (o_64 P) (nd (o_83 P) (nd (kO P 28) (nd (kO P 62) nl nl) (nd (kO P 103) nl nl)) (nd (o_155 P) (nd (kO P 85) nl nl) nl)) (nd (o_102 P) (nd (kO P 38) (nd (kO P 74) nl nl) nl) (nd (kO P 57) (nd (o_239 P) nl nl) nl))))) (nd (W.boot_o_5 P) (nd (W.boot_o_9 P) (nd (kO P 3) (nd (o_70 P) (nd (o_108 P) (nd (o_179 P) nl nl) (nd (kO P 96) nl nl)) (nd (o_145 P) (nd (o_211 P) nl nl) nl)) (nd (kO P 18) (nd (kO P 31) (nd (o_195 P) nl nl) (nd (kO P 107) nl nl)) (nd (kO P 49) (nd (o_229 P) nl nl) nl))) (nd (o_62 P) (nd (o_78 P) (nd (kO P 26) (nd (kO P 61) nl nl) (nd (o_253 P) nl nl)) (nd (kO P 43) (nd (kO P 84) nl nl) nl)) (nd (o_100 P) (nd (o_135 P) (nd (kO P 72) nl nl) (nd (o_269 P) nl nl)) (nd (kO P 55) (nd (kO P 90) nl nl) nl)))) (nd (o_45 P) (nd (kO P 6) (nd (kO P 14) (nd (o_115 P) (nd (o_183 P) nl nl) (nd (kO P 99) nl nl)) (nd (kO P 40) (nd (kO P 81) nl nl) nl)) (nd (o_93 P) (nd (kO P 34) (nd (o_199 P) nl nl) (nd (kO P 111) nl nl)) (nd (o_165 P) (nd (o_233 P) nl nl) nl))) (nd (kO P 8) (nd (o_85 P) (nd (o_123 P) (nd (kO P 64) nl nl) (nd (o_257 P) nl nl)) (nd (kO P 46) (nd (o_223 P) nl nl) nl)) (nd (kO P 22) (nd (o_141 P) (nd (kO P 76) nl nl) nl) (nd (o_173 P) (nd (kO P 93) nl nl) nl)))))) (nd (kO P 0) (nd (W.boot_o_4 P) (nd (W.boot_o_8 P) (nd (o_53 P) (nd (kO P 10) (nd (o_107 P) (nd (o_178 P) nl nl) (nd (kO P 95) nl nl)) (nd (o_144 P) (nd (o_210 P) nl nl) nl)) (nd (o_88 P) (nd (kO P 30) (nd (kO P 66) nl nl) (nd (o_260 P) nl nl)) (nd (kO P 48) (nd (o_228 P) nl nl) nl))) (nd (o_61 P) (nd (o_77 P) (nd (o_118 P) (nd (kO P 60) nl nl) (nd (kO P 101) nl nl)) (nd (kO P 42) (nd (kO P 83) nl nl) nl)) (nd (o_99 P) (nd (kO P 36) (nd (o_202 P) nl nl) (nd (o_268 P) nl nl)) (nd (kO P 54) (nd (o_236 P) nl nl) nl)))) (nd (o_227 P) (nd (kO P 5) (nd (kO P 13) (nd (o_114 P) (nd (o_182 P) nl nl) (nd (kO P 98) nl nl)) (nd (o_148 P) (nd (kO P 80) nl nl) nl)) (nd (o_92 P) (nd (kO P 33) (nd (kO P 69) nl nl) (nd (kO P 110) nl nl)) (nd (kO P 51) (nd (o_232 P) nl nl) nl))) (nd (o_65 P) (nd (o_84 P) (nd (o_122 P) (nd (kO P 63) nl nl) (nd (kO P 104) nl nl)) (nd (kO P 45) (nd (kO P 86) nl nl) nl)) (nd (o_103 P) (nd (o_140 P) (nd (kO P 75) nl nl) nl) (nd (kO P 58) (nd (kO P 92) nl nl) nl))))) (nd (W.boot_o_6 P) (nd (W.boot_o_10 P) (nd (kO P 4) (nd (kO P 11) (nd (kO P 25) (nd (o_180 P) nl nl) (nd (o_246 P) nl nl)) (nd (o_146 P) (nd (kO P 79) nl nl) nl)) (nd (kO P 19) (nd (o_128 P) (nd (kO P 67) nl nl) (nd (kO P 108) nl nl)) (nd (o_162 P) (nd (o_230 P) nl nl) nl))) (nd (o_63 P) (nd (kO P 17) (nd (kO P 27) (nd (o_188 P) nl nl) (nd (kO P 102) nl nl)) (nd (kO P 44) (nd (o_220 P) nl nl) nl)) (nd (o_101 P) (nd (kO P 37) (nd (kO P 73) nl nl) nl) (nd (kO P 56) (nd (kO P 91) nl nl) nl)))) (nd (o_46 P) (nd (kO P 7) (nd (kO P 15) (nd (o_116 P) (nd (kO P 59) nl nl) (nd (o_250 P) nl nl)) (nd (kO P 41) (nd (o_216 P) nl nl) nl)) (nd (kO P 21) (nd (o_132 P) (nd (kO P 70) nl nl) (nd (kO P 112) nl nl)) (nd (kO P 52) (nd (o_234 P) nl nl) nl))) (nd (o_67 P) (nd (o_86 P) (nd (kO P 29) (nd (o_192 P) nl nl) (nd (kO P 105) nl nl)) (nd (o_158 P) (nd (kO P 87) nl nl) nl)) (nd (kO P 23) (nd (o_142 P) (nd (kO P 77) nl nl) nl) (nd (o_174 P) (nd (kO P 94) nl nl) nl)))))))
noncomputable def tr8 : Params → BT := fun P => (nd (W.boot_o_0 P) (nd (W.boot_o_1 P) (nd (o_270 P) (nd (W.boot_o_7 P) (nd (kO P 2) (nd (kO P 9) (nd (kO P 24) (nd (o_177 P) (nd (kO P 135) nl nl) nl) (nd (o_243 P) nl nl)) (nd (o_143 P) (nd (kO P 78) nl nl) (nd (o_277 P) nl nl))) (nd (o_87 P) (nd (o_125 P) (nd (kO P 65) (nd (o_325 P) nl nl) nl) (nd (kO P 106) nl nl)) (nd (kO P 47) (nd (kO P 88) nl nl) (nd (kO P 124) nl nl)))) (nd (o_60 P) (nd (kO P 16) (nd (o_117 P) (nd (o_185 P) (nd (kO P 141) nl nl) nl) (nd (kO P 100) nl nl)) (nd (o_151 P) (nd (kO P 82) nl nl) (nd (kO P 118) nl nl))) (nd (o_98 P) (nd (kO P 35) (nd (kO P 71) nl nl) (nd (kO P 113) nl nl)) (nd (kO P 53) (nd (kO P 89) nl nl) (nd (kO P 130) nl nl))))) (nd (o_43 P) (nd (o_56 P) (nd (kO P 12) (nd (o_113 P) (nd (o_181 P) (nd (kO P 138) nl nl) nl) (nd (kO P 97) nl nl)) (nd (kO P 39) (nd (o_213 P) nl nl) (nd (kO P 115) nl nl))) (nd (kO P 20) (nd (kO P 32) (nd (kO P 68) nl nl) (nd (kO P 109) nl nl)) (nd (kO P 50) (nd (o_231 P) nl nl) (nd (o_297 P) nl nl)))) (nd (o_64 P) (nd (o_83 P) (nd (kO P 28) (nd (kO P 62) (nd (kO P 144) nl nl) nl) (nd (kO P 103) nl nl)) (nd (o_155 P) (nd (kO P 85) nl nl) (nd (kO P 121) nl nl))) (nd (o_102 P) (nd (kO P 38) (nd (kO P 74) nl nl) (nd (o_273 P) nl nl)) (nd (kO P 57) (nd (o_239 P) nl nl) (nd (o_305 P) nl nl)))))) (nd (W.boot_o_5 P) (nd (W.boot_o_9 P) (nd (kO P 3) (nd (o_70 P) (nd (o_108 P) (nd (o_179 P) (nd (o_311 P) nl nl) nl) (nd (kO P 96) nl nl)) (nd (o_145 P) (nd (o_211 P) nl nl) (nd (kO P 114) nl nl))) (nd (kO P 18) (nd (kO P 31) (nd (o_195 P) (nd (kO P 148) nl nl) nl) (nd (kO P 107) nl nl)) (nd (kO P 49) (nd (o_229 P) nl nl) (nd (kO P 125) nl nl)))) (nd (o_62 P) (nd (o_78 P) (nd (kO P 26) (nd (kO P 61) (nd (kO P 142) nl nl) nl) (nd (o_253 P) nl nl)) (nd (kO P 43) (nd (kO P 84) nl nl) (nd (o_287 P) nl nl))) (nd (o_100 P) (nd (o_135 P) (nd (kO P 72) nl nl) (nd (o_269 P) nl nl)) (nd (kO P 55) (nd (kO P 90) nl nl) (nd (kO P 132) nl nl))))) (nd (o_45 P) (nd (kO P 6) (nd (kO P 14) (nd (o_115 P) (nd (o_183 P) (nd (o_315 P) nl nl) nl) (nd (kO P 99) nl nl)) (nd (kO P 40) (nd (kO P 81) nl nl) (nd (o_283 P) nl nl))) (nd (o_93 P) (nd (kO P 34) (nd (o_199 P) nl nl) (nd (kO P 111) nl nl)) (nd (o_165 P) (nd (o_233 P) nl nl) (nd (kO P 128) nl nl)))) (nd (kO P 8) (nd (o_85 P) (nd (o_123 P) (nd (kO P 64) (nd (kO P 145) nl nl) nl) (nd (o_257 P) nl nl)) (nd (kO P 46) (nd (o_223 P) nl nl) (nd (kO P 122) nl nl))) (nd (kO P 22) (nd (o_141 P) (nd (kO P 76) nl nl) (nd (o_275 P) nl nl)) (nd (o_173 P) (nd (kO P 93) nl nl) (nd (kO P 134) nl nl))))))) (nd (kO P 0) (nd (W.boot_o_4 P) (nd (W.boot_o_8 P) (nd (o_53 P) (nd (kO P 10) (nd (o_107 P) (nd (o_178 P) (nd (kO P 136) nl nl) nl) (nd (kO P 95) nl nl)) (nd (o_144 P) (nd (o_210 P) nl nl) (nd (o_278 P) nl nl))) (nd (o_88 P) (nd (kO P 30) (nd (kO P 66) (nd (kO P 147) nl nl) nl) (nd (o_260 P) nl nl)) (nd (kO P 48) (nd (o_228 P) nl nl) (nd (o_294 P) nl nl)))) (nd (o_61 P) (nd (o_77 P) (nd (o_118 P) (nd (kO P 60) (nd (o_318 P) nl nl) nl) (nd (kO P 101) nl nl)) (nd (kO P 42) (nd (kO P 83) nl nl) (nd (kO P 119) nl nl))) (nd (o_99 P) (nd (kO P 36) (nd (o_202 P) nl nl) (nd (o_268 P) nl nl)) (nd (kO P 54) (nd (o_236 P) nl nl) (nd (kO P 131) nl nl))))) (nd (o_271 P) (nd (kO P 5) (nd (kO P 13) (nd (o_114 P) (nd (o_182 P) (nd (kO P 139) nl nl) nl) (nd (kO P 98) nl nl)) (nd (o_148 P) (nd (kO P 80) nl nl) (nd (kO P 116) nl nl))) (nd (o_92 P) (nd (kO P 33) (nd (kO P 69) nl nl) (nd (kO P 110) nl nl)) (nd (kO P 51) (nd (o_232 P) nl nl) (nd (kO P 127) nl nl)))) (nd (o_65 P) (nd (o_84 P) (nd (o_122 P) (nd (kO P 63) (nd (o_322 P) nl nl) nl) (nd (kO P 104) nl nl)) (nd (kO P 45) (nd (kO P 86) nl nl) (nd (o_290 P) nl nl))) (nd (o_103 P) (nd (o_140 P) (nd (kO P 75) nl nl) (nd (o_274 P) nl nl)) (nd (kO P 58) (nd (kO P 92) nl nl) (nd (o_306 P) nl nl)))))) (nd (W.boot_o_6 P) (nd (W.boot_o_10 P) (nd (kO P 4) (nd (kO P 11) (nd (kO P 25) (nd (o_180 P) (nd (kO P 137) nl nl) nl) (nd (o_246 P) nl nl)) (nd (o_146 P) (nd (kO P 79) nl nl) (nd (o_280 P) nl nl))) (nd (kO P 19) (nd (o_128 P) (nd (kO P 67) nl nl) (nd (kO P 108) nl nl)) (nd (o_162 P) (nd (o_230 P) nl nl) (nd (kO P 126) nl nl)))) (nd (o_63 P) (nd (kO P 17) (nd (kO P 27) (nd (o_188 P) (nd (kO P 143) nl nl) nl) (nd (kO P 102) nl nl)) (nd (kO P 44) (nd (o_220 P) nl nl) (nd (kO P 120) nl nl))) (nd (o_101 P) (nd (kO P 37) (nd (kO P 73) nl nl) (nd (o_272 P) nl nl)) (nd (kO P 56) (nd (kO P 91) nl nl) (nd (kO P 133) nl nl))))) (nd (o_46 P) (nd (kO P 7) (nd (kO P 15) (nd (o_116 P) (nd (kO P 59) (nd (kO P 140) nl nl) nl) (nd (o_250 P) nl nl)) (nd (kO P 41) (nd (o_216 P) nl nl) (nd (kO P 117) nl nl))) (nd (kO P 21) (nd (o_132 P) (nd (kO P 70) nl nl) (nd (kO P 112) nl nl)) (nd (kO P 52) (nd (o_234 P) nl nl) (nd (kO P 129) nl nl)))) (nd (o_67 P) (nd (o_86 P) (nd (kO P 29) (nd (o_192 P) (nd (kO P 146) nl nl) nl) (nd (kO P 105) nl nl)) (nd (o_158 P) (nd (kO P 87) nl nl) (nd (kO P 123) nl nl))) (nd (kO P 23) (nd (o_142 P) (nd (kO P 77) nl nl) (nd (o_276 P) nl nl)) (nd (o_174 P) (nd (kO P 94) nl nl) (nd (o_308 P) nl nl))))))))
noncomputable def tr9 : Params → BT := fun P => (nd (W.boot_o_0 P) (nd (W.boot_o_1 P) (nd (kO P 1) (nd (W.boot_o_7 P) (nd (kO P 2) (nd (kO P 9) (nd (kO P 24) (nd (o_177 P) (nd (kO P 135) nl nl) nl) (nd (o_243 P) nl nl)) (nd (o_143 P) (nd (kO P 78) (nd (kO P 158) nl nl) nl) (nd (o_277 P) nl nl))) (nd (o_87 P) (nd (o_125 P) (nd (kO P 65) (nd (o_325 P) nl nl) nl) (nd (kO P 106) nl nl)) (nd (kO P 47) (nd (kO P 88) (nd (kO P 168) nl nl) nl) (nd (kO P 124) nl nl)))) (nd (o_60 P) (nd (kO P 16) (nd (o_117 P) (nd (o_185 P) (nd (kO P 141) nl nl) nl) (nd (kO P 100) nl nl)) (nd (o_151 P) (nd (kO P 82) (nd (kO P 164) nl nl) nl) (nd (kO P 118) nl nl))) (nd (o_98 P) (nd (kO P 35) (nd (kO P 71) (nd (kO P 152) nl nl) nl) (nd (kO P 113) nl nl)) (nd (kO P 53) (nd (kO P 89) nl nl) (nd (kO P 130) nl nl))))) (nd (o_43 P) (nd (o_56 P) (nd (kO P 12) (nd (o_113 P) (nd (o_181 P) (nd (kO P 138) nl nl) nl) (nd (kO P 97) nl nl)) (nd (kO P 39) (nd (o_213 P) (nd (kO P 161) nl nl) nl) (nd (kO P 115) nl nl))) (nd (kO P 20) (nd (kO P 32) (nd (kO P 68) (nd (o_331 P) nl nl) nl) (nd (kO P 109) nl nl)) (nd (kO P 50) (nd (o_231 P) (nd (o_363 P) nl nl) nl) (nd (o_297 P) nl nl)))) (nd (o_64 P) (nd (o_83 P) (nd (kO P 28) (nd (kO P 62) (nd (kO P 144) nl nl) nl) (nd (kO P 103) nl nl)) (nd (o_155 P) (nd (kO P 85) (nd (kO P 166) nl nl) nl) (nd (kO P 121) nl nl))) (nd (o_102 P) (nd (kO P 38) (nd (kO P 74) (nd (kO P 155) nl nl) nl) (nd (o_273 P) nl nl)) (nd (kO P 57) (nd (o_239 P) nl nl) (nd (o_305 P) nl nl)))))) (nd (W.boot_o_5 P) (nd (W.boot_o_9 P) (nd (kO P 3) (nd (o_70 P) (nd (o_108 P) (nd (o_179 P) (nd (o_311 P) nl nl) nl) (nd (kO P 96) nl nl)) (nd (o_145 P) (nd (o_211 P) (nd (o_345 P) nl nl) nl) (nd (kO P 114) nl nl))) (nd (kO P 18) (nd (kO P 31) (nd (o_195 P) (nd (kO P 148) nl nl) nl) (nd (kO P 107) nl nl)) (nd (kO P 49) (nd (o_229 P) (nd (kO P 170) nl nl) nl) (nd (kO P 125) nl nl)))) (nd (o_62 P) (nd (o_78 P) (nd (kO P 26) (nd (kO P 61) (nd (kO P 142) nl nl) nl) (nd (o_253 P) nl nl)) (nd (kO P 43) (nd (kO P 84) (nd (o_353 P) nl nl) nl) (nd (o_287 P) nl nl))) (nd (o_100 P) (nd (o_135 P) (nd (kO P 72) (nd (kO P 154) nl nl) nl) (nd (o_269 P) nl nl)) (nd (kO P 55) (nd (kO P 90) nl nl) (nd (kO P 132) nl nl))))) (nd (o_45 P) (nd (kO P 6) (nd (kO P 14) (nd (o_115 P) (nd (o_183 P) (nd (o_315 P) nl nl) nl) (nd (kO P 99) nl nl)) (nd (kO P 40) (nd (kO P 81) (nd (kO P 162) nl nl) nl) (nd (o_283 P) nl nl))) (nd (o_93 P) (nd (kO P 34) (nd (o_199 P) (nd (kO P 151) nl nl) nl) (nd (kO P 111) nl nl)) (nd (o_165 P) (nd (o_233 P) (nd (kO P 172) nl nl) nl) (nd (kO P 128) nl nl)))) (nd (kO P 8) (nd (o_85 P) (nd (o_123 P) (nd (kO P 64) (nd (kO P 145) nl nl) nl) (nd (o_257 P) nl nl)) (nd (kO P 46) (nd (o_223 P) (nd (o_357 P) nl nl) nl) (nd (kO P 122) nl nl))) (nd (kO P 22) (nd (o_141 P) (nd (kO P 76) (nd (o_341 P) nl nl) nl) (nd (o_275 P) nl nl)) (nd (o_173 P) (nd (kO P 93) nl nl) (nd (kO P 134) nl nl))))))) (nd (kO P 0) (nd (W.boot_o_4 P) (nd (W.boot_o_8 P) (nd (o_53 P) (nd (kO P 10) (nd (o_107 P) (nd (o_178 P) (nd (kO P 136) nl nl) nl) (nd (kO P 95) nl nl)) (nd (o_144 P) (nd (o_210 P) (nd (kO P 159) nl nl) nl) (nd (o_278 P) nl nl))) (nd (o_88 P) (nd (kO P 30) (nd (kO P 66) (nd (kO P 147) nl nl) nl) (nd (o_260 P) nl nl)) (nd (kO P 48) (nd (o_228 P) (nd (kO P 169) nl nl) nl) (nd (o_294 P) nl nl)))) (nd (o_61 P) (nd (o_77 P) (nd (o_118 P) (nd (kO P 60) (nd (o_318 P) nl nl) nl) (nd (kO P 101) nl nl)) (nd (kO P 42) (nd (kO P 83) (nd (o_352 P) nl nl) nl) (nd (kO P 119) nl nl))) (nd (o_99 P) (nd (kO P 36) (nd (o_202 P) (nd (kO P 153) nl nl) nl) (nd (o_268 P) nl nl)) (nd (kO P 54) (nd (o_236 P) nl nl) (nd (kO P 131) nl nl))))) (nd (o_329 P) (nd (kO P 5) (nd (kO P 13) (nd (o_114 P) (nd (o_182 P) (nd (kO P 139) nl nl) nl) (nd (kO P 98) nl nl)) (nd (o_148 P) (nd (kO P 80) (nd (o_348 P) nl nl) nl) (nd (kO P 116) nl nl))) (nd (o_92 P) (nd (kO P 33) (nd (kO P 69) (nd (kO P 150) nl nl) nl) (nd (kO P 110) nl nl)) (nd (kO P 51) (nd (o_232 P) (nd (kO P 171) nl nl) nl) (nd (kO P 127) nl nl)))) (nd (o_65 P) (nd (o_84 P) (nd (o_122 P) (nd (kO P 63) (nd (o_322 P) nl nl) nl) (nd (kO P 104) nl nl)) (nd (kO P 45) (nd (kO P 86) (nd (kO P 167) nl nl) nl) (nd (o_290 P) nl nl))) (nd (o_103 P) (nd (o_140 P) (nd (kO P 75) (nd (kO P 156) nl nl) nl) (nd (o_274 P) nl nl)) (nd (kO P 58) (nd (kO P 92) nl nl) (nd (o_306 P) nl nl)))))) (nd (W.boot_o_6 P) (nd (W.boot_o_10 P) (nd (kO P 4) (nd (kO P 11) (nd (kO P 25) (nd (o_180 P) (nd (kO P 137) nl nl) nl) (nd (o_246 P) nl nl)) (nd (o_146 P) (nd (kO P 79) (nd (kO P 160) nl nl) nl) (nd (o_280 P) nl nl))) (nd (kO P 19) (nd (o_128 P) (nd (kO P 67) (nd (kO P 149) nl nl) nl) (nd (kO P 108) nl nl)) (nd (o_162 P) (nd (o_230 P) (nd (o_362 P) nl nl) nl) (nd (kO P 126) nl nl)))) (nd (o_63 P) (nd (kO P 17) (nd (kO P 27) (nd (o_188 P) (nd (kO P 143) nl nl) nl) (nd (kO P 102) nl nl)) (nd (kO P 44) (nd (o_220 P) (nd (kO P 165) nl nl) nl) (nd (kO P 120) nl nl))) (nd (o_101 P) (nd (kO P 37) (nd (kO P 73) (nd (o_338 P) nl nl) nl) (nd (o_272 P) nl nl)) (nd (kO P 56) (nd (kO P 91) nl nl) (nd (kO P 133) nl nl))))) (nd (o_46 P) (nd (kO P 7) (nd (kO P 15) (nd (o_116 P) (nd (kO P 59) (nd (kO P 140) nl nl) nl) (nd (o_250 P) nl nl)) (nd (kO P 41) (nd (o_216 P) (nd (kO P 163) nl nl) nl) (nd (kO P 117) nl nl))) (nd (kO P 21) (nd (o_132 P) (nd (kO P 70) (nd (o_334 P) nl nl) nl) (nd (kO P 112) nl nl)) (nd (kO P 52) (nd (o_234 P) nl nl) (nd (kO P 129) nl nl)))) (nd (o_67 P) (nd (o_86 P) (nd (kO P 29) (nd (o_192 P) (nd (kO P 146) nl nl) nl) (nd (kO P 105) nl nl)) (nd (o_158 P) (nd (kO P 87) (nd (o_358 P) nl nl) nl) (nd (kO P 123) nl nl))) (nd (kO P 23) (nd (o_142 P) (nd (kO P 77) (nd (kO P 157) nl nl) nl) (nd (o_276 P) nl nl)) (nd (o_174 P) (nd (kO P 94) nl nl) (nd (o_308 P) nl nl))))))))

end hd
end
end Mine
-- HH
namespace Mine
section

noncomputable abbrev pgm : Program := Challenge.rw_ok0140_01.row.toRowW.1
noncomputable def asK : List Addr := [2, 3, 15, 17, 18, 20, 21, 22, 29, 31, 32, 34, 35, 36, 37, 38, 39, 42, 49, 50, 51, 54, 61, 62, 63, 66, 73, 74, 75, 78, 80, 81, 83, 84, 85, 87, 88, 90, 91, 99, 101, 102, 104, 105, 106, 108, 109, 111, 112, 113, 115, 116, 118, 119, 120, 121, 122, 123, 124, 134, 136, 137, 139, 140, 141, 143, 144, 146, 147, 148, 150, 151, 153, 154, 155, 156, 157, 158, 159, 162, 164, 165, 167, 168, 169, 171, 172, 174, 175, 183, 185, 186, 188, 189, 190, 192, 193, 195, 196, 197, 199, 200, 202, 203, 204, 206, 207, 209, 210, 211, 212, 213, 214, 215, 225, 227, 228, 230, 231, 232, 234, 235, 237, 238, 239, 241, 242, 244, 245, 246, 247, 248, 249, 250, 253, 255, 256, 258, 259, 260, 262, 263, 265, 266, 267, 269, 270, 272, 273, 274, 276, 277, 279, 280, 281, 283, 284, 286, 287, 288, 290, 291, 293, 294, 295, 298, 299, 300, 303, 304, 305, 308, 309]
theorem asK_is : ∀ P, asK = (hd.heap_39 P).map (·.1) := fun _ => by kernel_rfl
noncomputable def hookK : Hook := kHook hd.heap_39 asK asK_is
theorem said9 : Challenge.rw_ok0140_01.wellSaid = true := by
  rw [PySem.W.Fast.te9446332074065402090]
  delta PySem.W.Fast.tw9446332074065402090
  repeat' (with_reducible refine look_both ?_ ?_)
  · delta PySem.W.Fast.tw17960256430627541270
    repeat' (with_reducible refine look_both ?_ ?_)
    · delta PySem.W.Fast.tw2436336058641802641
      repeat' (with_reducible refine look_both ?_ ?_)
      · delta PySem.W.Fast.tw12908688711261696721
        repeat' (with_reducible refine look_both ?_ ?_)
        all_goals decide +kernel
      all_goals decide +kernel
    all_goals decide +kernel
  all_goals decide +kernel
noncomputable def envT : Env := { scope := pgm.main.scope, locals := mainNs, globals := mainNs, cells := [], code := .ref 13, frame := some 14 }
noncomputable abbrev bodyT : List Stmt := behindTheImports pgm
noncomputable abbrev cdT : Code := .body bodyT envT
noncomputable def gT (a b : Nat) : List Stmt := (bodyT.drop a).take b
noncomputable abbrev sT (t : Params → BT) (n k : Nat) (w : World) (os : OsState) : SharedT := ⟨t w.params, n, {}, #[], {}, k, os⟩
noncomputable abbrev thT (a b : Nat) (q : Pos) : Thread := piecesOf (gT a b) envT cdT q [topFrame ⟨0, 0, 0, 0⟩]
theorem pre9 (w : World) (os : OsState) : topGo treeTable pgm w 11 (some (Value.ref 6)) 12 ⟨boot_heap w.params, #[], boot_drawn, boot_toks, os⟩ (topStub pgm) = some (⟨hd.heap_I w.params, #[], {}, 187, os⟩, ⟨denote treeTable cdT, cdT, ⟨0, 0, 0, 0⟩, [topFrame ⟨0, 0, 0, 0⟩]⟩) := by
  rw [PySem.W.Fast.te15667345088766844465, PySem.W.Fast.te14364793385576792824, PySem.W.Fast.te11892475500146522536]
  kernel_rfl
theorem blk9 (w : World) (os : OsState) : segRun treeTable pgm w 11 (some (Value.ref 6)) 1 1 ⟨hd.heap_I w.params, #[], {}, 187, os⟩ (blockOf bodyT envT cdT ⟨0, 0, 0, 0⟩ [topFrame ⟨0, 0, 0, 0⟩]) = some (.next, (sT hd.tr0 15 187 w os).abs, cdT, ⟨0, 0, 0, 0⟩) := by
  rw [PySem.W.Fast.te14374325043358763698, PySem.W.Fast.te14364793385576792824]
  kernel_rfl
theorem pc90 (w : World) (os : OsState) : segRunT treeTable pgm w 11 (some (Value.ref 6)) 1 267 (sT hd.tr0 15 187 w os) (thT 0 3 ⟨0, 0, 0, 0⟩) = some (.next, sT hd.tr1 42 225 w os, cdT, ⟨5, 0, 9, 30⟩) := by
  rw [PySem.W.Fast.te10110043849684766642, PySem.W.Fast.te14364793385576792824]
  kernel_rfl
theorem pc91 (w : World) (os : OsState) : segRunT treeTable pgm w 11 (some (Value.ref 6)) 1 214 (sT hd.tr1 42 225 w os) (thT 3 1 ⟨5, 0, 9, 30⟩) = some (.next, sT hd.tr2 54 241 w os, cdT, ⟨10, 0, 11, 8⟩) := by
  rw [PySem.W.Fast.te10110043849684766642, PySem.W.Fast.te14364793385576792824]
  kernel_rfl
theorem pc92 (w : World) (os : OsState) : segRunT treeTable pgm w 11 (some (Value.ref 6)) 1 214 (sT hd.tr2 54 241 w os) (thT 4 1 ⟨10, 0, 11, 8⟩) = some (.next, sT hd.tr3 66 257 w os, cdT, ⟨12, 0, 13, 8⟩) := by
  rw [PySem.W.Fast.te10110043849684766642, PySem.W.Fast.te14364793385576792824]
  kernel_rfl
theorem pc93 (w : World) (os : OsState) : segRunT treeTable pgm w 11 (some (Value.ref 6)) 1 307 (sT hd.tr3 66 257 w os) (thT 5 6 ⟨12, 0, 13, 8⟩) = some (.next, sT hd.tr4 92 301 w os, cdT, ⟨31, 0, 40, 23⟩) := by
  rw [PySem.W.Fast.te10110043849684766642, PySem.W.Fast.te14364793385576792824]
  kernel_rfl
theorem pc94 (w : World) (os : OsState) : segRunT treeTable pgm w 11 (some (Value.ref 6)) 1 310 (sT hd.tr4 92 301 w os) (thT 11 2 ⟨31, 0, 40, 23⟩) = some (.next, sT hd.tr5 127 362 w os, cdT, ⟨67, 0, 67, 8⟩) := by
  rw [PySem.W.Fast.te10110043849684766642, PySem.W.Fast.te14364793385576792824]
  kernel_rfl
theorem pc95 (w : World) (os : OsState) : segRunT treeTable pgm w 11 (some (Value.ref 6)) 1 373 (sT hd.tr5 127 362 w os) (thT 13 5 ⟨67, 0, 67, 8⟩) = some (.next, sT hd.tr6 176 435 w os, cdT, ⟨101, 0, 101, 8⟩) := by
  rw [PySem.W.Fast.te10110043849684766642, PySem.W.Fast.te14364793385576792824]
  kernel_rfl
theorem pc96 (w : World) (os : OsState) : segRunT treeTable pgm w 11 (some (Value.ref 6)) 1 330 (sT hd.tr6 176 435 w os) (thT 18 2 ⟨101, 0, 101, 8⟩) = some (.next, sT hd.tr7 218 492 w os, cdT, ⟨125, 0, 125, 8⟩) := by
  rw [PySem.W.Fast.te10110043849684766642, PySem.W.Fast.te14364793385576792824]
  kernel_rfl
theorem pc97 (w : World) (os : OsState) : segRunT treeTable pgm w 11 (some (Value.ref 6)) 1 400 (sT hd.tr7 218 492 w os) (thT 20 5 ⟨125, 0, 125, 8⟩) = some (.next, sT hd.tr8 274 577 w os, cdT, ⟨157, 0, 158, 49⟩) := by
  rw [PySem.W.Fast.te10110043849684766642, PySem.W.Fast.te14364793385576792824]
  kernel_rfl
theorem pc98 (w : World) (os : OsState) : segRunT treeTable pgm w 11 (some (Value.ref 6)) 1 177 (sT hd.tr8 274 577 w os) (thT 25 6 ⟨157, 0, 158, 49⟩) = some (.next, sT hd.tr9 310 627 w os, cdT, ⟨196, 0, 218, 89⟩) := by
  rw [PySem.W.Fast.te10110043849684766642, PySem.W.Fast.te14364793385576792824]
  kernel_rfl
theorem fin9 (w : World) (os : OsState) : topRun treeTable pgm w 11 (some (Value.ref 6)) 2 (sT hd.tr9 310 627 w os).abs ⟨doneF .next, cdT, ⟨196, 0, 218, 89⟩, [topFrame ⟨0, 0, 0, 0⟩]⟩ = some ⟨hd.heap_F w.params, #[], ⟨0, 0, 0, 0⟩, 627, os⟩ := by
  rw [PySem.W.Fast.te14082659384304107361, PySem.W.Fast.te14364793385576792824]
  kernel_rfl
theorem cut9 : bodyT = gT 0 3 ++ (gT 3 1 ++ (gT 4 1 ++ (gT 5 6 ++ (gT 11 2 ++ (gT 13 5 ++ (gT 18 2 ++ (gT 20 5 ++ (gT 25 6 ++ [])))))))) := by kernel_rfl
theorem blk9' (w : World) (os : OsState) : topRun treeTable pgm w 11 (some (Value.ref 6)) (267 + (214 + (214 + (307 + (310 + (373 + (330 + (400 + (177 + 2))))))))) (sT hd.tr0 15 187 w os).abs (restOf (gT 0 3 ++ (gT 3 1 ++ (gT 4 1 ++ (gT 5 6 ++ (gT 11 2 ++ (gT 13 5 ++ (gT 18 2 ++ (gT 20 5 ++ (gT 25 6 ++ []))))))))) envT cdT ⟨0, 0, 0, 0⟩ [topFrame ⟨0, 0, 0, 0⟩]) = some ⟨hd.heap_F w.params, #[], ⟨0, 0, 0, 0⟩, 627, os⟩ :=
  (piece_app (segRun_of (pc90 w os)) (piece_app (segRun_of (pc91 w os)) (piece_app (segRun_of (pc92 w os)) (piece_app (segRun_of (pc93 w os)) (piece_app (segRun_of (pc94 w os)) (piece_app (segRun_of (pc95 w os)) (piece_app (segRun_of (pc96 w os)) (piece_app (segRun_of (pc97 w os)) (piece_app (segRun_of (pc98 w os)) (piece_nil (fin9 w os)))))))))))
theorem run9 (w : World) (os : OsState) : topRun treeTable pgm w 11 (some (Value.ref 6)) (12 + (1 + (267 + (214 + (214 + (307 + (310 + (373 + (330 + (400 + (177 + 2))))))))))) ⟨boot_heap w.params, #[], boot_drawn, boot_toks, os⟩ (topStub pgm) = some ⟨hd.heap_F w.params, #[], ⟨0, 0, 0, 0⟩, 627, os⟩ := by
  refine go_top (pre9 w os) (piece_block (blk9 w os) ?_)
  have h := blk9' w os
  rw [← cut9] at h
  exact h
theorem size9 (w : World) : ((boot_heap w.params).isNs mainGlobals && (#[] : Array GenState).size == 0, (boot_heap w.params).objs.size, (boot_heap w.params).nsMap mainGlobals "__annotations__") = (true, 11, some (.ref 6)) := by kernel_rfl
theorem opn9 : opening pgm = plainProg pgm.main.scope.names := by kernel_rfl
theorem fnc9 (s : Shared) : fenceModules? pgm s = some s := by kernel_rfl
noncomputable abbrev xt9 : Shared → Bool := fun s => xlAt hd.view_39 [] s && recOk (RowW.records Challenge.rw_ok0140_01.row.toRowW) s
theorem looksA (w : World) (os : OsState) : (staticsOk (importedModules pgm.main.body) (boot_heap w.params) (hd.heap_F w.params) && namesBound pgm (hd.heap_F w.params) && gensDone ⟨hd.heap_F w.params, #[], ⟨0, 0, 0, 0⟩, 627, os⟩ && laidKept (boot_heap w.params) (hd.heap_F w.params)) = true := by kernel_rfl
theorem looksB (w : World) (os : OsState) : openSeen hd.view_39 [] (importedModules pgm.main.body) xt9 true ⟨hd.heap_F w.params, #[], ⟨0, 0, 0, 0⟩, 627, os⟩ = openGood hd.view_39 [] := by kernel_rfl
theorem looksC (w : World) (os : OsState) : Hook.obs (kHook hd.heap_39 asK asK_is) ⟨hd.heap_F w.params, #[], ⟨0, 0, 0, 0⟩, 627, os⟩ = Hook.val (kHook hd.heap_39 asK asK_is) w := by kernel_rfl
theorem looks9 (w : World) : (fun os => ((staticsOk (importedModules pgm.main.body) (boot_heap w.params) (hd.heap_F w.params) && namesBound pgm (hd.heap_F w.params) && gensDone ⟨hd.heap_F w.params, #[], ⟨0, 0, 0, 0⟩, 627, os⟩ && laidKept (boot_heap w.params) (hd.heap_F w.params)),
        openSeen hd.view_39 [] (importedModules pgm.main.body) xt9 true ⟨hd.heap_F w.params, #[], ⟨0, 0, 0, 0⟩, 627, os⟩, Hook.obs (kHook hd.heap_39 asK asK_is) ⟨hd.heap_F w.params, #[], ⟨0, 0, 0, 0⟩, 627, os⟩)) = fun _ => (true, openGood hd.view_39 [], Hook.val (kHook hd.heap_39 asK asK_is) w) := funext fun os => congr (congrArg Prod.mk (looksA w os)) (congr (congrArg Prod.mk (looksB w os)) (looksC w os))
theorem left9 : LeftO pgm hd.view_39 [] xt9 (Hook.obs (kHook hd.heap_39 asK asK_is)) (Hook.val (kHook hd.heap_39 asK asK_is)) 5292 :=
  LeftO.of_pieces (boot_open opn9 rfl fnc9) size9 run9 rfl looks9
theorem ok9 : (chainsOk hd.view_39 && opensWell pgm && (frees Challenge.rw_ok0140_01.row.toRowW && Challenge.rw_ok0140_01.row.toRowW.within.isEmpty)) = true := by decide +kernel
theorem im9 : importsNone hd.view_39 = true := by
  rw [PySem.W.Fast.te2458874890965802552]
  kernel_rfl
theorem nm9 : namesOk hd.view_39 (looseW hd.view_39 []) (namesW hd.view_39 []) = true := by
  rw [PySem.W.Fast.te17448422675489707002]
  kernel_rfl
end
end Mine
-- L1
namespace Mine
section

end
end Mine
local macro_rules | `(tactic| k_all) => `(tactic| assumption)
namespace Mine
section

section take
theorem getD_two0 (x y : Int) : [x, y].getD (Int.toNat 0) 0 = x := rfl
theorem getD_two1 (x y : Int) : [x, y].getD (Int.toNat 1) 0 = y := rfl
theorem mod_bound (z : Int) : 0 ≤ z.fmod 2147483647 ∧ z.fmod 2147483647 < 2147483647 := ⟨fmod_lo _ (by decide), fmod_hi _ (by decide)⟩
theorem mulA {x y k : Int} (h0 : 0 ≤ y) (h1 : y < 2147483647) : PySem.IntMulOk ([x, y].getD (Int.toNat 1) 0) k := PySem.IntMulOk.of_left (PySem.intBits_le_64 (by rw [getD_two1]; omega) (by rw [getD_two1]; omega))
theorem mulB {x z k : Int} : PySem.IntMulOk ([x, z.fmod 2147483647].getD (Int.toNat 1) 0) k := mulA (mod_bound z).1 (mod_bound z).2
local macro_rules | `(tactic| mul_fits) => `(tactic| first | exact mulB | exact mulA (by assumption) (by assumption))
theorem take_core {w : World} {mean : ExcName → Option Value} {mg mb : Str → Option Value} {news : List (Addr × Obj)} {src : Addr} {x y top : Int} {t1 t2 t3 : Tok} {n : Nat}
   {dp un : Nat} {gd : Option (List Code)} {cn : Str} {cs : Scope} {a : Addr} {ccd : Value} {cl : List (Str × Addr)} {outer : List Env} {A₀ : Around} {base h₀ : Heap} {L : Addr} {m : Str → Option Value} {s : Shared} {Q E : Value → Shared → Prop}
    (B : Below A₀ base outer h₀) (F : Fr h₀ L s.heap m) (X : (Mine.hd.heap_39 w.params).In h₀) (N : News h₀ L s.heap ((src, W.listOf #[.int x t1, .int y t2] n) :: news)) (T : Top Mine.hd.view_39 (looseW Mine.hd.view_39 []) mean mg mb h₀)
    (hk : cs.kind = .function) (hne : ∀ p ∈ news, p.1 ≠ src) (hx : 0 ≤ x) (hy : 0 ≤ y) (hy' : y < 2147483647) (ht : 0 < top) (ht' : top < 100)
    (hdp : dp + 1 < recursionLimit) (hun : un + 8 < cLine)
    (hret : ∀ (r x' y' : Int) (t t1 t2 : Tok) (h' : Heap) (tk' : Nat), Fr h₀ L h' m → News h₀ L h' ((src, W.listOf #[.int x' t1, .int y' t2] n) :: news) → 0 ≤ r → r < top → 0 ≤ x' → 0 ≤ y' → y' < 2147483647 → Q (.int r t) { s with heap := h', toks := tk' }) :
      wpAny (model Challenge.rw_ok0140_01.row.prog w) (ktrTop dp un gd cn cs L a ccd cl outer) (call (.ref 266) [.ref src, .int top t3]) Q E s := by
  k_with_none
  k_with "my lt" => first | assumption | exact And.left (by assumption) | exact And.left (And.right (by assumption)) | exact And.right (by assumption) | exact And.left (And.right (And.right (by assumption))) | exact And.right (And.right (by assumption)) | exact And.left (And.right (And.right (And.right (by assumption)))) | exact And.right (And.right (And.right (by assumption))) | exact And.left (And.right (And.right (And.right (And.right (by assumption))))) | exact And.right (And.right (And.right (And.right (by assumption)))) | exact And.left (And.right (And.right (And.right (And.right (And.right (by assumption)))))) | exact And.right (And.right (And.right (And.right (And.right (by assumption))))) | exact And.left (And.right (And.right (And.right (And.right (And.right (And.right (by assumption))))))) | exact And.right (And.right (And.right (And.right (And.right (And.right (by assumption)))))) | exact And.left (And.right (And.right (And.right (And.right (And.right (And.right (And.right (by assumption)))))))) | exact And.right (And.right (And.right (And.right (And.right (And.right (And.right (by assumption))))))) | exact And.left (And.right (And.right (And.right (And.right (And.right (And.right (And.right (And.right (by assumption))))))))) | exact And.right (And.right (And.right (And.right (And.right (And.right (And.right (And.right (by assumption)))))))) | fail
  k_with "my kne" => first | assumption | (refine Ne.symm ?_; assumption) | (refine neN ?_; (try dsimp only); first | (refine Nat.ne_of_lt ?_; k_extra "my lt") | (refine Nat.ne_of_gt ?_; k_extra "my lt") | omega) | fail
  k_with "my room" => first | exact upR 0 (by assumption) rfl | exact upR 1 (by assumption) rfl | exact upR 2 (by assumption) rfl | exact upR 3 (by assumption) rfl | exact upR 4 (by assumption) rfl | exact upR 5 (by assumption) rfl | exact upR 6 (by assumption) rfl | exact upR 7 (by assumption) rfl | exact upR 8 (by assumption) rfl | fail
  k_with "my units" => first | exact upR 0 (by assumption) rfl | exact upR 1 (by assumption) rfl | exact upR 2 (by assumption) rfl | exact upR 3 (by assumption) rfl | exact upR 4 (by assumption) rfl | exact upR 5 (by assumption) rfl | exact upR 6 (by assumption) rfl | exact upR 7 (by assumption) rfl | exact upR 8 (by assumption) rfl | exact upR 9 (by assumption) rfl | exact upR 10 (by assumption) rfl | exact upR 11 (by assumption) rfl | exact upR 12 (by assumption) rfl | fail
  k_with "my sub" => first | exact List.forall_mem_nil _ | assumption | exact List.forall_mem_cons.mpr ⟨(by k_mem), (by k_extra "my sub")⟩ | (intro p9 hp9; repeat (first | exact hp9 | refine List.Mem.tail _ ?_))
  k_with "my ne" => first | exact List.forall_mem_nil _ | assumption | exact List.forall_mem_cons.mpr ⟨(by first | assumption | k_ne), (by k_extra "my ne")⟩
  k_with "my subA" => (intro p9 hp9; repeat' (first | exact hp9 | exact List.mem_append_left _ hp9 | exact List.mem_append_right _ hp9 | refine List.Mem.tail _ ?_))
  k_with "my memB" => first | assumption | exact List.Mem.head _ | (refine List.Mem.tail _ ?_; k_extra "my memB") | (refine List.mem_append_left _ ?_; k_extra "my memB") | (refine List.mem_append_right _ ?_; k_extra "my memB")
  k_with "my leafB" => first | assumption | (refine List.Mem.tail _ ?_; k_extra "my leafB") | (refine List.mem_append_left _ ?_; k_extra "my leafB") | (refine List.mem_append_right _ ?_; k_extra "my leafB")
  k_with "my subB" => first | exact List.forall_mem_nil _ | exact List.forall_mem_cons.mpr ⟨(by k_extra "my memB"), (by k_extra "my subB")⟩ | exact List.forall_mem_append.mpr ⟨(by k_extra "my subB"), (by k_extra "my subB")⟩ | (intro p9 hp9; k_extra "my leafB")
  refine wpAny_call ?_
  k_dflt cell_enter
  k_steps
  · refine hret _ _ _ _ _ _ _ _ (by assumption) (by assumption) (fmod_lo _ ht) (fmod_hi _ ht) ?_ hy hy'
    rw [getD_two0]
    exact Int.fdiv_nonneg hx (Int.le_of_lt ht)
  · exact hret _ _ _ _ _ _ _ _ (by assumption) (by assumption) (fmod_lo _ ht) (fmod_hi _ ht) hx (mod_bound _).1 (mod_bound _).2
theorem take_c {w : World} {mean : ExcName → Option Value} {mg mb : Str → Option Value} {news : List (Addr × Obj)} {g : Obj → List (Addr × Obj)} {src : Addr} {os : Obj} {top : Int} {t3 : Tok}
   {dp un : Nat} {gd : Option (List Code)} {cn : Str} {cs : Scope} {a : Addr} {ccd : Value} {cl : List (Str × Addr)} {outer : List Env} {A₀ : Around} {base h₀ : Heap} {L : Addr} {m : Str → Option Value} {s : Shared} {Q E : Value → Shared → Prop}
    (B : Below A₀ base outer h₀) (F : Fr h₀ L s.heap m) (X : (Mine.hd.heap_39 w.params).In h₀) (N : News h₀ L s.heap news) (T : Top Mine.hd.view_39 (looseW Mine.hd.view_39 []) mean mg mb h₀)
    (hk : cs.kind = .function) (U : UpdF src os news g) (hs : IsSrc os) (ht : 0 < top) (ht' : top < 100) (hdp : dp + 1 < recursionLimit) (hun : un + 8 < cLine)
    (hret : ∀ (r : Int) (o' : Obj) (t : Tok) (h' : Heap) (tk' : Nat), Fr h₀ L h' m → News h₀ L h' (g o') → IsSrc o' → 0 ≤ r → r < top → Q (.int r t) { s with heap := h', toks := tk' }) :
      wpAny (model Challenge.rw_ok0140_01.row.prog w) (ktrTop dp un gd cn cs L a ccd cl outer) (call (.ref 266) [.ref src, .int top t3]) Q E s := by
  obtain ⟨pre, post, rfl, hg, ha, hb⟩ := U.split
  obtain ⟨x, y, t1, t2, n, rfl, hx, hy, hy'⟩ := hs
  refine take_core B F X (news_front N) T hk (fun p hp => (List.mem_append.mp hp).elim (ha p) (hb p)) hx hy hy' ht ht' hdp hun ?_
  intro r x' y' t t1 t2 h' tk' F' N' h0 h1 h2 h3 h4
  refine hret r _ t h' tk' F' ?_ ⟨x', y', t1, t2, n, rfl, h2, h3, h4⟩ h0 h1
  rw [hg]
  exact news_back N'
end take
end
end Mine
-- L2
namespace Mine
section

theorem len_any {prog : Program} {w : World} {A : Around} {E : Value → Shared → Prop} {s : Shared} {l : Addr} {vs : List Value} {Q : Value → Shared → Prop} (hl : s.heap.IsList l vs.toArray) (hfit : vs.length < 2 ^ 62)
    (h : Q (.int (vs.length : Nat) (s.toks + 1)) { s with toks := s.toks + 1 + 1 }) : wpAny (model prog w) A (call (.builtin "len") [.ref l]) Q E s := by
  have e : vs.toArray.size = vs.length := by simp
  refine Calls.call_len_list hl (by omega) ?_
  rw [e]
  exact h
theorem item_any {prog : Program} {w : World} {A : Around} {E : Value → Shared → Prop} {s : Shared} {l : Addr} {vs : List Value} {value slice : Expr} {k : Int} {u : Tok} {Q : Value → Shared → Prop} (hl : s.heap.IsList l vs.toArray)
    (h0 : 0 ≤ k) (hk : k < (vs.length : Int)) (hfit : vs.length < 2 ^ 62) (h : ∀ v, vs[k.toNat]? = some v → v ∈ vs → Q v s)
    (hs : subscripted slice false (.ref l) (.int k u) = operate [.ref l, .int k u] (getItem (.ref l) (.int k u)) := by with_unfolding_all rfl) :
    wpAny (model prog w) A (subscriptTail value slice (.ref l) (.int k u)) Q E s := by
  obtain ⟨v, hv⟩ : ∃ v, vs[k.toNat]? = some v := ⟨vs[k.toNat]'(by omega), List.getElem?_eq_getElem (by omega)⟩
  exact tail_any hl.typeIs slot_list_getitem.lookup (wpAny_getItem_list hl h0 (by omega) (by simpa using hv) (h v hv (List.mem_of_getElem? hv))) hs
end
end Mine
local macro_rules | `(tactic| walk_at "my t1") => `(tactic| (intro r9 o9 t9 h9 tk9 F9 N9 S9 r0 r1; (try dsimp only at N9); (try dsimp only); (try k_fold)))
local macro_rules | `(tactic| walk_at "my t2") => `(tactic| (intro v9 hv9 mv9))
namespace Mine
section

section one
theorem one_core {w : World} {mean : ExcName → Option Value} {mg mb : Str → Option Value} {news : List (Addr × Obj)} {src th : Addr} {os : Obj} {vs : List Value} {nn : Nat}
   {dp un : Nat} {gd : Option (List Code)} {cn : Str} {cs : Scope} {a : Addr} {ccd : Value} {cl : List (Str × Addr)} {outer : List Env} {A₀ : Around} {base h₀ : Heap} {L : Addr} {m : Str → Option Value} {s : Shared} {Q E : Value → Shared → Prop}
    (B : Below A₀ base outer h₀) (F : Fr h₀ L s.heap m) (X : (Mine.hd.heap_39 w.params).In h₀) (N : News h₀ L s.heap ((src, os) :: (th, W.listOf vs.toArray nn) :: news)) (T : Top Mine.hd.view_39 (looseW Mine.hd.view_39 []) mean mg mb h₀)
    (hk : cs.kind = .function) (hne : ∀ p ∈ news, p.1 ≠ src) (hth : th ≠ src) (hs : IsSrc os) (hv0 : 0 < vs.length) (hv1 : vs.length < 100)
    (hdp : dp + 2 < recursionLimit) (hun : un + 16 < cLine)
    (hret : ∀ (v : Value) (o' : Obj) (h' : Heap) (tk' : Nat), v ∈ vs → Fr h₀ L h' m → News h₀ L h' ((src, o') :: (th, W.listOf vs.toArray nn) :: news) → IsSrc o' → Q v { s with heap := h', toks := tk' }) :
      wpAny (model Challenge.rw_ok0140_01.row.prog w) (ktrTop dp un gd cn cs L a ccd cl outer) (call (.ref 273) [.ref src, .ref th]) Q E s := by
  k_with_none
  k_with "my lt" => first | assumption | exact And.left (by assumption) | exact And.left (And.right (by assumption)) | exact And.right (by assumption) | exact And.left (And.right (And.right (by assumption))) | exact And.right (And.right (by assumption)) | exact And.left (And.right (And.right (And.right (by assumption)))) | exact And.right (And.right (And.right (by assumption))) | exact And.left (And.right (And.right (And.right (And.right (by assumption))))) | exact And.right (And.right (And.right (And.right (by assumption)))) | exact And.left (And.right (And.right (And.right (And.right (And.right (by assumption)))))) | exact And.right (And.right (And.right (And.right (And.right (by assumption))))) | exact And.left (And.right (And.right (And.right (And.right (And.right (And.right (by assumption))))))) | exact And.right (And.right (And.right (And.right (And.right (And.right (by assumption)))))) | exact And.left (And.right (And.right (And.right (And.right (And.right (And.right (And.right (by assumption)))))))) | exact And.right (And.right (And.right (And.right (And.right (And.right (And.right (by assumption))))))) | exact And.left (And.right (And.right (And.right (And.right (And.right (And.right (And.right (And.right (by assumption))))))))) | exact And.right (And.right (And.right (And.right (And.right (And.right (And.right (And.right (by assumption)))))))) | fail
  k_with "my kne" => first | assumption | (refine Ne.symm ?_; assumption) | (refine neN ?_; (try dsimp only); first | (refine Nat.ne_of_lt ?_; k_extra "my lt") | (refine Nat.ne_of_gt ?_; k_extra "my lt") | omega) | fail
  k_with "my room" => first | exact upR 0 (by assumption) rfl | exact upR 1 (by assumption) rfl | exact upR 2 (by assumption) rfl | exact upR 3 (by assumption) rfl | exact upR 4 (by assumption) rfl | exact upR 5 (by assumption) rfl | exact upR 6 (by assumption) rfl | exact upR 7 (by assumption) rfl | exact upR 8 (by assumption) rfl | fail
  k_with "my units" => first | exact upR 0 (by assumption) rfl | exact upR 1 (by assumption) rfl | exact upR 2 (by assumption) rfl | exact upR 3 (by assumption) rfl | exact upR 4 (by assumption) rfl | exact upR 5 (by assumption) rfl | exact upR 6 (by assumption) rfl | exact upR 7 (by assumption) rfl | exact upR 8 (by assumption) rfl | exact upR 9 (by assumption) rfl | exact upR 10 (by assumption) rfl | exact upR 11 (by assumption) rfl | exact upR 12 (by assumption) rfl | fail
  k_with "my sub" => first | exact List.forall_mem_nil _ | assumption | exact List.forall_mem_cons.mpr ⟨(by k_mem), (by k_extra "my sub")⟩ | (intro p9 hp9; repeat (first | exact hp9 | refine List.Mem.tail _ ?_))
  k_with "my ne" => first | exact List.forall_mem_nil _ | assumption | exact List.forall_mem_cons.mpr ⟨(by first | assumption | k_ne), (by k_extra "my ne")⟩
  k_with "my subA" => (intro p9 hp9; repeat' (first | exact hp9 | exact List.mem_append_left _ hp9 | exact List.mem_append_right _ hp9 | refine List.Mem.tail _ ?_))
  k_with "my memB" => first | assumption | exact List.Mem.head _ | (refine List.Mem.tail _ ?_; k_extra "my memB") | (refine List.mem_append_left _ ?_; k_extra "my memB") | (refine List.mem_append_right _ ?_; k_extra "my memB")
  k_with "my leafB" => first | assumption | (refine List.Mem.tail _ ?_; k_extra "my leafB") | (refine List.mem_append_left _ ?_; k_extra "my leafB") | (refine List.mem_append_right _ ?_; k_extra "my leafB")
  k_with "my subB" => first | exact List.forall_mem_nil _ | exact List.forall_mem_cons.mpr ⟨(by k_extra "my memB"), (by k_extra "my subB")⟩ | exact List.forall_mem_append.mpr ⟨(by k_extra "my subB"), (by k_extra "my subB")⟩ | (intro p9 hp9; k_extra "my leafB")
  k_with "call ref" => (k_here; k_dflt (refine' take_c (by k_asm) (by k_asm) (by k_asm) (by k_asm) (by k_asm) (by first | exact rfl | assumption) (by k_updF) (by assumption) (by first | decide | omega) (by first | decide | omega) (by ktr_room) (by ktr_units) ?_); walk_at "my t1")
  k_with "call builtin:len" => (k_here; k_dflt (refine' len_any (by is_list) (by omega) ?_; k_whole))
  k_with "subscriptTail" => (k_here; (with_reducible show wpAny _ _ (subscriptTail _ _ (Value.ref _) (Value.int _ _)) _ _ _); (with_unfolding_all refine' item_any (by is_list) (by omega) (by omega) (by omega) ?_); walk_at "my t2")
  k_with "my omega" => ((fail_if_success (fail_if_success omega (config := {}))); lia)
  refine wpAny_call ?_
  k_dflt cell_enter
  have hne2 : ∀ p ∈ (th, W.listOf vs.toArray nn) :: news, p.1 ≠ src := List.forall_mem_cons.mpr ⟨hth, hne⟩
  k_steps
  exact hret _ _ _ _ (by assumption) (by assumption) (by assumption) (by assumption)
end one
theorem one_c {w : World} {mean : ExcName → Option Value} {mg mb : Str → Option Value} {news : List (Addr × Obj)} {g : Obj → List (Addr × Obj)} {src th : Addr} {os : Obj} {vs : List Value} {nn : Nat}
   {dp un : Nat} {gd : Option (List Code)} {cn : Str} {cs : Scope} {a : Addr} {ccd : Value} {cl : List (Str × Addr)} {outer : List Env} {A₀ : Around} {base h₀ : Heap} {L : Addr} {m : Str → Option Value} {s : Shared} {Q E : Value → Shared → Prop}
    (B : Below A₀ base outer h₀) (F : Fr h₀ L s.heap m) (X : (Mine.hd.heap_39 w.params).In h₀) (N : News h₀ L s.heap news) (T : Top Mine.hd.view_39 (looseW Mine.hd.view_39 []) mean mg mb h₀)
    (hk : cs.kind = .function) (U : UpdF src os news g) (hm : (th, W.listOf vs.toArray nn) ∈ news) (hth : th ≠ src) (hs : IsSrc os) (hv0 : 0 < vs.length) (hv1 : vs.length < 100)
    (hdp : dp + 2 < recursionLimit) (hun : un + 16 < cLine)
    (hret : ∀ (v : Value) (o' : Obj) (h' : Heap) (tk' : Nat), v ∈ vs → Fr h₀ L h' m → News h₀ L h' (g o') → IsSrc o' → Q v { s with heap := h', toks := tk' }) :
      wpAny (model Challenge.rw_ok0140_01.row.prog w) (ktrTop dp un gd cn cs L a ccd cl outer) (call (.ref 273) [.ref src, .ref th]) Q E s := by
  obtain ⟨pre, post, rfl, hg, ha, hb⟩ := U.split
  have N1 := news_front N
  have N2 : News h₀ L s.heap ((src, os) :: (th, W.listOf vs.toArray nn) :: (pre ++ post)) := fun p hp => by
    rcases List.mem_cons.mp hp with rfl | hp
    · exact N1 _ (.head _)
    rcases List.mem_cons.mp hp with rfl | hp
    · exact N _ hm
    · exact N1 _ (.tail _ hp)
  refine one_core B F X N2 T hk (fun p hp => (List.mem_append.mp hp).elim (ha p) (hb p)) hth hs hv0 hv1 hdp hun ?_
  intro v o' h' tk' hv F' N' S'
  refine hret v o' h' tk' hv F' ?_ S'
  rw [hg]
  refine news_back fun p hp => N' p ?_
  rcases List.mem_cons.mp hp with rfl | hp
  · exact .head _
  · exact .tail _ (.tail _ hp)
end
end Mine
-- LB2
namespace Mine
section

theorem lia_LB2 : True := by
  k_with_none
  k_with "my omega" => ((fail_if_success (fail_if_success omega (config := {}))); lia)
  trivial
/-- the walk halts here -/
noncomputable def Halt (p : Prop) : Prop := p
theorem halt {p : Prop} (h : Halt p) : p := h
theorem Halt.go {p : Prop} (h : p) : Halt p := h

/-- what a turn hands on: the iterator I stands as it was; all else is J's -/
noncomputable def TurnEnd (h₀ : Heap) (L I : Addr) (io : Obj) (J : (Str → Option Value) → List (Addr × Obj) → Prop) (s₁ s₂ : Shared) : Prop :=
  ∃ h' tk m' nx, s₂ = { s₁ with heap := h', toks := tk } ∧ Fr h₀ L h' m' ∧ News h₀ L h' ((I, io) :: nx) ∧ (∀ p ∈ nx, p.1 ≠ I) ∧ J m' nx
noncomputable def TurnPost (h₀ : Heap) (L I : Addr) (io : Obj) (J : (Str → Option Value) → List (Addr × Obj) → Prop) (s₁ : Shared) (Q : Flow → Shared → Prop) (f : Flow) (s₂ : Shared) : Prop :=
  match f with
  | .ret v => Q (.ret v) s₂
  | .brk => Q .next s₂
  | _ => TurnEnd h₀ L I io J s₁ s₂
theorem TurnPost.next {h₀ : Heap} {L I : Addr} {io : Obj} {J : (Str → Option Value) → List (Addr × Obj) → Prop} {s₁ : Shared} {Q : Flow → Shared → Prop} {h' : Heap} {tk : Nat} {m' : Str → Option Value} {nx : List (Addr × Obj)}
    (F : Fr h₀ L h' m') (N : News h₀ L h' ((I, io) :: nx)) (hI : ∀ p ∈ nx, p.1 ≠ I) (hj : J m' nx) : TurnPost h₀ L I io J s₁ Q .next { s₁ with heap := h', toks := tk } := ⟨h', tk, m', nx, rfl, F, N, hI, hj⟩

section
variable {prog : Program} {w : World} {A : Around} {E : Value → Shared → Prop} {s : Shared} {env : Env} {h₀ : Heap} {x : Str} {body : List Stmt} {Q : Flow → Shared → Prop}

theorem loop_J {I : Addr} {fp : List Addr} {n : Nat} {P : Nat → Value → Prop} {St : Nat → Heap → Prop} {m₀ : Str → Option Value} {news : List (Addr × Obj)} (ob : Addr → Obj) (J : Nat → (Str → Option Value) → List (Addr × Obj) → Prop)
    (W : Walks prog w A I fp [I] n P St) (hIf : I ∈ fp) (hLf : env.locals ∉ fp) (hI0 : h₀.get? I = none) (hst : St 0 s.heap) (F : Fr h₀ env.locals s.heap m₀) (N : News h₀ env.locals s.heap news) (hnI : ∀ p ∈ news, p.1 ≠ I) (hj : J 0 m₀ news)
    (hio : ∀ i h, St i h → ∃ o, h.get? I = some o)
    (hown : ∀ i m nx, J i m nx → ∀ b ∈ fp, b ≠ I → h₀.get? b = none → (b, ob b) ∈ nx)
    (turn : ∀ i v m₁ nx io h tk, i < n → P i v → J i m₁ nx → (∀ p ∈ nx, p.1 ≠ I) → Fr h₀ env.locals h (fun y => if y = x then some v else m₁ y) → News h₀ env.locals h ((I, io) :: nx) →
      wpAny (model prog w) A (execs body env) (TurnPost h₀ env.locals I io (J (i + 1)) { s with heap := h, toks := tk } Q) E { s with heap := h, toks := tk })
    (done : ∀ m₁ nx h tk, J n m₁ nx → Fr h₀ env.locals h m₁ → News h₀ env.locals h nx → Q .next { s with heap := h, toks := tk }) :
    LoopAtV prog w A h₀ env x body Q E (.ref I) s := by
  refine ⟨I, fp, [I], n, P, St, m₀, news, J, rfl, W, hLf, fun b hb => (List.mem_singleton.mp hb) ▸ hI0, fun p hp hm => hnI p hp (List.mem_singleton.mp hm), hst, F, N, hj, ?_, fun h' tk m' news' F' N' _ hJ => done m' news' h' tk hJ F' N'⟩
  rintro i v m₁ nx s₁ own ⟨h, tk, rfl⟩ hi hP hJ hnw hfp hat hall hst' F' N'
  obtain ⟨io, hio'⟩ := hio _ _ hst'
  have hin : (I, io) ∈ own := hall I hIf hI0 io hio'
  have N1 : News h₀ env.locals h ((I, io) :: nx) := fun p hp => by
    rcases List.mem_cons.mp hp with rfl | hp
    · exact N' _ (List.mem_append_left _ hin)
    · exact N' _ (List.mem_append_right _ hp)
  have hnx : ∀ p ∈ nx, p.1 ≠ I := fun p hp e => hnw p hp (List.mem_singleton.mpr e)
  refine wpAny_mono (turn i v m₁ nx io h tk hi hP hJ hnx F' N1) (fun f s₂ p => ?_) fun _ _ e => e
  have fin : TurnEnd h₀ env.locals I io (J (i + 1)) { s with heap := h, toks := tk } s₂ → LoopStepU h₀ env.locals [I] own (J (i + 1)) { s with heap := h, toks := tk } .next s₂ := by
    rintro ⟨h', tk', m', nx', e, F₂, N₂, hI₂, hJ₂⟩
    refine ⟨rfl, h', tk', m', nx', e, F₂, fun p hp => ?_, fun p hp hm => hI₂ p hp (List.mem_singleton.mp hm), hJ₂⟩
    rcases List.mem_append.mp hp with hp | hp
    · have hz := N' p (List.mem_append_left _ hp)
      by_cases hb : p.1 = I
      · have e2 : p = (I, io) := by
          obtain ⟨b, o⟩ := p
          dsimp only at hb
          subst hb
          have := hz.1
          dsimp only at this
          rw [hio'] at this
          cases this
          rfl
        rw [e2]
        exact N₂ _ (.head _)
      · have h1 := hown i m₁ nx hJ p.1 (hfp p hp) hb hz.2.2
        have h2 := hown (i + 1) m' nx' hJ₂ p.1 (hfp p hp) hb hz.2.2
        have e1 : p.2 = ob p.1 := by
          have := (N' _ (List.mem_append_right _ h1)).1
          rw [hz.1] at this
          exact Option.some.inj this
        have e2 : p = (p.1, ob p.1) := by rw [← e1]
        rw [e2]
        exact N₂ _ (.tail _ h2)
    · exact N₂ _ (.tail _ hp)
  cases f with
  | ret v => exact .ret p
  | brk => exact .brk p
  | next => exact .next (fin p)
  | cont => exact .cont (fin p)

theorem range_J {r : Addr} {a₀ b₀ : Int} {t₀ u₀ v₀ : Tok} {n : Nat} {m₀ : Str → Option Value} {news : List (Addr × Obj)} (J : Nat → (Str → Option Value) → List (Addr × Obj) → Prop)
    (hh : A.handled = none) (hr : IsRange s.heap r a₀ b₀ 1 t₀ u₀ v₀) (hsmall : Builtin.Range.small a₀ b₀ 1 = true) (hn : Builtin.Range.rangeSize a₀ b₀ 1 = (n : Int)) (F : Fr h₀ env.locals s.heap m₀) (N : News h₀ env.locals s.heap news) (hj : J 0 m₀ news)
    (turn : ∀ i t m₁ nx I io h tk, i < n → J i m₁ nx → (∀ p ∈ nx, p.1 ≠ I) → Fr h₀ env.locals h (fun y => if y = x then some (.int (a₀ + (i : Int)) t) else m₁ y) → News h₀ env.locals h ((I, io) :: nx) →
      wpAny (model prog w) A (execs body env) (TurnPost h₀ env.locals I io (J (i + 1)) { s with heap := h, toks := tk } Q) E { s with heap := h, toks := tk })
    (done : ∀ m₁ nx h tk, J n m₁ nx → Fr h₀ env.locals h m₁ → News h₀ env.locals h nx → Q .next { s with heap := h, toks := tk }) :
    wpAny (model prog w) A (pyIter (.ref r)) (fun it s₂ => LoopAtV prog w A h₀ env x body Q E it s₂) E s := by
  refine wpAny_pyIter_range hr hsmall ?_
  have W : Walks prog w A s.heap.objs.size [s.heap.objs.size] [s.heap.objs.size] n (fun i v => i < n ∧ ∃ t, v = .int (a₀ + i * 1) t)
      (fun i h => IsRangeIter h s.heap.objs.size (a₀ + (i : Nat) * 1) ((n : Int) - (i : Nat)) 1) := (Walks.range hh _ a₀ 1 n).bound
  refine loop_J (fun _ => default) J W (by simp) ?_ (next_is_new F) (by show IsRangeIter _ _ _ _ _; rw [hn]; simpa using Heap.get?_push_size _ rfl) (F.push _) (fun p hp => ⟨Heap.get?_push_of_some _ (N p hp).1, (N p hp).2⟩) ?_ hj (fun i h st => ⟨_, st⟩) (fun _ _ _ _ b hb hn => absurd (List.mem_singleton.mp hb) hn) ?_ done
  · intro hm
    exact absurd F.ns.lt ((List.mem_singleton.mp hm) ▸ Nat.lt_irrefl _)
  · intro p hp hI
    exact absurd (Heap.lt_size (N p hp).1) (hI ▸ Nat.lt_irrefl _)
  · rintro i v m₁ nx io h tk hi ⟨_, t, rfl⟩ hJ hnx F₁ N₁
    have e1 : a₀ + (i : Int) * 1 = a₀ + (i : Int) := by omega
    rw [e1] at F₁
    exact turn i t m₁ nx _ io h tk hi hJ hnx F₁ N₁

/-- the frame as the loops keep it: names of known values, names that may be stored, the rest as ahead of the loop -/
noncomputable def FrIs (ps : List (Str × Value)) (stored : List Str) (m₀ m : Str → Option Value) : Prop := (∀ p ∈ ps, m p.1 = some p.2) ∧ ∀ z, stored.contains z = false → m z = m₀ z
noncomputable def mkFr (ps : List (Str × Value)) (stored : List Str) (u m₀ : Str → Option Value) : Str → Option Value := kstB (fun z => if stored.contains z then u z else m₀ z) ps
theorem FrIs.eq {ps : List (Str × Value)} {stored : List Str} {m₀ m : Str → Option Value} (h : FrIs ps stored m₀ m) : mkFr ps stored m m₀ = m := by
  funext z
  refine kstB_eq h.1 fun _ => ?_
  show (if stored.contains z = true then m z else m₀ z) = m z
  cases h3 : stored.contains z with
  | true => simp
  | false => simp only [Bool.false_eq_true, if_false]; exact (h.2 z h3).symm
theorem off_if {z y : Str} {a b c : Option Value} (h : z ≠ y) (k : b = c) : (if z = y then a else b) = c := by rw [if_neg h]; exact k
theorem ne_of_stored {stored : List Str} {z y : Str} (hz : stored.contains z = false) (hy : stored.contains y = true) : z ≠ y := fun e => by rw [e, hy] at hz; cases hz
theorem kstB_rest {rest : Str → Option Value} {z : Str} : ∀ {ps : List (Str × Value)}, (∀ p ∈ ps, z ≠ p.1) → kstB rest ps z = rest z
  | [], _ => rfl
  | p :: r, h => by
    show (if z = p.1 then some p.2 else kstB rest r z) = rest z
    rw [if_neg (h p (.head _))]
    exact kstB_rest fun q hq => h q (.tail _ hq)
theorem mkFr_off {ps : List (Str × Value)} {st stored : List Str} {u m₀ : Str → Option Value} {z : Str} {c : Option Value} (hz : stored.contains z = false) (h1 : ps.all (fun p => stored.contains p.1) = true) (h2 : st.all (fun y => stored.contains y) = true) (k : m₀ z = c) : mkFr ps st u m₀ z = c := by
  unfold mkFr
  rw [kstB_rest fun p hp => ne_of_stored hz (List.all_eq_true.mp h1 p hp)]
  have : st.contains z = false := by
    cases q : st.contains z with
    | false => rfl
    | true => rw [List.all_eq_true.mp h2 z (List.contains_iff_mem.mp q)] at hz; cases hz
  show (if st.contains z = true then u z else m₀ z) = _
  rw [this]
  simpa using k

theorem range_S {σ : Type} {r : Addr} {a₀ b₀ : Int} {t₀ u₀ v₀ : Tok} {n : Nat} {m₀ : Str → Option Value} (Led : Nat → σ → List (Addr × Obj)) (ps : Nat → σ → List (Str × Value)) (Facts : Nat → σ → Prop) (stored : List Str) (c₀ : σ)
    (hh : A.handled = none) (hr : IsRange s.heap r a₀ b₀ 1 t₀ u₀ v₀) (hsmall : Builtin.Range.small a₀ b₀ 1 = true) (hn : Builtin.Range.rangeSize a₀ b₀ 1 = (n : Int)) (F : Fr h₀ env.locals s.heap m₀) (N : News h₀ env.locals s.heap (Led 0 c₀)) (hf : Facts 0 c₀) (hk : ∀ p ∈ ps 0 c₀, m₀ p.1 = some p.2)
    (turn : ∀ i c t u I io h tk, i < n → Facts i c → (∀ p ∈ Led i c, p.1 ≠ I) → Fr h₀ env.locals h (fun y => if y = x then some (.int (a₀ + (i : Int)) t) else mkFr (ps i c) stored u m₀ y) → News h₀ env.locals h ((I, io) :: Led i c) →
      wpAny (model prog w) A (execs body env) (TurnPost h₀ env.locals I io (fun m nx => ∃ c', nx = Led (i + 1) c' ∧ Facts (i + 1) c' ∧ FrIs (ps (i + 1) c') stored m₀ m) { s with heap := h, toks := tk } Q) E { s with heap := h, toks := tk })
    (done : ∀ c u h tk, Facts n c → Fr h₀ env.locals h (mkFr (ps n c) stored u m₀) → News h₀ env.locals h (Led n c) → Q .next { s with heap := h, toks := tk }) :
    wpAny (model prog w) A (pyIter (.ref r)) (fun it s₂ => LoopAtV prog w A h₀ env x body Q E it s₂) E s := by
  refine range_J (fun i m nx => ∃ c', nx = Led i c' ∧ Facts i c' ∧ FrIs (ps i c') stored m₀ m) hh hr hsmall hn F N ⟨c₀, rfl, hf, hk, fun _ _ => rfl⟩ ?_ ?_
  · rintro i t m₁ nx I io h tk hi ⟨c, rfl, hf', hfr⟩ hI F₁ N₁
    refine turn i c t m₁ I io h tk hi hf' hI ?_ N₁
    rw [hfr.eq]
    exact F₁
  · rintro m₁ nx h tk ⟨c, rfl, hf', hfr⟩ F₁ N₁
    refine done c m₁ h tk hf' ?_ N₁
    rw [hfr.eq]
    exact F₁
end
end
end Mine
-- LB3
namespace Mine
section

theorem lia_LB3 : True := by
  k_with_none
  k_with "my omega" => ((fail_if_success (fail_if_success omega (config := {}))); lia)
  trivial
section
variable {prog : Program} {w : World} {A : Around} {E : Value → Shared → Prop} {s : Shared} {env : Env} {h₀ : Heap} {x : Str} {body : List Stmt} {Q : Flow → Shared → Prop}
theorem bytes_S {σ : Type} {b : Array UInt8} {tb : Tok} {ks : List Int} {m₀ : Str → Option Value} (Led : Nat → σ → List (Addr × Obj)) (ps : Nat → σ → List (Str × Value)) (Facts : Nat → σ → Prop) (stored : List Str) (c₀ : σ)
    (hb : KBw.bInts b = ks) (hh : A.handled = none) (F : Fr h₀ env.locals s.heap m₀) (N : News h₀ env.locals s.heap (Led 0 c₀)) (hf : Facts 0 c₀) (hk : ∀ p ∈ ps 0 c₀, m₀ p.1 = some p.2)
    (turn : ∀ i k t c u I io h tk, ks[i]? = some k → Facts i c → (∀ p ∈ Led i c, p.1 ≠ I) → Fr h₀ env.locals h (fun y => if y = x then some (.int k t) else mkFr (ps i c) stored u m₀ y) → News h₀ env.locals h ((I, io) :: Led i c) →
      wpAny (model prog w) A (execs body env) (TurnPost h₀ env.locals I io (fun m nx => ∃ c', nx = Led (i + 1) c' ∧ Facts (i + 1) c' ∧ FrIs (ps (i + 1) c') stored m₀ m) { s with heap := h, toks := tk } Q) E { s with heap := h, toks := tk })
    (done : ∀ c u h tk, Facts ks.length c → Fr h₀ env.locals h (mkFr (ps ks.length c) stored u m₀) → News h₀ env.locals h (Led ks.length c) → Q .next { s with heap := h, toks := tk }) :
    wpAny (model prog w) A (pyIter (.bytes b tb)) (fun it s₂ => LoopAtV prog w A h₀ env x body Q E it s₂) E s := by
  subst hb
  refine KBw.pyIter_bytes ?_
  have W := KBw.walks (prog := prog) (w := w) hh s.heap.objs.size b tb
  refine loop_J (fun _ => default) (fun i m nx => ∃ c', nx = Led i c' ∧ Facts i c' ∧ FrIs (ps i c') stored m₀ m) W (by simp) ?_ (next_is_new F) ⟨_, Heap.get?_push_size _ rfl, rfl, rfl⟩ (F.push _) (fun p hp => ⟨Heap.get?_push_of_some _ (N p hp).1, (N p hp).2⟩) ?_ ⟨c₀, rfl, hf, hk, fun _ _ => rfl⟩ (fun i h st => ⟨_, st.choose_spec.1⟩) (fun _ _ _ _ b hb hn => absurd (List.mem_singleton.mp hb) hn) ?_ ?_
  · intro hm
    exact absurd F.ns.lt ((List.mem_singleton.mp hm) ▸ Nat.lt_irrefl _)
  · intro p hp hI
    exact absurd (Heap.lt_size (N p hp).1) (hI ▸ Nat.lt_irrefl _)
  · rintro i v m₁ nx io h tk hi ⟨c9, u, hc, rfl⟩ ⟨c, rfl, hf', hfr⟩ hI F₁ N₁
    refine turn i _ u c m₁ _ io h tk (KBw.ints_get hc) hf' hI ?_ N₁
    rw [hfr.eq]
    exact F₁
  · rintro m₁ nx h tk ⟨c, rfl, hf', hfr⟩ F₁ N₁
    rw [← KBw.ints_length] at hf' hfr N₁
    refine done c m₁ h tk hf' ?_ N₁
    rw [hfr.eq]
    exact F₁
/-- a loop over a list that the ledger holds (and that no turn changes) -/
theorem list_S {σ : Type} {l : Addr} {ol : Obj} {vs : List Value} {nl : Nat} {m₀ : Str → Option Value} (Led : Nat → σ → List (Addr × Obj)) (ps : Nat → σ → List (Str × Value)) (Facts : Nat → σ → Prop) (stored : List Str) (c₀ : σ)
    (hol : ol = W.listOf vs.toArray nl) (hin : ∀ i c, (l, ol) ∈ Led i c) (hh : A.handled = none) (F : Fr h₀ env.locals s.heap m₀) (N : News h₀ env.locals s.heap (Led 0 c₀)) (hf : Facts 0 c₀) (hk : ∀ p ∈ ps 0 c₀, m₀ p.1 = some p.2)
    (turn : ∀ i v c u I io h tk, vs[i]? = some v → Facts i c → (∀ p ∈ Led i c, p.1 ≠ I) → Fr h₀ env.locals h (fun y => if y = x then some v else mkFr (ps i c) stored u m₀ y) → News h₀ env.locals h ((I, io) :: Led i c) →
      wpAny (model prog w) A (execs body env) (TurnPost h₀ env.locals I io (fun m nx => ∃ c', nx = Led (i + 1) c' ∧ Facts (i + 1) c' ∧ FrIs (ps (i + 1) c') stored m₀ m) { s with heap := h, toks := tk } Q) E { s with heap := h, toks := tk })
    (done : ∀ c u h tk, Facts vs.length c → Fr h₀ env.locals h (mkFr (ps vs.length c) stored u m₀) → News h₀ env.locals h (Led vs.length c) → Q .next { s with heap := h, toks := tk }) :
    wpAny (model prog w) A (pyIter (.ref l)) (fun it s₂ => LoopAtV prog w A h₀ env x body Q E it s₂) E s := by
  have hl0 := N _ (hin 0 c₀)
  have hls : s.heap.IsList l vs.toArray := ⟨ol, hl0.1, by rw [hol], nl, by rw [hol]⟩
  have hlt : l < s.heap.objs.size := Heap.lt_size hl0.1
  have hne : l ≠ s.heap.objs.size := Nat.ne_of_lt hlt
  refine wpAny_pyIter_list hls ?_
  have W := Walks.list (prog := prog) (w := w) hh s.heap.objs.size l hne vs.toArray
  refine loop_J (fun _ => ol) (fun i m nx => ∃ c', nx = Led i c' ∧ Facts i c' ∧ FrIs (ps i c') stored m₀ m) W List.mem_cons_self ?_ (next_is_new F) ⟨⟨_, Heap.get?_push_size _ rfl, rfl, rfl⟩, hls.at fun o e => Heap.get?_push_of_some _ e⟩ (F.push _) (fun p hp => ⟨Heap.get?_push_of_some _ (N p hp).1, (N p hp).2⟩) ?_ ⟨c₀, rfl, hf, hk, fun _ _ => rfl⟩ (fun i h st => by obtain ⟨o, e, _⟩ := st.1; exact ⟨o, e⟩) ?_ ?_ ?_
  · intro hm
    rcases List.mem_cons.mp hm with e | hm
    · exact absurd F.ns.lt (e ▸ Nat.lt_irrefl _)
    · exact hl0.2.1 (List.mem_singleton.mp hm).symm
  · intro p hp hI
    exact absurd (Heap.lt_size (N p hp).1) (hI ▸ Nat.lt_irrefl _)
  · rintro i m nx ⟨c', rfl, _, _⟩ b hb hn _
    rcases List.mem_cons.mp hb with e | hb
    · exact absurd e hn
    · rw [List.mem_singleton.mp hb]; exact hin i c'
  · rintro i v m₁ nx io h tk hi hP ⟨c, rfl, hf', hfr⟩ hI F₁ N₁
    refine turn i v c m₁ _ io h tk (by simpa using hP) hf' hI ?_ N₁
    rw [hfr.eq]
    exact F₁
  · rintro m₁ nx h tk ⟨c, rfl, hf', hfr⟩ F₁ N₁
    have e : vs.toArray.size = vs.length := by simp
    rw [e] at hf' hfr N₁
    refine done c m₁ h tk hf' ?_ N₁
    rw [hfr.eq]
    exact F₁
end

section
variable {prog : Program} {w : World} {A : Around} {E : Value → Shared → Prop} {s : Shared} {h₀ : Heap} {L t : Addr} {m : Str → Option Value} {news : List (Addr × Obj)}
theorem min_tupG {xs : Array (Int × Tok)} {Q : Value → Shared → Prop} (hh : A.handled = none) (ht : s.heap.IsTuple t (intItems xs)) (hne : 0 < xs.size)
    (h : ∀ v h' tk, (intItems xs)[argBest (fun i j => decide (numAt xs i < numAt xs j)) (xs.size - 1)]? = some v → (∀ b o, s.heap.get? b = some o → h'.get? b = some o) → Q v { s with heap := h', toks := tk }) :
    wpAny (model prog w) A (call (.builtin "min") [.ref t]) Q E s := by
  obtain ⟨o, ho, hc, n, hd⟩ := id ht
  have hnI : t ≠ s.heap.objs.size := Nat.ne_of_lt (Heap.lt_size ho)
  refine call_min_walk (wpAny_pyIter_tuple ht ?_)
  refine ⟨_, _, _, _, _, _, _, rfl, Walks.tuple (A := A.in1) hh _ t hnI (intItems xs), ⟨⟨_, Heap.get?_push_size _ rfl, rfl, rfl⟩, ht.at fun o e => Heap.get?_push_of_some _ e⟩, fun b hb => ?_, by simpa [intItems] using hne, CmpOf.ints_lt (numAt xs) (fun _ _ => intItems_at), fun v h' tk hP hk => ?_⟩
  · rcases List.mem_cons.mp hb with rfl | hb
    · exact Heap.lt_size (Heap.get?_push_size _ rfl)
    · obtain rfl := List.mem_singleton.mp hb
      exact Heap.lt_size (Heap.get?_push_of_some _ ho)
  · exact h v h' tk (by simpa [intItems] using hP) fun b o e => hk b o (fun hb => absurd (Heap.lt_size e) ((List.mem_singleton.mp hb) ▸ Nat.lt_irrefl _)) (Heap.get?_push_of_some _ e)
theorem getD_in9 {l : List Int} {i : Nat} {d : Int} (h : i < l.length) : l.getD i d ∈ l := by
  rw [List.getD_eq_getElem?_getD, List.getElem?_eq_getElem h]
  exact List.getElem_mem h
theorem min_tup {vs : List Value} {ns : List Int} {Q : Value → Shared → Prop} (hh : A.handled = none) (F : Fr h₀ L s.heap m) (N : News h₀ L s.heap news) (hm : (t, tupO vs) ∈ news) (hi : IntsAre vs ns) (hne : 0 < ns.length)
    (h : ∀ h' M (t : Tok) tk, Fr h₀ L h' m → News h₀ L h' news → M ∈ ns → Q (.int M t) { s with heap := h', toks := tk }) :
    wpAny (model prog w) A (call (.builtin "min") [.ref t]) Q E s := by
  have hl : s.heap.IsTuple t vs.toArray := ⟨_, (N _ hm).1, rfl, 0, rfl⟩
  obtain ⟨xs, e⟩ := hi.allInts.items
  have hns : ns = xs.toList.map (·.1) := by
    rw [← hi.numsOf, ← nums_intItems, ← e]
  have hsz : 0 < xs.size := by
    have h3 := hne; rw [hns, List.length_map, Array.length_toList] at h3; exact h3
  rw [e] at hl
  refine min_tupG hh hl hsz fun v h' tk hv hk => ?_
  obtain ⟨t, rfl⟩ := intItems_at hv
  obtain ⟨h1, h2⟩ := argBest_lt (numAt xs) (xs.size - 1)
  refine h _ _ t tk (F.grownK hk) (N.grown hk) ?_
  rw [hns, numAt_eq]
  exact getD_in9 (by rw [List.length_map, Array.length_toList]; omega)
end
end
end Mine
-- LP
namespace Mine
section

theorem lia_LP : True := by
  k_with_none
  k_with "my omega" => ((fail_if_success (fail_if_success omega (config := {}))); lia)
  trivial
noncomputable def bitsL : Nat → Nat → List Nat
  | 0, _ => []
  | s + 1, c => bitsL s (c / 2) ++ [48 + c % 2]
noncomputable def bitsS (s c : Nat) : Str := ⟨(bitsL s c).toArray⟩
theorem bitsL_len : ∀ (s c : Nat), (bitsL s c).length = s
  | 0, _ => rfl
  | s + 1, c => by simp [bitsL, bitsL_len s]
theorem digits_bits : ∀ (s c : Nat), c < 2 ^ s → (Nat.toDigits 2 (2 ^ s + c)).map Char.toNat = 49 :: bitsL s c
  | 0, c, h => by
    have : c = 0 := by simpa using h
    subst this
    rfl
  | s + 1, c, h => by
    have hp : 0 < 2 ^ s := Nat.pow_pos (by decide)
    have e : 2 ^ (s + 1) = 2 * 2 ^ s := by rw [Nat.pow_succ]; omega
    rw [Nat.toDigits_of_base_le (by decide) (by omega)]
    have e1 : (2 ^ (s + 1) + c) / 2 = 2 ^ s + c / 2 := by omega
    have e2 : (2 ^ (s + 1) + c) % 2 = c % 2 := by omega
    rw [e1, e2, List.map_append, digits_bits s (c / 2) (by omega)]
    have hm : c % 2 = 0 ∨ c % 2 = 1 := by omega
    rcases hm with q | q <;> simp [bitsL, q] <;> decide
theorem baseText_cps (s c : Nat) (h : c < 2 ^ s) : (baseText "0b" 2 ((2 ^ s + c : Nat) : Int)).cps.toList = 48 :: 98 :: 49 :: bitsL s c := by
  unfold baseText
  have h1 : ¬ (((2 ^ s + c : Nat) : Int) < 0) := by omega
  rw [if_neg h1]
  have e : ((2 ^ s + c : Nat) : Int).natAbs = 2 ^ s + c := rfl
  rw [e]
  show (Str.ofString "" ++ Str.ofString "0b" ++ Str.ofString (String.ofList (Nat.toDigits 2 (2 ^ s + c)))).cps.toList = _
  have e3 : (Str.ofString (String.ofList (Nat.toDigits 2 (2 ^ s + c)))).cps.toList = 49 :: bitsL s c := by
    rw [Str.ofString_eq_toList, String.toList_ofList]
    simpa using digits_bits s c h
  have e4 : ∀ a b : Str, (a ++ b).cps.toList = a.cps.toList ++ b.cps.toList := fun a b => by
    show (a.cps ++ b.cps).toList = _
    simp
  rw [e4, e4, e3]
  rfl
theorem baseText_len (s c : Nat) (h : c < 2 ^ s) : (baseText "0b" 2 ((2 ^ s + c : Nat) : Int)).length = s + 3 := by
  show (baseText "0b" 2 ((2 ^ s + c : Nat) : Int)).cps.size = _
  rw [← Array.length_toList, baseText_cps s c h]
  simp [bitsL_len]
theorem bin_slice (s c : Nat) (h : c < 2 ^ s) : Txt.slice (baseText "0b" 2 ((2 ^ s + c : Nat) : Int)) (some 3) none = bitsS s c := by
  rw [slice_from_eq (b := ((s + 3 : Nat) : Int)) (by decide) (by rw [baseText_len s c h]; omega) (by rw [baseText_len s c h])]
  unfold bitsS
  congr 1
  rw [baseText_cps s c h]
  have : ((s + 3 : Nat) : Int).toNat - 3 = s := by omega
  simp [bitsL_len, List.take_of_length_le]
section pure
noncomputable def frR : List Nat → Nat
  | [] => 0
  | k :: r => 2 * frR r + k
noncomputable def codesR : List Nat → List (Nat × Nat)
  | [] => []
  | k :: r => codesR r ++ (List.range k).map fun j => (r.length + 1, 2 * frR r + j)
noncomputable def OkR : List Nat → Prop
  | [] => True
  | k :: r => OkR r ∧ k ≤ 2 ∧ 2 * frR r + k + 1 ≤ 2 ^ (r.length + 1)
noncomputable def cntsR (r : List Nat) : List Int := (r.reverse.map fun (k : Nat) => (k : Int)) ++ List.replicate (16 - r.length) 0
noncomputable def symOf (b : Int) (j : Nat) : Int := Int.fmod (b * 37 + (j : Int) * 3) 256
noncomputable def symsOf (b : Int) (n : Nat) : List Int := (List.range n).map (symOf b)
end pure

theorem codes_len : ∀ (r : List Nat), (codesR r).length = r.sum
  | [] => rfl
  | k :: r => by simp only [codesR, List.length_append, codes_len r, List.length_map, List.length_range, List.sum_cons]; omega
theorem codes_succ {k : Nat} {r : List Nat} : codesR ((k + 1) :: r) = codesR (k :: r) ++ [(r.length + 1, frR (k :: r))] := by
  simp only [codesR, frR, List.range_succ, List.map_append, List.map_cons, List.map_nil, List.append_assoc]
noncomputable def codeD (b : Int) (r : List Nat) : List (PyData × PyData) := (codesR r).mapIdx fun j p => (PyData.int (symOf b j), PyData.str (bitsS p.1 p.2))
theorem codeD_zero {b : Int} {r : List Nat} : codeD b (0 :: r) = codeD b r := by simp [codeD, codesR]
theorem codeD_succ {b : Int} {k : Nat} {r : List Nat} : codeD b ((k + 1) :: r) = codeD b (k :: r) ++ [(PyData.int (symOf b (k :: r).sum), PyData.str (bitsS (r.length + 1) (frR (k :: r))))] := by
  unfold codeD
  rw [codes_succ, List.mapIdx_append, codes_len]
  simp
theorem symOf_eq (b : Int) (j : Nat) : symOf b j = (b * 37 + (j : Int) * 3) % 256 := Int.fmod_eq_emod_of_nonneg _ (by decide)
theorem symOf_inj {b : Int} {i j : Nat} (hi : i < 80) (hj : j < 80) (h : symOf b i = symOf b j) : i = j := by
  rw [symOf_eq, symOf_eq] at h; omega
theorem putD_new {dk dv : PyData} {D : List (PyData × PyData)} (h : ∀ p ∈ D, PySem.Spec.same p.1 dk = false) : PyProof.V.putD dk dv D = D ++ [(dk, dv)] := by
  unfold PyProof.V.putD
  have : D.any (fun p => PySem.Spec.same p.1 dk) = false := List.any_eq_false.mpr fun p hp => by rw [h p hp]; decide
  rw [this]
  rfl
theorem codeD_new {b : Int} {r : List Nat} (hr : r.sum < 79) : ∀ p ∈ codeD b r, PySem.Spec.same p.1 (PyData.int (symOf b r.sum)) = false := by
  intro p hp
  unfold codeD at hp
  obtain ⟨j, hj, rfl⟩ := List.mem_iff_getElem.mp hp
  rw [List.getElem_mapIdx]
  have hj' : j < r.sum := by
    rw [List.length_mapIdx, codes_len] at hj; exact hj
  show decide (symOf b j = symOf b r.sum) = false
  refine decide_eq_false fun e => ?_
  have := symOf_inj (by omega) (by omega) e
  omega
theorem cnts_succ {k : Nat} {r : List Nat} (h : r.length < 16) : (cntsR (k :: r)).set r.length ((cntsR (k :: r)).getD r.length 0 + 1) = cntsR ((k + 1) :: r) := by
  have hl : (r.reverse.map fun (k : Nat) => (k : Int)).length = r.length := by simp
  simp only [cntsR, List.reverse_cons, List.map_append, List.length_cons, List.map_cons, List.map_nil, List.append_assoc]
  rw [List.set_append_right _ _ (by rw [hl]; exact Nat.le_refl _), List.getD_eq_getElem?_getD, List.getElem?_append_right (by rw [hl]; exact Nat.le_refl _), hl, Nat.sub_self]
  simp
theorem syms_succ {b : Int} {n : Nat} : symsOf b (n + 1) = symsOf b n ++ [symOf b n] := by simp [symsOf, List.range_succ]
end
end Mine
-- LX
namespace Mine
section

theorem lia_LX : True := by
  k_with_none
  k_with "my omega" => ((fail_if_success (fail_if_success omega (config := {}))); lia)
  trivial
abbrev excPlain (C t : Addr) : Obj := { cls := .ref C, data := .fields #[.ref t, .none, .none, .none, .bool false, .none] }
abbrev tupPlain (vs : List Value) : Obj := { cls := .type "tuple", data := .seq vs.toArray }
section
variable {prog : Program} {w : World} {A : Around} {h : Heap} {g : Array GenState} {d : Drawn} {t : Nat} {os : OsState}
variable {nm q : Str} {C N : Addr} {bs bm : List Value} {hdct : Bool} {sn : List Str} {sub : List Value} {ab : Bool} {col : Option Bool} {dd : Option Addr} {k0 k1 k2 k3 k5 : Option Value}
theorem exc_check {M : Model} {rest : List Value} {Q : Unit → Shared → Prop} {E : Value → Shared → Prop} (hC : h.get? C = some (excClassObj nm q C N bs bm hdct sn sub ab col dd k0 k1 k2 k3 k5 "Exception.__new__")) (hB : bm.contains (.type "Exception") = true)
    (hq : Q () ⟨h, g, d, t, os⟩) : wpAny M A (checkBuiltinCall "Exception.__new__" ⟨.ref C :: rest, []⟩) Q E ⟨h, g, d, t, os⟩ := by
  have F := PySem.F.excBase_Exception
  have hcont : (Value.ref C :: bm).contains (.type "Exception") = true := by rw [List.contains_cons, hB, Bool.or_true]
  have hstar := F.noStar
  simp only [checkBuiltinCall, F.newKind, F.newSplit, F.newRow]
  repeat (first | refine wpAny_loadPart_at hC ?_ | (refine wpAny_isSubtype_exc hC ?_; rw [hcont]) | refine wpAny_staticBase_exc hC ?_ | refine wpAny_madeBy_exc hC ?_ | simp only [bne_self_eq_false, Bool.false_eq_true, if_false] | wp_step)
  exact hq
theorem exc_new {R : Result → Shared → Prop} {rest : List Value} (hC : h.get? C = some (excClassObj nm q C N bs bm hdct sn sub ab col dd k0 k1 k2 k3 k5 "Exception.__new__")) (hB : bm.contains (.type "Exception") = true)
    (hA : bm.contains (.type "AttributeError") = false) (hN : bm.contains (.type "NameError") = false)
    (hq : R (.ok (.ret (.ref (h.objs.size + 1)))) ⟨(h.push (tupPlain rest)).push (excPlain C h.objs.size), g, d, t, os⟩) (hrest : rest.length ≤ sizeLine) :
    codeAny (model prog w) A (.builtin "Exception.__new__" ⟨.ref C :: rest, []⟩) R ⟨h, g, d, t, os⟩ := by
  have F := PySem.F.excBase_Exception
  have hends := F.ends
  have hcB : (Value.ref C :: bm).contains (.type "Exception") = true := by rw [List.contains_cons, hB, Bool.or_true]
  have hcA : (Value.ref C :: bm).contains (.type "AttributeError") = false := by rw [List.contains_cons, hA]; rfl
  have hcN : (Value.ref C :: bm).contains (.type "NameError") = false := by rw [List.contains_cons, hN]; rfl
  refine codeAny_builtinAt F.entry ?_
  unfold Builtin.«BaseException.__new__»
  refine PySem.wpAt_bind ?_
  show PySem.wpAt _ _ _ (stack >>= _) _ _ _
  refine PySem.wpAt_bind (PySem.wpAt_stack fun p below => PySem.wpAt_of_wpAny ?_)
  wp_walk
  refine PySem.wpAt_of_wpAny ?_
  rw [F.owner]
  repeat (first | with_reducible refine wpAny_madeHere_exc F.canon hC ?_ | with_reducible refine wpAny_loadPart_at hC ?_ | (with_reducible refine wpAny_isSubtype_exc hC ?_; first | rw [hcB] | rw [hcA] | rw [hcN]) | wp_step)
  show R _ _
  rw [Heap.size_push]
  exact hq
theorem exc_type_call {K : Frag} {fI : Addr} {rest : List Value} {Q : Fin → Shared → Prop} {E : Value → Shared → Prop} (hC : h.get? C = some (excClassObj nm q C N bs bm hdct sn sub ab col dd k0 k1 k2 k3 k5 "Exception.__new__")) (hB : bm.contains (.type "Exception") = true)
    (hA : bm.contains (.type "AttributeError") = false) (hN : bm.contains (.type "NameError") = false) (X : K.In h)
    (hi : findIn K (.ref C) "__init__" = some (some (.ref fI))) (hf : typeIn K (.ref fI) = some (.type "function"))
    (hq : codeAny (model prog w) A (.call (.ref fI) ⟨.ref (h.objs.size + 1) :: rest, []⟩) (fun r s' => match r with | .ok (.ret v) => v = .none ∧ Q (.done (.ret (.ref (h.objs.size + 1)))) s' | .ok _ => False | .error e => E e s')
      ⟨(h.push (tupPlain rest)).push (excPlain C h.objs.size), g, d, t, os⟩) (hrest : rest.length ≤ sizeLine) :
    wpAny (model prog w) A (Builtin.«type.__call__» ⟨.ref C :: rest, []⟩) Q E ⟨h, g, d, t, os⟩ := by
  have F := PySem.F.excBase_Exception
  repeat (first | with_reducible refine wpAny_loadPart_at hC ?_ | with_reducible refine wpAny_madeBy_exc hC ?_ | wp_step)
  refine codeAny_call_builtin_code (Code.quiet_builtin _ F.quiet) (exc_check hC hB ?_)
  refine exc_new hC hB hA hN ?_ hrest
  show wpAny _ _ _ _ _ _
  have k : ∀ b o, h.get? b = some o → ((h.push (tupPlain rest)).push (excPlain C h.objs.size)).get? b = some o := fun b o e => Heap.get?_push_of_some _ (Heap.get?_push_of_some _ e)
  have hC₁ := k _ _ hC
  have hget : ((h.push (tupPlain rest)).push (excPlain C h.objs.size)).get? (h.objs.size + 1) = some (excPlain C h.objs.size) := by heap_get
  have hcC : (Value.ref C :: bm).contains (.ref C) = true := by simp
  unfold isInstance
  repeat (first | with_reducible refine wpAny_loadPart_at hget ?_ | (with_reducible refine wpAny_isSubtype_exc hC₁ ?_; rw [hcC]) | wp_step)
  show wpAny _ _ (typeLookup (.ref C) _) _ _ _
  have X₁ := X.keeps k
  refine (looks_findIn X₁ hi).here ?_
  refine wpAny_holding (wpAny_bind ((bind_fn X₁ _ hf).here ?_))
  refine wpAny_bind (wpAny_call (codeAny_mono hq fun r s' z => ?_))
  rcases r with e | (v | _ | _ | _) <;> first | exact z | exact z.elim | skip
  obtain ⟨rfl, z⟩ := z
  show wpAny _ _ (pure _) _ _ _
  exact wpAny_pure (wpAny_pure z)
theorem exc_call {K : Frag} {fI : Addr} {rest : List Value} {R : Result → Shared → Prop} (hC : h.get? C = some (excClassObj nm q C N bs bm hdct sn sub ab col dd k0 k1 k2 k3 k5 "Exception.__new__")) (hB : bm.contains (.type "Exception") = true)
    (hA : bm.contains (.type "AttributeError") = false) (hN : bm.contains (.type "NameError") = false) (X : K.In h)
    (hi : findIn K (.ref C) "__init__" = some (some (.ref fI))) (hf : typeIn K (.ref fI) = some (.type "function"))
    (hq : codeAny (model prog w) (A.under (.builtin "type.__call__" ⟨.ref C :: rest, []⟩)) (.call (.ref fI) ⟨.ref (h.objs.size + 1) :: rest, []⟩) (InitBack (h.objs.size + 1) R)
      ⟨(h.push (tupPlain rest)).push (excPlain C h.objs.size), g, d, t, os⟩) (hrest : rest.length ≤ sizeLine) :
    codeAny (model prog w) A (.call (.ref C) ⟨rest, []⟩) R ⟨h, g, d, t, os⟩ := by
  have f1 := tc_lookup
  have f2 := tc_bind (.ref C)
  have hT : (⟨h, g, d, t, os⟩ : Shared).TypeIs (.ref C) "type" := ⟨_, hC, rfl⟩
  refine codeAny_of_tree ?_
  show wpAny _ _ (callAny (.ref C) _) _ _ _
  repeat (any_goals (first | assumption | with_reducible refine wpAny_loadPart_at hC ?_ | wp_step))
  refine ⟨rfl, ?_⟩
  refine codeAny_call_builtin_at (Code.quiet_builtin _ (by decide +kernel)) entry_typeCall (wpAny_check_type_call_sub hC (exc_type_call hC hB hA hN X hi hf ?_ hrest))
  refine codeAny_mono hq fun r s' z => ?_
  rcases r with e | (v | _ | _ | _) <;> first | exact z | exact z.elim | skip
end
noncomputable def excOwnIn (K : Frag) (C : Addr) : Bool := match K.lookup C with
  | some ⟨.type "type", _, .cls cd, sl⟩ => (match cd.mro, sl.toList with
    | .ref C' :: bm, [_, _, _, _, some (.builtin n), _] => C' == C && n == "Exception.__new__" && !cd.hasDel && bm.contains (.type "Exception") && bm.contains (.type "BaseException") && !bm.contains (.type "AttributeError") && !bm.contains (.type "NameError")
    | _, _ => false)
  | _ => false
theorem excOwn_of {K : Frag} {h : Heap} {C : Addr} (X : K.In h) (q : excOwnIn K C = true) : ∃ nm q N bs bm hdct sn sub ab col dd k0 k1 k2 k3 k5,
    h.get? C = some (excClassObj nm q C N bs bm hdct sn sub ab col dd k0 k1 k2 k3 k5 "Exception.__new__") ∧ bm.contains (.type "Exception") = true ∧ bm.contains (.type "BaseException") = true ∧ bm.contains (.type "AttributeError") = false ∧ bm.contains (.type "NameError") = false := by
  unfold excOwnIn at q
  split at q
  · rename_i dd cd sl ho
    split at q
    · rename_i C' bm k0 k1 k2 k3 n k5 hm hs
      simp only [Bool.and_eq_true, beq_iff_eq, Bool.not_eq_true'] at q
      obtain ⟨⟨⟨⟨⟨⟨rfl, rfl⟩, hdel⟩, h1⟩, h2⟩, h3⟩, h4⟩ := q
      obtain ⟨nm, bs, mro, ns, qn, hd, sn, sub, ab, col, del⟩ := cd
      dsimp only at hm hdel
      subst hm hdel
      have hsl : sl = #[k0, k1, k2, k3, some (.builtin "Exception.__new__"), k5] := by
        obtain ⟨l⟩ := sl
        simp only at hs
        rw [hs]
      subst hsl
      exact ⟨nm, qn, ns, bs, bm, hd, sn, sub, ab, col, dd, k0, k1, k2, k3, k5, X _ _ ho, h1, h2, h3, h4⟩
    · cases q
  · cases q
section
variable {prog : Program} {w : World} {A : Around} {K : Frag} {C : Addr} {s : Shared} {h₀ : Heap} {L : Addr} {m : Str → Option Value} {news : List (Addr × Obj)} {R : Result → Shared → Prop}
theorem exc_K {rest : List Value} {fI : Addr} (F : Fr h₀ L s.heap m) (N : News h₀ L s.heap news) (X : K.In s.heap) (hm : excOwnIn K C = true)
    (hi : findIn K (.ref C) "__init__" = some (some (.ref fI))) (hf : typeIn K (.ref fI) = some (.type "function"))
    (h : ∀ x tu h', Fr h₀ L h' m → News h₀ L h' ((x, excPlain C tu) :: (tu, tupPlain rest) :: news) → (∀ p ∈ news, p.1 < tu) → tu < x →
      codeAny (model prog w) (A.under (.builtin "type.__call__" ⟨.ref C :: rest, []⟩)) (.call (.ref fI) ⟨.ref x :: rest, []⟩) (InitBack x R) { s with heap := h' }) (hrest : rest.length ≤ sizeLine) :
    codeAny (model prog w) A (.call (.ref C) ⟨rest, []⟩) R s := by
  obtain ⟨hh, g, d, t, os⟩ := s
  obtain ⟨nm, q, N', bs, bm, hdct, sn, sub, ab, col, dd, k0, k1, k2, k3, k5, hC, h1, h2, h3, h4⟩ := excOwn_of X hm
  refine exc_call hC h1 h3 h4 X hi hf (h _ hh.objs.size _ ((F.push _).push _) ?_ (fun p hp => Heap.lt_size (N p hp).1) (Nat.lt_succ_self _)) hrest
  have := (N.push F (tupPlain rest)).push (F.push _) (excPlain C hh.objs.size)
  rwa [Heap.size_push] at this
end

section
variable {prog : Program} {w : World} {A : Around} {K : Frag} {C x tu : Addr} {s : Shared} {h₀ : Heap} {L : Addr} {m : Str → Option Value} {news : List (Addr × Obj)} {E : Value → Shared → Prop}
theorem exc_checki {M : Model} {nm q : Str} {N : Addr} {bs bm : List Value} {hdct : Bool} {sn : List Str} {sub : List Value} {ab : Bool} {col : Option Bool} {dd : Option Addr} {k0 k1 k2 k3 k5 : Option Value} {h : Heap} {g : Array GenState} {d : Drawn} {t : Nat} {os : OsState}
    {e : Addr} {oe : Obj} {rest : List Value} {Q : Unit → Shared → Prop}
    (hC : h.get? C = some (excClassObj nm q C N bs bm hdct sn sub ab col dd k0 k1 k2 k3 k5 "Exception.__new__")) (hB : bm.contains (.type "Exception") = true) (he : h.get? e = some oe) (hcls : oe.cls = .ref C) (hq : Q () ⟨h, g, d, t, os⟩) :
    wpAny M A (checkBuiltinCall "Exception.__init__" ⟨.ref e :: rest, []⟩) Q E ⟨h, g, d, t, os⟩ := by
  have F := PySem.F.excBase_Exception
  have hcB : (Value.ref C :: bm).contains (.type "Exception") = true := by rw [List.contains_cons, hB, Bool.or_true]
  have hshort := F.noStar
  simp only [checkBuiltinCall, F.initKind, F.initSplit, F.initRow]
  repeat (first | (with_reducible refine wpAny_loadPart_at he ?_; rw [hcls]) | with_reducible refine wpAny_loadPart_at hC ?_ | (with_reducible refine wpAny_isSubtype_exc hC ?_; rw [hcB]) | wp_step)
  refine wpAny_onRaise ?_
  rw [show ∀ (a b : String) (n : Nat), Bind.check ⟨.positional, "*", "Exception", .self, [⟨"args", .varPos, false⟩]⟩ a b n (List.map (fun x => x.fst) ({ pos := Value.ref e :: rest } : Args).kw) = pure () from
    fun a b n => check_star_args _ _ _ _ _ _]
  exact wpAny_pure hq
theorem exc_init {rest : List Value} {Q : Value → Shared → Prop} (F : Fr h₀ L s.heap m) (N : News h₀ L s.heap ((x, excPlain C tu) :: news)) (X₀ : K.In h₀) (hm : excOwnIn K C = true) (hne : ∀ p ∈ news, p.1 ≠ x)
    (h : ∀ tp h', Fr h₀ L h' m → News h₀ L h' ((x, excPlain C tp) :: news) → Q .none { s with heap := h' }) (hz : rest.length ≤ sizeLine) :
    wpAny (model prog w) A (call (.builtin "Exception.__init__") (.ref x :: rest)) Q E s := by
  have X := X₀.keeps F.keep
  obtain ⟨hh, g, d, t, os⟩ := s
  obtain ⟨nm, q, N', bs, bm, hdct, sn, sub, ab, col, dd, k0, k1, k2, k3, k5, hC, h1, h2, h3, h4⟩ := excOwn_of X hm
  have FB := PySem.F.excBase_Exception
  have hx := (N _ (.head _)).1
  have hz' := hz
  refine wpAny_call (codeAny_call_builtin FB.init.plain FB.initEntry (exc_checki hC h1 hx rfl ?_))
  wp_walk
  have F1 := F.push (tupPlain rest)
  have N1 := N.push F (tupPlain rest)
  obtain ⟨U1, U2⟩ := news_upd (pre := [(hh.objs.size, tupPlain rest)]) (f := Obj.mapFields (·.setIfInBounds 0 (.ref hh.objs.size))) (o' := excPlain C hh.objs.size) F1 N1 (fun p hp => by
    rw [List.mem_singleton.mp hp]; exact fun z => absurd (Heap.lt_size hx) (by dsimp only at z; rw [← z]; exact Nat.lt_irrefl _)) hne rfl rfl
  exact h _ _ U1 (cb_drop U2 fun p hp => List.mem_cons_of_mem _ hp)
theorem refuse_exc (self : Value) : refuseLoop self "__setattr__" [.type "Exception", .type "BaseException", .type "object"] = pure () := by kernel_rfl
theorem exc_set {C' : Addr} {name : Str} {v : Value} {Q : Unit → Shared → Prop} {cd : ClassData} (F : Fr h₀ L s.heap m) (N : News h₀ L s.heap ((x, excPlain C tu) :: news)) (X₀ : K.In h₀) (hne : ∀ p ∈ news, p.1 ≠ x)
    (hc : clsIn K C = some cd) (hd : cd.hasDict = true) (hmro : cd.mro = [.ref C, .ref C', .type "Exception", .type "BaseException", .type "object"])
    (hs : findIn K (.ref C) "__setattr__" = some (some (.builtin "object.__setattr__"))) (hf : findIn K (.ref C) name = some none) (ho : mroIn K C (.type "object") = some true)
    (h : ∀ o' h' tk', Fr h₀ L h' m → News h₀ L h' ((x, o') :: news) → o'.cls = .ref C → o'.data = .fields #[.ref tu, .none, .none, .none, .bool false, .none] → Q () { s with heap := h', toks := tk' }) :
    wpAny (model prog w) A (setAttr (.ref x) name v) Q E s := by
  have X := X₀.keeps F.keep
  have I : InstAt s.heap x (excPlain C tu) C none := ⟨(N _ (.head _)).1, rfl, rfl, trivial⟩
  have SF := PySem.F.store_object
  refine set_plain X I hs ?_
  have sub : Looks (model prog w) s.heap (isInstance (.ref x) (.type "object")) true := I.type.andThen (looks_mroIn X ho)
  refine codeAny_call_builtin SF.slot.plain SF.entry (@check_slot (model prog w) _ _ { s with toks := s.toks + 1 } "object.__setattr__" "object" "__setattr__" (.ref x) [.str name s.toks, v] [] _ SF.kind SF.split sub (SF.args (.ref x) (.str name s.toks) v) ?_)
  have hm : Looks (model prog w) s.heap (mroOf (.ref C)) cd.mro := (looks_clsIn X hc).andThen .now
  rw [osa_eq, refuse_eq]
  refine wpAny_bind (wpAny_bind (I.type _ _ _ _ (fun _ _ e => e) (wpAny_bind (hm _ _ _ _ (fun _ _ e => e) ?_))))
  rw [hmro, refuseLoop_ref, refuseLoop_ref, refuse_exc]
  refine wpAny_pure (wpAny_bind (I.type _ _ _ _ (fun _ _ e => e) (wpAny_bind (looks_findIn X hf _ _ _ _ (fun _ _ e => e) ?_))))
  refine wpAny_bind (wpAny_pure ?_)
  show wpAny _ _ (PySem.Builtin.ObjectAttr.storeInOwnDict (.ref x) (.ref C) (.str name s.toks) name v false) _ _ _
  obtain ⟨hh, g, dr, t, os⟩ := s
  have hx := (N _ (.head _)).1
  have F1 := F.push emptyDict
  have N1 := N.push F emptyDict
  have hxs : hh.objs.size ≠ x := fun z => absurd (Heap.lt_size hx) (by rw [← z]; exact Nat.lt_irrefl _)
  obtain ⟨U1, U2⟩ := news_upd (pre := [(hh.objs.size, emptyDict)]) (f := fun o => { o with dict := some hh.objs.size }) (o' := { excPlain C tu with dict := some hh.objs.size }) F1 N1 (fun p hp => by
    rw [List.mem_singleton.mp hp]; exact hxs) hne rfl rfl
  have D2 := (U2 _ (.head _)).1
  have hne2 : ∀ p ∈ (x, ({ excPlain C tu with dict := some hh.objs.size } : Obj)) :: news, p.1 ≠ hh.objs.size := fun p hp => by
    rcases List.mem_cons.mp hp with rfl | hp
    · exact Ne.symm hxs
    · exact Nat.ne_of_lt (Heap.lt_size (N p (List.mem_cons_of_mem _ hp)).1)
  obtain ⟨V1, V2⟩ := news_upd (pre := []) (f := Obj.putName name (PyData.keyHash w.params name) (.str name (t + 1)) v) U1 U2 (fun p hp => nomatch hp) hne2 rfl (by rfl)
  refine wpAny_bind (wpAny_pure (wpAny_bind (wpAny_bind (wpAny_loadPart hx (wpAny_bind ((looks_clsIn X hc) _ _ _ _ (fun _ _ e => e) ?_))))))
  rw [hd]
  refine wpAny_bind (wpAny_alloc (wpAny_bind ?_))
  refine wpAny_update (N1 _ (.tail _ (.head _))).1 ?_
  refine wpAny_pure (a := some hh.objs.size) (wpAny_bind (wpAny_pure (wpAny_bind ?_)))
  unfold nsSet
  refine wpAny_bind (wpAny_bind (wpAny_askSetting (wpAny_pure (wpAny_bind (wpAny_mkText (wpAny_bind (wpAny_loadPart D2 ?_)))))))
  refine wpAny_updatePart D2 ?_
  refine wpAny_bind (wpAny_lookBehind (V2 _ (.head _)).1 (pastItsLine_dict (by show 1 ≤ sizeLine + 1; rw [sizeLine_eq]; omega)) ?_)
  exact wpAny_pure (h _ _ _ V1 (cb_drop V2 fun p hp => List.mem_cons_of_mem _ hp) rfl rfl)
end
end
end Mine
-- LX2
namespace Mine
section

theorem excOwn51 (w : World) : excOwnIn (Mine.hd.heap_39 w.params) 51 = true := by kernel_rfl
theorem meta_Exception : typeOf (.type "Exception") = pure (.type "type") := by first | rfl | kernel_rfl
end
end Mine
local macro_rules | `(tactic| walk_at "my t3") => `(tactic| (intro tp9 h9 F9 N9))
local macro_rules | `(tactic| walk_at "my t4") => `(tactic| (intro o9 h9 tk9 F9 N9 c9 d9))
namespace Mine
section

section
theorem press {w : World} {mean : ExcName → Option Value} {mg mb : Str → Option Value} {news : List (Addr × Obj)} {x tu : Addr} {msg : Str} {tm : Tok} {rs : List Value}
   {dp un : Nat} {gd : Option (List Code)} {cn : Str} {cs : Scope} {a : Addr} {ccd : Value} {cl : List (Str × Addr)} {outer : List Env} {A₀ : Around} {base h₀ : Heap} {L : Addr} {m : Str → Option Value} {s : Shared} {R : Result → Shared → Prop}
    (B : Below A₀ base outer h₀) (F : Fr h₀ L s.heap m) (X : (Mine.hd.heap_39 w.params).In h₀) (N : News h₀ L s.heap ((x, excPlain 51 tu) :: (tu, tupPlain [.str msg tm]) :: news)) (T : Top Mine.hd.view_39 (looseW Mine.hd.view_39 []) mean mg mb h₀)
    (hk : cs.kind = .function) (hne : ∀ p ∈ news, p.1 ≠ x) (hne2 : ∀ p ∈ news, p.1 ≠ tu) (hxt : tu ≠ x) 
    (hdp : dp + 2 < recursionLimit) (hun : un + 16 < cLine)
    (hret : ∀ (o' : Obj) (tp : Value) (h' : Heap) (tk' : Nat), Fr h₀ L h' m → News h₀ L h' ((x, o') :: news) → o'.cls = .ref 51 → o'.data = .fields #[tp, .none, .none, .none, .bool false, .none] → R (.ok (.ret .none)) { s with heap := h', toks := tk' }) :
      codeAny (model Challenge.rw_ok0140_01.row.prog w) ((ktrTop dp un gd cn cs L a ccd cl outer).under (.builtin "type.__call__" ⟨.ref 51 :: rs, []⟩)) (.call (.ref 35) ⟨[.ref x, .str msg tm], []⟩) R s := by
  k_with_none
  k_with "my lt" => first | assumption | exact And.left (by assumption) | exact And.left (And.right (by assumption)) | exact And.right (by assumption) | exact And.left (And.right (And.right (by assumption))) | exact And.right (And.right (by assumption)) | exact And.left (And.right (And.right (And.right (by assumption)))) | exact And.right (And.right (And.right (by assumption))) | exact And.left (And.right (And.right (And.right (And.right (by assumption))))) | exact And.right (And.right (And.right (And.right (by assumption)))) | exact And.left (And.right (And.right (And.right (And.right (And.right (by assumption)))))) | exact And.right (And.right (And.right (And.right (And.right (by assumption))))) | exact And.left (And.right (And.right (And.right (And.right (And.right (And.right (by assumption))))))) | exact And.right (And.right (And.right (And.right (And.right (And.right (by assumption)))))) | exact And.left (And.right (And.right (And.right (And.right (And.right (And.right (And.right (by assumption)))))))) | exact And.right (And.right (And.right (And.right (And.right (And.right (And.right (by assumption))))))) | exact And.left (And.right (And.right (And.right (And.right (And.right (And.right (And.right (And.right (by assumption))))))))) | exact And.right (And.right (And.right (And.right (And.right (And.right (And.right (And.right (by assumption)))))))) | fail
  k_with "my kne" => first | assumption | (refine Ne.symm ?_; assumption) | (refine neN ?_; (try dsimp only); first | (refine Nat.ne_of_lt ?_; k_extra "my lt") | (refine Nat.ne_of_gt ?_; k_extra "my lt") | omega) | fail
  k_with "my room" => first | exact upR 0 (by assumption) rfl | exact upR 1 (by assumption) rfl | exact upR 2 (by assumption) rfl | exact upR 3 (by assumption) rfl | exact upR 4 (by assumption) rfl | exact upR 5 (by assumption) rfl | exact upR 6 (by assumption) rfl | exact upR 7 (by assumption) rfl | exact upR 8 (by assumption) rfl | fail
  k_with "my units" => first | exact upR 0 (by assumption) rfl | exact upR 1 (by assumption) rfl | exact upR 2 (by assumption) rfl | exact upR 3 (by assumption) rfl | exact upR 4 (by assumption) rfl | exact upR 5 (by assumption) rfl | exact upR 6 (by assumption) rfl | exact upR 7 (by assumption) rfl | exact upR 8 (by assumption) rfl | exact upR 9 (by assumption) rfl | exact upR 10 (by assumption) rfl | exact upR 11 (by assumption) rfl | exact upR 12 (by assumption) rfl | fail
  k_with "my sub" => first | exact List.forall_mem_nil _ | assumption | exact List.forall_mem_cons.mpr ⟨(by k_mem), (by k_extra "my sub")⟩ | (intro p9 hp9; repeat (first | exact hp9 | refine List.Mem.tail _ ?_))
  k_with "my ne" => first | exact List.forall_mem_nil _ | assumption | exact List.forall_mem_cons.mpr ⟨(by first | assumption | k_ne), (by k_extra "my ne")⟩
  k_with "my subA" => (intro p9 hp9; repeat' (first | exact hp9 | exact List.mem_append_left _ hp9 | exact List.mem_append_right _ hp9 | refine List.Mem.tail _ ?_))
  k_with "my memB" => first | assumption | exact List.Mem.head _ | (refine List.Mem.tail _ ?_; k_extra "my memB") | (refine List.mem_append_left _ ?_; k_extra "my memB") | (refine List.mem_append_right _ ?_; k_extra "my memB")
  k_with "my leafB" => first | assumption | (refine List.Mem.tail _ ?_; k_extra "my leafB") | (refine List.mem_append_left _ ?_; k_extra "my leafB") | (refine List.mem_append_right _ ?_; k_extra "my leafB")
  k_with "my subB" => first | exact List.forall_mem_nil _ | exact List.forall_mem_cons.mpr ⟨(by k_extra "my memB"), (by k_extra "my subB")⟩ | exact List.forall_mem_append.mpr ⟨(by k_extra "my subB"), (by k_extra "my subB")⟩ | (intro p9 hp9; k_extra "my leafB")
  k_with "getMethod type:Exception" => (k_here; refine' method_type (by k_asm) (by k_asm) (by exact meta_Exception) (by decide +kernel) (by k_dflt k_is) (by k_handed) ?_)
  k_with "call builtin:Exception.__init__" => (k_here; k_dflt (refine' exc_init (by k_asm) (by k_asm) (by k_asm) (by exact excOwn51 _) (by assumption) ?_ (by exact Nat.le_of_ble_eq_true rfl)); walk_at "my t3")
  k_with "setAttr ref" => (k_here; k_dflt (refine' exc_set (C := 51) (C' := 38) (by k_asm) (by k_asm) (by k_asm) (by assumption) (by exact rfl) (by rfl) (by rfl) (by k_is) (by k_is) (by k_is) ?_); walk_at "my t4")
  k_with "my omega" => ((fail_if_success (fail_if_success omega (config := {}))); lia)
  k_dflt cell_enter
  have hne' : ∀ p ∈ (tu, tupPlain [.str msg tm]) :: news, p.1 ≠ x := fun p hp => (List.mem_cons.mp hp).elim (fun z => z ▸ hxt) (hne p)
  k_steps
  exact hret _ _ _ _ (by assumption) (cb_drop (by assumption) fun p hp => by rcases List.mem_cons.mp hp with rfl | hp; exact .head _; exact .tail _ (.tail _ hp)) (by assumption) (by assumption)

theorem table_c {w : World} {mean : ExcName → Option Value} {mg mb : Str → Option Value} {news : List (Addr × Obj)} {msg : Str} {tm : Tok}
   {dp un : Nat} {gd : Option (List Code)} {cn : Str} {cs : Scope} {a : Addr} {ccd : Value} {cl : List (Str × Addr)} {outer : List Env} {A₀ : Around} {base h₀ : Heap} {L : Addr} {m : Str → Option Value} {s : Shared} {Q E : Value → Shared → Prop}
    (B : Below A₀ base outer h₀) (F : Fr h₀ L s.heap m) (X : (Mine.hd.heap_39 w.params).In h₀) (N : News h₀ L s.heap news) (T : Top Mine.hd.view_39 (looseW Mine.hd.view_39 []) mean mg mb h₀)
    (hk : cs.kind = .function) (hdp : dp + 2 < recursionLimit) (hun : un + 16 < cLine)
    (hret : ∀ (x : Addr) (o' : Obj) (tp : Value) (h' : Heap) (tk' : Nat), Fr h₀ L h' m → News h₀ L h' ((x, o') :: news) → (∀ p ∈ news, p.1 ≠ x) → o'.cls = .ref 51 → o'.data = .fields #[tp, .none, .none, .none, .bool false, .none] → Q (.ref x) { s with heap := h', toks := tk' }) :
      wpAny (model Challenge.rw_ok0140_01.row.prog w) (ktrTop dp un gd cn cs L a ccd cl outer) (call (.ref 51) [.str msg tm]) Q E s := by
  refine wpAny_call ?_
  refine exc_K (K := Mine.hd.heap_39 w.params) (fI := 35) F N (X.keeps F.keep) (excOwn51 _) (by k_is) (by k_is) (fun x tu h' F' N' l1 l2 => ?_) (Nat.le_of_ble_eq_true rfl)
  refine press (s := { s with heap := h' }) B F' X N' T hk (fun p hp => Nat.ne_of_lt (Nat.lt_trans (l1 p hp) l2)) (fun p hp => Nat.ne_of_lt (l1 p hp)) (Nat.ne_of_lt l2) hdp hun ?_
  exact fun o' tp h2 tk2 F2 N2 c2 d2 => ⟨rfl, hret x o' tp h2 tk2 F2 N2 (fun p hp => Nat.ne_of_lt (Nat.lt_trans (l1 p hp) l2)) c2 d2⟩
end
end
end Mine
-- LX3
namespace Mine
section

theorem lia_LX3 : True := by
  k_with_none
  k_with "my omega" => ((fail_if_success (fail_if_success omega (config := {}))); lia)
  trivial
section
variable {M : Model} {A : Around} {E : Value → Shared → Prop} {s : Shared} {Q : Flow → Shared → Prop} {env : Env} {K : Frag} {h₀ : Heap} {L C e : Addr} {m : Str → Option Value} {news : List (Addr × Obj)}
theorem raise_split {x : Sem Value} (h : wpAny M A x (fun v s₁ => wpAny M A (raiseStmt env (some (pure v)) none) Q E s₁) E s) : wpAny M A (raiseStmt env (some x) none) Q E s := by
  unfold raiseStmt at h ⊢
  exact wpAny_bind h
theorem exec_raise {e₀ : Expr} {pos : Pos} (h : wpAny M A (eval e₀ env) (fun v s₁ => wpAny M A (raiseStmt env (some (pure v)) none) Q E s₁) E s) : wpAny M A (exec (.Raise (some e₀) none pos) env) Q E s := by
  rw [arm_exec_Raise]
  refine wpAny_bind (wpAny_standAt ?_)
  show wpAny M A (raiseStmt env (some (do let v ← eval e₀ env; standAt pos; pure v)) none) Q E s
  refine raise_split (wpAny_bind (wpAny_mono h (fun v s₁ h₁ => ?_) fun _ _ x => x))
  exact wpAny_bind (wpAny_standAt (wpAny_pure h₁))
theorem raise_go {o' : Obj} {tp : Value} (F : Fr h₀ L s.heap m) (X₀ : K.In h₀) (N : News h₀ L s.heap news) (hin : (e, o') ∈ news) (hm : excOwnIn K C = true) (c : o'.cls = .ref C) (d : o'.data = .fields #[tp, .none, .none, .none, .bool false, .none])
    (hh : A.handled = none) (h : E (.ref e) s) : wpAny M A (raiseStmt env (some (pure (.ref e))) none) Q E s := by
  have X := X₀.keeps F.keep
  obtain ⟨hp, g, dr, tk, os⟩ := s
  obtain ⟨nm, q, N', bs, bm, hdct, sn, sub, ab, col, dd, k0, k1, k2, k3, k5, hC, h1, h2, h3, h4⟩ := excOwn_of X hm
  have he := (N _ hin).1
  obtain ⟨oc, od, oda, osl⟩ := o'
  dsimp only at c d
  subst c d
  have hcB : (Value.ref C :: bm).contains (.type "BaseException") = true := by rw [List.contains_cons, h2, Bool.or_true]
  unfold raiseStmt
  refine wpAny_bind (wpAny_pure ?_)
  repeat (first | with_reducible refine wpAny_loadPart_at he ?_ | with_reducible refine wpAny_loadPart_at hC ?_ | (with_reducible refine wpAny_isSubtype_exc hC ?_; rw [hcB]) | wp_step)
  exact wpAny_raiseNew_none hh h
end
noncomputable def ExcObj (C : Addr) (o' : Obj) : Prop := o'.cls = .ref C ∧ ∃ tp, o'.data = .fields #[tp, .none, .none, .none, .bool false, .none]
section
variable {M : Model} {A : Around} {E : Value → Shared → Prop} {s' : Shared} {base g g₂ h : Heap} {outer : List Env} {L a e t : Addr} {m : Str → Option Value} {name : Str} {scope : Scope} {cd : Value} {Q : Unit → Shared → Prop} {news : List (Addr × Obj)}
theorem leave_own {o' : Obj} {C : Addr} (K : Below A base outer g) (F : Fr g L s'.heap m) (N : News g L s'.heap ((e, o') :: news)) (hd : ExcObj C o') (hne : ∀ p ∈ news, p.1 ≠ e)
    (hQ : ∀ h', RaisedN base outer e (.ref C) news h' → g.UpToSlots h' → Q () { s' with heap := h' }) (hk : scope.kind = .function := by rfl) :
    wpAny M (A.deeper (envOf name scope L a cd)) (leaving (envOf name scope L a cd) (.ref e)) Q E s' := by
  have K' := K.push (name := name) (a := a) (cd := cd) F hk
  have hin : ∀ env ∈ (envOf name scope L a cd :: outer), ∀ b, env.frame = some b → b ∈ (envOf name scope L a cd :: outer).filterMap (·.frame) := fun env he b hb => List.mem_filterMap.mpr ⟨env, he, hb⟩
  have nb : ∀ b, g.get? b = none → b ≠ L → b ∉ (envOf name scope L a cd :: outer).filterMap (·.frame) := fun b hb hL hm => by
    obtain ⟨env, he, hf⟩ := List.mem_filterMap.mp hm
    rcases List.mem_cons.mp he with rfl | he
    · exact hL (Option.some.inj hf).symm
    · obtain ⟨o, ho, _⟩ := (K.frames.mem (List.mem_filterMap.mpr ⟨env, he, hf⟩)).2
      rw [ho] at hb; cases hb
  obtain ⟨hcls, tp, hdat⟩ := hd
  have he := N _ (.head _)
  have hidden : ∀ b o, (hideAll s'.heap (e :: (envOf name scope L a cd :: outer).filterMap (·.frame))).get? b = some o → s'.heap.get? b = some o := fun b o q => of_hideAll _ q
  have st : base.StaysIn (hideAll s'.heap (e :: (envOf name scope L a cd :: outer).filterMap (·.frame))) := fun b o q => hideAll_get _ (K'.stays b o q) fun hm => by
    rcases List.mem_cons.mp hm with rfl | hm
    · rw [fresh_of_stays K.stays he.2.2] at q; cases q
    · rw [(K'.frames.mem hm).1] at q; cases q
  have hl : ∀ q ∈ news, (hideAll s'.heap (e :: (envOf name scope L a cd :: outer).filterMap (·.frame))).get? q.1 = some q.2 ∧ base.get? q.1 = none := fun q hq => by
    have nq := N q (.tail _ hq)
    refine ⟨hideAll_get _ nq.1 fun hm => ?_, fresh_of_stays K.stays nq.2.2⟩
    rcases List.mem_cons.mp hm with z | hm
    · exact hne q hq z
    · exact nb _ nq.2.2 nq.2.1 hm
  have hen : (hideAll s'.heap (e :: (envOf name scope L a cd :: outer).filterMap (·.frame))).get? e = none := hideAll_none _ (.head _)
  have ff := funFrames_hide (as := e :: (envOf name scope L a cd :: outer).filterMap (·.frame)) K'.frames fun env he b hb => List.mem_cons_of_mem _ (hin env he b hb)
  refine wpAny_leaving_firstW (a0 := tp) K'.stack ff rfl he.1 hidden hen hdat rfl rfl fun h' hL => ?_
  obtain ⟨k1, ⟨_, _, k2⟩, k3, k4⟩ := hL
  exact hQ h' ⟨_, tp, st, hl, k1, hen, k2, by rw [← hcls]; exact k3⟩ ((Heap.UpToSlots.of_keeps F.keep).trans k4)
theorem RaisedN.mono {cls : Value} {news' : List (Addr × Obj)} {l : List Env} (R : RaisedN base l e cls news h) (hs : ∀ p ∈ news', p ∈ news) : RaisedN base l e cls news' h := by
  obtain ⟨B, a0, h1, h2, h3⟩ := R
  exact ⟨B, a0, h1, fun q hq => h2 q (hs q hq), h3⟩
end
end
end Mine
-- L6
namespace Mine
section

end
end Mine
local macro_rules | `(tactic| walk_at "my t5") => `(tactic| (intro x9 o9 tp9 h9 tk9 F9 N9 n9 c9 d9; (try dsimp only); (try k_fold)))
local macro_rules | `(tactic| walk_at "my t6") => `(tactic| (intro h' M' t' k' F' N' a'))
namespace Mine
section

section told
structure MS where
  so : Obj
  n : Nat
theorem take_in {ks : List Int} {i : Nat} {k : Int} (h : ks[i]? = some k) : (fun k' => decide (k' ∈ ks.take i) || decide (k' = k)) = fun k' => decide (k' ∈ ks.take (i + 1)) := by
  funext k'
  rw [List.take_succ, h]
  simp [Bool.decide_or]
theorem set_zero {ks : List Int} : (fun _ : Int => false) = fun k' => decide (k' ∈ ks.take 0) := by funext; simp
theorem take_dup {ks : List Int} {i : Nat} {k : Int} (h : ks[i]? = some k) (hm : k ∈ ks.take i) : ¬ ks.Nodup := fun hn => by
  obtain ⟨hlt, rfl⟩ := List.getElem?_eq_some_iff.mp h
  obtain ⟨j, hj, e⟩ := List.getElem_of_mem hm
  rw [List.length_take] at hj
  rw [List.getElem_take] at e
  exact (List.pairwise_iff_getElem.mp hn) j i (by omega) hlt (by omega) e
theorem take_nodup {ks : List Int} {i : Nat} {k : Int} (h : ks[i]? = some k) (hn : (ks.take i).Nodup) (hm : k ∉ ks.take i) : (ks.take (i + 1)).Nodup := by
  rw [List.take_succ, h]
  simp only [Option.toList_some]
  rw [List.nodup_append]
  refine ⟨hn, by simp, ?_⟩
  intro a ha b hb
  rw [List.mem_singleton.mp hb]
  exact fun e => hm (e ▸ ha)
noncomputable def MFacts (w : World) (ks : List Int) (i : Nat) (c : MS) : Prop := c.so.SetObjOf (intKind Challenge.rw_ok0140_01.row.prog w) (fun k' => decide (k' ∈ ks.take i)) c.n ∧ c.n ≤ i ∧ (ks.take i).Nodup
theorem told_core {w : World} {mean : ExcName → Option Value} {mg mb : Str → Option Value} {news : List (Addr × Obj)} {tu : Addr} {cvs : List Value} {cs9 : List Int} {b9 : Array UInt8} {t9 : Tok} {ks : List Int}
   {dp un : Nat} {gd : Option (List Code)} {cn : Str} {cs : Scope} {a : Addr} {ccd : Value} {cl : List (Str × Addr)} {outer : List Env} {A₀ : Around} {base h₀ : Heap} {L : Addr} {m : Str → Option Value} {s : Shared} {Q E : Value → Shared → Prop}
    (B : Below A₀ base outer h₀) (F : Fr h₀ L s.heap m) (X : (Mine.hd.heap_39 w.params).In h₀) (N : News h₀ L s.heap ((tu, tupO cvs) :: news)) (T : Top Mine.hd.view_39 (looseW Mine.hd.view_39 []) mean mg mb h₀)
    (hk : cs.kind = .function) (hne : ∀ p ∈ news, p.1 ≠ tu) (hi : IntsAre cvs cs9) (hl : cs9.length = 16) (hpos : ∀ c ∈ cs9, 0 ≤ c) (hb : KBw.bInts b9 = ks) (hsum : cs9.sum = ks.length) (hks : ks.length < 100)
    (hdp : dp + 4 < recursionLimit) (hun : un + 30 < cLine) 
    (hret : ∀ (h' : Heap) (tk' : Nat), ks.Nodup → Fr h₀ L h' m → News h₀ L h' ((tu, tupO cvs) :: news) → Q .none { s with heap := h', toks := tk' }) 
    (hraise : ∀ (e : Addr) (g₂ h' : Heap) (tk' : Nat), ¬ ks.Nodup → Fr h₀ L g₂ m → RaisedN base (envX cn cs L a ccd cl :: outer) e (.ref 51) ((tu, tupO cvs) :: news) h' → g₂.UpToSlots h' → E (.ref e) { s with heap := h', toks := tk' }) :
      wpAny (model Challenge.rw_ok0140_01.row.prog w) (ktrTop dp un gd cn cs L a ccd cl outer) (call (.ref 91) [.ref tu, .bytes b9 t9]) Q E s := by
  k_with_none
  k_with "my lt" => first | assumption | exact And.left (by assumption) | exact And.left (And.right (by assumption)) | exact And.right (by assumption) | exact And.left (And.right (And.right (by assumption))) | exact And.right (And.right (by assumption)) | exact And.left (And.right (And.right (And.right (by assumption)))) | exact And.right (And.right (And.right (by assumption))) | exact And.left (And.right (And.right (And.right (And.right (by assumption))))) | exact And.right (And.right (And.right (And.right (by assumption)))) | exact And.left (And.right (And.right (And.right (And.right (And.right (by assumption)))))) | exact And.right (And.right (And.right (And.right (And.right (by assumption))))) | exact And.left (And.right (And.right (And.right (And.right (And.right (And.right (by assumption))))))) | exact And.right (And.right (And.right (And.right (And.right (And.right (by assumption)))))) | exact And.left (And.right (And.right (And.right (And.right (And.right (And.right (And.right (by assumption)))))))) | exact And.right (And.right (And.right (And.right (And.right (And.right (And.right (by assumption))))))) | exact And.left (And.right (And.right (And.right (And.right (And.right (And.right (And.right (And.right (by assumption))))))))) | exact And.right (And.right (And.right (And.right (And.right (And.right (And.right (And.right (by assumption)))))))) | fail
  k_with "my kne" => first | assumption | (refine Ne.symm ?_; assumption) | (refine neN ?_; (try dsimp only); first | (refine Nat.ne_of_lt ?_; k_extra "my lt") | (refine Nat.ne_of_gt ?_; k_extra "my lt") | omega) | fail
  k_with "my room" => first | exact upR 0 (by assumption) rfl | exact upR 1 (by assumption) rfl | exact upR 2 (by assumption) rfl | exact upR 3 (by assumption) rfl | exact upR 4 (by assumption) rfl | exact upR 5 (by assumption) rfl | exact upR 6 (by assumption) rfl | exact upR 7 (by assumption) rfl | exact upR 8 (by assumption) rfl | fail
  k_with "my units" => first | exact upR 0 (by assumption) rfl | exact upR 1 (by assumption) rfl | exact upR 2 (by assumption) rfl | exact upR 3 (by assumption) rfl | exact upR 4 (by assumption) rfl | exact upR 5 (by assumption) rfl | exact upR 6 (by assumption) rfl | exact upR 7 (by assumption) rfl | exact upR 8 (by assumption) rfl | exact upR 9 (by assumption) rfl | exact upR 10 (by assumption) rfl | exact upR 11 (by assumption) rfl | exact upR 12 (by assumption) rfl | fail
  k_with "my sub" => first | exact List.forall_mem_nil _ | assumption | exact List.forall_mem_cons.mpr ⟨(by k_mem), (by k_extra "my sub")⟩ | (intro p9 hp9; repeat (first | exact hp9 | refine List.Mem.tail _ ?_))
  k_with "my ne" => first | exact List.forall_mem_nil _ | assumption | exact List.forall_mem_cons.mpr ⟨(by first | assumption | k_ne), (by k_extra "my ne")⟩
  k_with "my subA" => (intro p9 hp9; repeat' (first | exact hp9 | exact List.mem_append_left _ hp9 | exact List.mem_append_right _ hp9 | refine List.Mem.tail _ ?_))
  k_with "my memB" => first | assumption | exact List.Mem.head _ | (refine List.Mem.tail _ ?_; k_extra "my memB") | (refine List.mem_append_left _ ?_; k_extra "my memB") | (refine List.mem_append_right _ ?_; k_extra "my memB")
  k_with "my leafB" => first | assumption | (refine List.Mem.tail _ ?_; k_extra "my leafB") | (refine List.mem_append_left _ ?_; k_extra "my leafB") | (refine List.mem_append_right _ ?_; k_extra "my leafB")
  k_with "my subB" => first | exact List.forall_mem_nil _ | exact List.forall_mem_cons.mpr ⟨(by k_extra "my memB"), (by k_extra "my subB")⟩ | exact List.forall_mem_append.mpr ⟨(by k_extra "my subB"), (by k_extra "my subB")⟩ | (intro p9 hp9; k_extra "my leafB")
  k_with "pyIter" => (refine halt ?_)
  k_with "pyIter bytes" => (refine halt ?_)
  k_with "execs cons" => (k_here; dsimp only; k_gentoks)
  k_with "execs nil" => (k_here; dsimp only; k_gentoks)
  k_with "exec Raise some none" => (k_here; refine exec_raise ?_)
  k_with "call ref" => (k_here; k_dflt (refine' table_c (by k_asm) (by k_asm) (by k_asm) (by k_asm) (by k_asm) (by first | exact rfl | assumption) (by ktr_room) (by ktr_units) ?_); walk_at "my t5")
  k_with "call builtin:len" => (k_here; k_dflt (refine' ktm_lenK (k := 16) (by k_asm) (by k_mem) (by omega) (by omega) ?_; k_whole))
  k_with "call builtin:min" => (k_here; (with_unfolding_all refine' min_tup (by with_unfolding_all rfl) (by k_asm) (by k_asm) (by k_mem) (by assumption) (by omega) ?_; k_whole); walk_at "my t6")
  k_with "my omega" => ((fail_if_success (fail_if_success omega (config := {}))); lia)
  have hvl : cvs.length = 16 := by rw [hi.length]; exact hl
  refine wpAny_call ?_
  k_dflt cell_enter
  k_steps
  · exact absurd (hpos _ (by assumption)) (by omega)
  · exact absurd hsum (by assumption)
  rename_i tk0 d h1 led hs1 hs2 l1 h2 F2 N2
  refine Halt.go ?_
  refine' bytes_S (σ := MS) (fun _ c => (d, c.so) :: (tu, tupO cvs) :: news) (fun _ _ => []) (MFacts w ks) [Str.ofString "symbol"] ⟨_, 0⟩ hb rfl F2 (cb_drop N2 (by k_extra "my sub")) ⟨set_zero ▸ hs1, Nat.le_refl _, List.nodup_nil⟩ (List.forall_mem_nil _) ?_ ?_
  · clear F2 N2
    intro i k t c u I io h tk' hik hf hI F3 N3
    obtain ⟨hso, hn, hnd⟩ := hf
    have hilt : i < ks.length := (List.getElem?_eq_some_iff.mp hik).1
    simp only [List.forall_mem_cons] at hI
    obtain ⟨hI1, hI2, hI3⟩ := hI
    replace hI1 := neN hI1; replace hI2 := neN hI2
    k_steps
    · try (walk_at "call ref"; k_steps)
      rename_i n9 c9 d9
      refine raise_go (by assumption) (K := Mine.hd.heap_39 w.params) (by assumption) (by assumption) (.head _) (excOwn51 _) c9 d9 rfl ?_
      k_whole
      refine leave_own (by assumption) (by assumption) (by assumption) ⟨c9, _, d9⟩ n9 ?_
      intro h8 R8 U8
      exact hraise _ _ _ _ (take_dup hik (by assumption)) (by assumption) (RaisedN.mono R8 (by k_extra "my sub")) U8
    · rename_i nm9 tk3 h3 o3 F4 N4 hs4
      refine' TurnPost.next ?F1 (cb_drop ?N1 ?sub1) ?hI1 ?J1
      case F1 => assumption
      case' J1 => refine' ⟨⟨o3, c.n + 1⟩, rfl, ⟨?hf1, by show c.n + 1 ≤ i + 1; omega, take_nodup hik hnd nm9⟩, List.forall_mem_nil _, fun z hz => ?fr1⟩
      case' hf1 => (rw [take_in hik, if_neg (by simpa using nm9)] at hs4; exact hs4)
      case N1 => assumption
      case sub1 => k_extra "my sub"
      case hI1 => k_extra "my ne"
      case fr1 =>
        dsimp only
        (repeat' (with_reducible (refine off_if (ne_of_stored hz ?_) ?_)))
        all_goals first | rfl | exact mkFr_off hz rfl rfl rfl
  · clear F2 N2
    intro c u h tk' hf F3 N3
    obtain ⟨hso, hn, hnd⟩ := hf
    k_steps
    rw [List.take_length] at hnd
    exact hret _ _ hnd (by assumption) (cb_drop (by assumption) (by k_extra "my sub"))
end told
end
end Mine
-- L7
namespace Mine
section

noncomputable def codeAt (cs : List Int) : Nat → Int
  | 0 => 0
  | i + 1 => (codeAt cs i + cs.getD i 0) * 2
noncomputable def placeAt (cs : List Int) (i : Nat) : Int := (cs.take i).sum
noncomputable def OkRow (cs : List Int) (i : Nat) : Prop := ¬ (codeAt cs i + cs.getD i 0 ≥ 2 ^ (i + 1) ∧ cs.getD i 0 > 0)
structure RS where
  vs : List Value
  n : Nat
  fz : List (Addr × Obj)
  tc : Tok
  tp : Tok
noncomputable def RowObj (cs : List Int) (j : Nat) (o : Obj) : Prop := ∃ t1 t2 t3, o = tupO [.int (codeAt cs j) t1, .int (cs.getD j 0) t2, .int (placeAt cs j) t3]
noncomputable def RowsAt (cs : List Int) (i : Nat) (vs : List Value) (fz : List (Addr × Obj)) : Prop := vs.length = i ∧ ∀ j, j < i → ∃ a o, vs[j]? = some (.ref a) ∧ (a, o) ∈ fz ∧ RowObj cs j o
noncomputable def RFacts (cs : List Int) (rw9 : Addr) (old : List (Addr × Obj)) (i : Nat) (c : RS) : Prop :=
  RowsAt cs i c.vs c.fz ∧ (∀ j, j < i → OkRow cs j) ∧ (∀ p ∈ c.fz, rw9 < p.1 ∧ AllLt p.1 old) ∧ 0 ≤ codeAt cs i ∧ codeAt cs i ≤ 2 ^ (i + 1)
theorem mulC {x k : Int} {i : Nat} (h0 : 0 ≤ x) (h1 : x ≤ 2 ^ (i + 1)) (hi : i < 16) : PySem.IntMulOk x k := by
  have : (2 : Int) ^ (i + 1) ≤ 2 ^ 16 := by exact_mod_cast Nat.pow_le_pow_right (by omega) (by omega)
  exact PySem.IntMulOk.of_left (PySem.intBits_le_64 (by omega) (by omega))
theorem rf_zero {cs : List Int} {rl : Addr} {old : List (Addr × Obj)} {n : Nat} {tc tp : Tok} : RFacts cs rl old 0 ⟨[], n, [], tc, tp⟩ :=
  ⟨⟨rfl, fun j hj => absurd hj (Nat.not_lt_zero _)⟩, fun j hj => absurd hj (Nat.not_lt_zero _), fun p hp => absurd hp (List.not_mem_nil), Int.le_refl _, by show (0 : Int) ≤ 2 ^ (0 + 1); decide⟩
theorem place_succ {cs : List Int} {i : Nat} (h : i < cs.length) : placeAt cs (i + 1) = placeAt cs i + cs.getD i 0 := by
  have e : cs.take (i + 1) = cs.take i ++ [cs[i]] := by simp
  unfold placeAt
  rw [e, List.sum_append, List.getD_eq_getElem?_getD, List.getElem?_eq_getElem h]
  simp
theorem rf_next {cs : List Int} {rl D : Addr} {old : List (Addr × Obj)} {i n' : Nat} {c : RS} {tc tp t1 t2 t3 : Tok} (h : RFacts cs rl old i c) (hl : i < cs.length) (hpos : ∀ x ∈ cs, 0 ≤ x) (hrl : rl < D) (hold : AllLt D old) (hok : OkRow cs i) :
    RFacts cs rl old (i + 1) ⟨c.vs.concat (.ref D), n', (D, tupO [.int (codeAt cs i) t1, .int (cs.getD i 0) t2, .int (placeAt cs i) t3]) :: c.fz, tc, tp⟩ := by
  obtain ⟨⟨hl0, hrow⟩, hoks, hab, h0, h1⟩ := h
  have hg : 0 ≤ cs.getD i 0 := hpos _ (getD_in9 hl)
  refine ⟨⟨by simp [hl0], fun j hj => ?_⟩, fun j hj => ?_, fun p hp => ?_, ?_, ?_⟩
  · by_cases e : j = i
    · subst e
      exact ⟨D, _, by rw [List.concat_eq_append, List.getElem?_append_right (by omega)]; simp [hl0], .head _, _, _, _, rfl⟩
    · obtain ⟨a, o, e1, e2, e3⟩ := hrow j (by omega)
      exact ⟨a, o, by rw [List.concat_eq_append, List.getElem?_append_left (by omega)]; exact e1, .tail _ e2, e3⟩
  · by_cases e : j = i
    · subst e; exact hok
    · exact hoks j (by omega)
  · rcases List.mem_cons.mp hp with rfl | hp
    · exact ⟨hrl, hold⟩
    · exact hab p hp
  · show 0 ≤ (codeAt cs i + cs.getD i 0) * 2
    omega
  · show (codeAt cs i + cs.getD i 0) * 2 ≤ 2 ^ (i + 1 + 1)
    have e : (2 : Int) ^ (i + 1 + 1) = 2 ^ (i + 1) * 2 := Int.pow_succ ..
    rw [e]
    by_cases hz : cs.getD i 0 > 0
    · have : ¬ (codeAt cs i + cs.getD i 0 ≥ 2 ^ (i + 1)) := fun q => hok ⟨q, hz⟩
      omega
    · omega
end
end Mine
local macro_rules | `(tactic| walk_at "my m7") => `(tactic| ((rename Fr _ _ _ _ => F'); (rename News _ _ _ _ => N'); (first | (with_unfolding_all refine range1_rows F' N' ?_; intro _ _ _ _ _ _ _ _ _) | (with_unfolding_all refine range2_rows F' N' ?_; intro _ _ _ _ _ _ _ _ _)); clear F' N'))
local macro_rules | `(tactic| walk_at "my t8") => `(tactic| (intro D' h' F' N' l1; (try k_lt l1); (try k_sweep)))
local macro_rules | `(tactic| walk_at "my t9") => `(tactic| (intro u9))
namespace Mine
section

section rows
local macro_rules | `(tactic| mul_fits) => `(tactic| first | exact mulC (by assumption) (by assumption) (by assumption))
theorem rows_core {w : World} {mean : ExcName → Option Value} {mg mb : Str → Option Value} {news : List (Addr × Obj)} {tu : Addr} {cvs : List Value} {cs9 : List Int}
   {dp un : Nat} {gd : Option (List Code)} {cn : Str} {cs : Scope} {a : Addr} {ccd : Value} {cl : List (Str × Addr)} {outer : List Env} {A₀ : Around} {base h₀ : Heap} {L : Addr} {m : Str → Option Value} {s : Shared} {Q E : Value → Shared → Prop}
    (B : Below A₀ base outer h₀) (F : Fr h₀ L s.heap m) (X : (Mine.hd.heap_39 w.params).In h₀) (N : News h₀ L s.heap ((tu, tupO cvs) :: news)) (T : Top Mine.hd.view_39 (looseW Mine.hd.view_39 []) mean mg mb h₀)
    (hk : cs.kind = .function) (hne : ∀ p ∈ news, p.1 ≠ tu) (hi : IntsAre cvs cs9) (hl : cs9.length = 16) (hpos : ∀ c ∈ cs9, 0 ≤ c)
    (hdp : dp + 4 < recursionLimit) (hun : un + 30 < cLine) 
    (hret : ∀ (rw9 : Addr) (vs : List Value) (n : Nat) (fz : List (Addr × Obj)) (h' : Heap) (tk' : Nat), (∀ j, j < 16 → OkRow cs9 j) → RowsAt cs9 16 vs fz → AllLt rw9 ((tu, tupO cvs) :: news) → (∀ p ∈ fz, rw9 < p.1 ∧ AllLt p.1 ((tu, tupO cvs) :: news)) →
       Fr h₀ L h' m → News h₀ L h' ((rw9, W.listOf vs.toArray n) :: (tu, tupO cvs) :: (fz ++ news)) → Q (.ref rw9) { s with heap := h', toks := tk' }) 
    (hraise : ∀ (e : Addr) (g₂ h' : Heap) (tk' : Nat), (∃ j, j < 16 ∧ ¬ OkRow cs9 j) → Fr h₀ L g₂ m → RaisedN base (envX cn cs L a ccd cl :: outer) e (.ref 51) ((tu, tupO cvs) :: news) h' → g₂.UpToSlots h' → E (.ref e) { s with heap := h', toks := tk' }) :
      wpAny (model Challenge.rw_ok0140_01.row.prog w) (ktrTop dp un gd cn cs L a ccd cl outer) (call (.ref 84) [.ref tu]) Q E s := by
  k_with_none
  k_with "my lt" => first | assumption | exact And.left (by assumption) | exact And.left (And.right (by assumption)) | exact And.right (by assumption) | exact And.left (And.right (And.right (by assumption))) | exact And.right (And.right (by assumption)) | exact And.left (And.right (And.right (And.right (by assumption)))) | exact And.right (And.right (And.right (by assumption))) | exact And.left (And.right (And.right (And.right (And.right (by assumption))))) | exact And.right (And.right (And.right (And.right (by assumption)))) | exact And.left (And.right (And.right (And.right (And.right (And.right (by assumption)))))) | exact And.right (And.right (And.right (And.right (And.right (by assumption))))) | exact And.left (And.right (And.right (And.right (And.right (And.right (And.right (by assumption))))))) | exact And.right (And.right (And.right (And.right (And.right (And.right (by assumption)))))) | exact And.left (And.right (And.right (And.right (And.right (And.right (And.right (And.right (by assumption)))))))) | exact And.right (And.right (And.right (And.right (And.right (And.right (And.right (by assumption))))))) | exact And.left (And.right (And.right (And.right (And.right (And.right (And.right (And.right (And.right (by assumption))))))))) | exact And.right (And.right (And.right (And.right (And.right (And.right (And.right (And.right (by assumption)))))))) | fail
  k_with "my kne" => first | assumption | (refine Ne.symm ?_; assumption) | (refine neN ?_; (try dsimp only); first | (refine Nat.ne_of_lt ?_; k_extra "my lt") | (refine Nat.ne_of_gt ?_; k_extra "my lt") | omega) | fail
  k_with "my room" => first | exact upR 0 (by assumption) rfl | exact upR 1 (by assumption) rfl | exact upR 2 (by assumption) rfl | exact upR 3 (by assumption) rfl | exact upR 4 (by assumption) rfl | exact upR 5 (by assumption) rfl | exact upR 6 (by assumption) rfl | exact upR 7 (by assumption) rfl | exact upR 8 (by assumption) rfl | fail
  k_with "my units" => first | exact upR 0 (by assumption) rfl | exact upR 1 (by assumption) rfl | exact upR 2 (by assumption) rfl | exact upR 3 (by assumption) rfl | exact upR 4 (by assumption) rfl | exact upR 5 (by assumption) rfl | exact upR 6 (by assumption) rfl | exact upR 7 (by assumption) rfl | exact upR 8 (by assumption) rfl | exact upR 9 (by assumption) rfl | exact upR 10 (by assumption) rfl | exact upR 11 (by assumption) rfl | exact upR 12 (by assumption) rfl | fail
  k_with "my sub" => first | exact List.forall_mem_nil _ | assumption | exact List.forall_mem_cons.mpr ⟨(by k_mem), (by k_extra "my sub")⟩ | (intro p9 hp9; repeat (first | exact hp9 | refine List.Mem.tail _ ?_))
  k_with "my ne" => first | exact List.forall_mem_nil _ | assumption | exact List.forall_mem_cons.mpr ⟨(by first | assumption | k_ne), (by k_extra "my ne")⟩
  k_with "my subA" => (intro p9 hp9; repeat' (first | exact hp9 | exact List.mem_append_left _ hp9 | exact List.mem_append_right _ hp9 | refine List.Mem.tail _ ?_))
  k_with "my memB" => first | assumption | exact List.Mem.head _ | (refine List.Mem.tail _ ?_; k_extra "my memB") | (refine List.mem_append_left _ ?_; k_extra "my memB") | (refine List.mem_append_right _ ?_; k_extra "my memB")
  k_with "my leafB" => first | assumption | (refine List.Mem.tail _ ?_; k_extra "my leafB") | (refine List.mem_append_left _ ?_; k_extra "my leafB") | (refine List.mem_append_right _ ?_; k_extra "my leafB")
  k_with "my subB" => first | exact List.forall_mem_nil _ | exact List.forall_mem_cons.mpr ⟨(by k_extra "my memB"), (by k_extra "my subB")⟩ | exact List.forall_mem_append.mpr ⟨(by k_extra "my subB"), (by k_extra "my subB")⟩ | (intro p9 hp9; k_extra "my leafB")
  k_with "pyIter ref" => (refine halt ?_)
  k_with "execs cons" => (k_here; dsimp only; k_gentoks)
  k_with "execs nil" => (k_here; dsimp only; k_gentoks)
  k_with "exec Raise some none" => (k_here; refine exec_raise ?_)
  k_with "call ref" => (k_here; k_dflt (refine' table_c (by k_asm) (by k_asm) (by k_asm) (by k_asm) (by k_asm) (by first | exact rfl | assumption) (by ktr_room) (by ktr_units) ?_); walk_at "my t5")
  k_with "call builtin:len" => (k_here; k_dflt (refine' ktm_lenK (k := 16) (by k_asm) (by k_mem) (by omega) (by omega) ?_; k_whole))
  k_with "call type:range" => walk_at "my m7"
  k_with "newTuple" => (k_here; k_dflt (refine' kup_newTuple (by k_asm) (by k_asm) ?_ (by kmk_size)); walk_at "my t8")
  k_with "subscriptTail" => (k_here; (with_reducible show wpAny _ _ (subscriptTail _ _ (Value.ref _) (Value.int _ _)) _ _ _); (with_unfolding_all refine' tup_ints (by exact News.isTup (by k_asm) (by k_mem)) (by assumption) (by omega) (by omega) (by omega) ?_); walk_at "my t9")
  k_with "my omega" => ((fail_if_success (fail_if_success omega (config := {}))); lia)
  have hvl : cvs.length = 16 := by rw [hi.length]; exact hl
  refine wpAny_call ?_
  k_dflt cell_enter
  k_steps
  rename_i tkA rl h6 l1 h5 tkB D0 h4 l2 h3 h2 h1 h0 tkC t1 u1 v1 R2 F2 N2 hk2
  refine Halt.go ?_
  clear hk2
  refine' range_S (σ := RS) (n := 16) (fun _ c => (rl, W.listOf c.vs.toArray c.n) :: (tu, tupO cvs) :: (c.fz ++ news)) (fun i c => [(Str.ofString "code", .int (codeAt cs9 i) c.tc), (Str.ofString "place", .int (placeAt cs9 i) c.tp)]) (RFacts cs9 rl ((tu, tupO cvs) :: news))
    [Str.ofString "size", Str.ofString "many", Str.ofString "code", Str.ofString "place"] ⟨[], _, [], _, _⟩ rfl R2 (by decide) (by rfl) F2 (cb_drop N2 (by k_extra "my sub")) rf_zero (List.forall_mem_cons.mpr ⟨rfl, List.forall_mem_singleton.mpr rfl⟩) ?_ ?_
  · clear R2 F2 N2
    intro i c t u I io h tk' hi9 hf hI F3 N3
    have hf0 := hf
    obtain ⟨⟨hvl2, hrow⟩, hok, hab, hc0, hc1⟩ := hf
    simp only [List.forall_mem_cons] at hI
    obtain ⟨hI1, hI2, hI3⟩ := hI
    replace hI1 := neN hI1; replace hI2 := neN hI2
    have hrn : ∀ p ∈ c.fz ++ news, p.1 ≠ rl := fun p hp => by
      rcases List.mem_append.mp hp with hp | hp
      · exact Nat.ne_of_gt (hab p hp).1
      · exact Nat.ne_of_lt (allLt_iff.mp l1.2 p hp)
    have htn : ∀ p ∈ c.fz ++ news, p.1 ≠ tu := fun p hp => by
      rcases List.mem_append.mp hp with hp | hp
      · exact Nat.ne_of_gt (hab p hp).2.1
      · exact hne p hp
    have hlr := l1.1
    obtain ⟨tl, etl⟩ : ∃ tl, tl = c.fz ++ news := ⟨_, rfl⟩
    rw [← etl] at N3 hI3 hrn htn
    have hcode : ((cs9.getD (1 + (i : Int) - 1).toNat 0)) = cs9.getD i 0 := by congr 1; omega
    have hpow : (1 + (i : Int)).toNat = i + 1 := by omega
    have hps := place_succ (cs := cs9) (i := i) (by omega)
    k_steps
    · rename_i u9 hb1 tkb1 D hb2 l3 hb3 tkb2 hb4 tkb3 hb5 tkb4 F5 N5 tkb5 p1 p2 x9 o9 tp9 h9 tk9 F9 N9 n9 c9 d9
      rw [hcode, hpow] at p1
      rw [hcode] at p2
      refine raise_go F9 (K := Mine.hd.heap_39 w.params) (by assumption) N9 (.head _) (excOwn51 _) c9 d9 rfl ?_
      k_whole
      refine leave_own (by assumption) F9 N9 ⟨c9, _, d9⟩ n9 ?_
      intro h8 R8 U8
      refine hraise _ _ _ _ ⟨i, hi9, fun q => q ⟨p1, p2⟩⟩ (by assumption) (RaisedN.mono R8 ?_) U8
      intro p hp
      rcases List.mem_cons.mp hp with rfl | hp
      · exact .tail _ (.tail _ (.tail _ (.head _)))
      · exact .tail _ (.tail _ (.tail _ (.tail _ (etl ▸ List.mem_append_right _ hp))))
    · rename_i u9 hb1 tkb1 D hb2 l3 hb3 tkb2 hb4 tkb3 hb5 tkb4 p1 p2 tkb5 h6 F5 N5
      rw [hcode] at p1
      rw [hpow] at p1
      simp only [hcode, ← hps] at F5 N5
      refine' TurnPost.next ?F1 (cb_drop ?N1 ?sub1) ?hI1 ?J1
      case F1 => exact F5
      case' J1 => refine' ⟨⟨c.vs.concat (.ref D), _, (D, _) :: c.fz, _, _⟩, rfl, rf_next hf0 (by omega) hpos l3.2.1 ⟨l3.2.2.1, ?old⟩ ?okr, List.forall_mem_cons.mpr ⟨rfl, List.forall_mem_singleton.mpr rfl⟩, fun z hz => ?fr1⟩
      case old => exact allLt_iff.mpr fun p hp => allLt_iff.mp l3.2.2.2 p (etl ▸ List.mem_append_right _ hp)
      case okr => exact fun q => p2 (by rw [hcode]; exact q.2)
      case N1 => exact N5
      case sub1 =>
        dsimp only [List.cons_append]
        rw [← etl]
        k_extra "my sub"
      case hI1 =>
        dsimp only [List.cons_append]
        rw [← etl]
        have hDI : D ≠ I := Nat.ne_of_gt l3.1
        k_extra "my ne"
      case fr1 =>
        dsimp only
        (repeat' (with_reducible (refine off_if (ne_of_stored hz ?_) ?_)))
        all_goals first | rfl | exact mkFr_off hz rfl rfl rfl
    · rename_i u9 hb1 tkb1 D hb2 l3 hb3 tkb2 hb4 tkb3 hb5 tkb4 p1 tkb5 h6 F5 N5
      rw [hcode] at p1
      rw [hpow] at p1
      simp only [hcode, ← hps] at F5 N5
      refine' TurnPost.next ?F1b (cb_drop ?N1b ?sub1b) ?hI1b ?J1b
      case F1b => exact F5
      case' J1b => refine' ⟨⟨c.vs.concat (.ref D), _, (D, _) :: c.fz, _, _⟩, rfl, rf_next hf0 (by omega) hpos l3.2.1 ⟨l3.2.2.1, ?oldb⟩ ?okrb, List.forall_mem_cons.mpr ⟨rfl, List.forall_mem_singleton.mpr rfl⟩, fun z hz => ?fr1b⟩
      case oldb => exact allLt_iff.mpr fun p hp => allLt_iff.mp l3.2.2.2 p (etl ▸ List.mem_append_right _ hp)
      case okrb => exact fun q => p1 q.1
      case N1b => exact N5
      case sub1b =>
        dsimp only [List.cons_append]
        rw [← etl]
        k_extra "my sub"
      case hI1b =>
        dsimp only [List.cons_append]
        rw [← etl]
        have hDI : D ≠ I := Nat.ne_of_gt l3.1
        k_extra "my ne"
      case fr1b =>
        dsimp only
        (repeat' (with_reducible (refine off_if (ne_of_stored hz ?_) ?_)))
        all_goals first | rfl | exact mkFr_off hz rfl rfl rfl
  · clear R2 F2 N2
    intro c u h tk' hf F3 N3
    obtain ⟨⟨hvl2, hrow⟩, hok, hab, hc0, hc1⟩ := hf
    k_steps
    exact hret rl c.vs c.n c.fz _ _ hok ⟨hvl2, hrow⟩ ⟨l1.1, l1.2⟩ hab (by assumption) (by assumption)
end rows
end
end Mine
-- LB4
namespace Mine
section
open AutoSeq1 (wpAny_loadPart')
theorem lia_LB4 : True := by
  k_with_none
  k_with "my omega" => ((fail_if_success (fail_if_success omega (config := {}))); lia)
  trivial
theorem bytes_len : typeLookup (.type "bytes") "__len__" = pure (some (.builtin "bytes.__len__")) := by rw [typeLookup_type, builtinLookup_eq_fast]; kernel_rfl
section
variable {prog : Program} {w : World} {A : Around} {E : Value → Shared → Prop} {s : Shared}
noncomputable def ByteAt (b : Array UInt8) (i : Nat) (v : Value) : Prop := ∃ c u, b[i]? = some c ∧ v = .int (c.toNat : Int) u
theorem collect_bytes {Q : List Value → Shared → Prop} (hh : A.handled = none) (b : Array UInt8) (t : Tok) (hn : b.size ≤ sizeLine)
    (hQ : ∀ s' acc, (∀ b o, s.heap.get? b = some o → s'.heap.get? b = some o) → s'.gens = s.gens → s'.drawn = s.drawn → s'.os = s.os → ItemsOf (ByteAt b) acc b.size → Q acc.toList s') :
    wpAny (model prog w) A (collect (.bytes b t)) Q E s := by
  unfold collect
  refine wpAny_bind (wpAny_runValue (codeAny_builtin F.entry_proto_collect ?_))
  rw [Around.under_plainId F.plain_proto_collect _]
  show wpAny _ A.in1 (newList [] >>= fun l => again (.builtin "list.__iadd__" ⟨[l, .bytes b t], []⟩)) _ _ s
  refine wpAny_bind (wpAny_newObj_type ?_)
  refine wpAny_pure ⟨plainId_quiet F.plain_list_iadd _, codeAny_builtin F.entry_list_iadd ?_⟩
  rw [Around.under_plainId F.plain_list_iadd _]
  show wpAny _ A.in1 (Builtin.List.listExtendWith (.ref s.heap.objs.size) (.bytes b t) (.ref s.heap.objs.size)) _ _ _
  unfold Builtin.List.listExtendWith
  refine wpAny_bind (wpAny_typeOf (T := "bytes") (v := .bytes b t) rfl ?_)
  have h1 : Builtin.List.listSameRef (.ref s.heap.objs.size) (.bytes b t) = false := rfl
  have h2 : (Value.type "bytes" == Value.type "list") = false := by decide
  have h3 : (Value.type "bytes" == Value.type "tuple") = false := by decide
  simp only [h1, h2, h3, Bool.or_false, Bool.false_eq_true, if_false]
  refine wpAny_bind (KBw.pyIter_bytes ?_)
  refine wpAny_bind (wpAny_holding ?_)
  unfold Builtin.List.listLengthHint
  refine wpAny_bind (wpAny_specialOf (T := "bytes") (v := .bytes b t) rfl bytes_len ?_)
  wp_delta
  refine wpAny_bind (wpAny_isInstance (T := "bytes") (v := .bytes b t) (b := true) rfl (by rw [isSubtype_type]; kernel_rfl) ?_)
  show wpAny _ A.in1 (typeOf (Value.bytes b t) >>= _) _ _ _
  refine wpAny_bind (wpAny_typeOf (T := "bytes") (v := .bytes b t) rfl ?_)
  refine wpAny_pure ?_
  rw [if_neg (by decide)]
  generalize hH : s.heap.push { cls := .type "list", data := .seq ([] : List Value).toArray } = H
  have hHs : H.objs.size = s.heap.objs.size + 1 := by rw [← hH, Heap.size_push]
  have hSf : s.heap.objs.size ∉ [H.objs.size] := fun hm => by rw [List.mem_singleton.mp hm] at hHs; exact absurd hHs (Nat.ne_of_lt (Nat.lt_succ_self _))
  have hS : (H.push { cls := .type "bytes_iterator", data := .fields #[.bytes b t, .int 0 0] }).get? s.heap.objs.size = some { cls := .type "list", data := .seq ([] : List Value).toArray } := Heap.get?_push_of_some _ (hH ▸ Heap.get?_push_size _ rfl)
  have W := (KBw.walks (prog := prog) (w := w) (A := A.in1) hh H.objs.size b t).toS
  have hst : KBw.IsBytesIter (H.push { cls := .type "bytes_iterator", data := .fields #[.bytes b t, .int 0 0] }) H.objs.size b t 0 := ⟨_, Heap.get?_push_size _ rfl, rfl, rfl⟩
  refine wpAny_pure ⟨plainId_quiet F.plain_extend_loop _, codeAny_extend_loopS W hn _ hSf _ b.size 0 _ _ _ rfl (Nat.zero_le _) hst hS (ItemsOf.nil _) fun s' acc' c' hm hS' hacc => ?_⟩
  show wpAny _ A (load s.heap.objs.size >>= _) _ _ s'
  refine wpAny_bind (wpAny_load hS' ?_)
  refine wpAny_pure (hQ s' acc' (fun b ob e => hm.heap b ob (fun hb => ?_) (Heap.get?_push_of_some _ (hH ▸ Heap.get?_push_of_some _ e))) hm.gens hm.drawn hm.os hacc)
  have hlt := Heap.lt_size e
  have hb' : b = s.heap.objs.size ∨ b = H.objs.size := by simpa using hb
  rcases hb' with hb' | hb'
  · exact absurd hlt (hb' ▸ Nat.lt_irrefl _)
  · rw [hb', hHs] at hlt; exact absurd hlt (Nat.not_lt.mpr (Nat.le_succ _))
theorem ints_of_get : ∀ {vs : List Value} {ns : List Int}, vs.length = ns.length → (∀ (i : Nat) (v : Value), vs[i]? = some v → ∃ k t, ns[i]? = some k ∧ v = Value.int k t) → IntsAre vs ns
  | [], [], _, _ => .nil
  | [], _ :: _, h, _ => by cases h
  | _ :: _, [], h, _ => by cases h
  | v :: vs, n :: ns, h, hg => by
    obtain ⟨k, t, e1, e2⟩ := hg 0 v rfl
    cases e1
    subst e2
    exact .cons _ _ (ints_of_get (by simpa using h) fun i v hv => hg (i + 1) v (by simpa using hv))
theorem bytes_items {b : Array UInt8} {acc : Array Value} (h : ItemsOf (ByteAt b) acc b.size) : IntsAre acc.toList (KBw.bInts b) := by
  refine ints_of_get (by rw [KBw.ints_length, Array.length_toList]; exact h.1) fun i v hv => ?_
  obtain ⟨c, u, hc, e⟩ := h.2 i v (by simpa using hv)
  exact ⟨_, u, KBw.ints_get hc, e⟩
end
theorem meets_tuple_bytes (b : Array UInt8) (t : Tok) (hsz : b.size ≤ sizeLine) :
    Meets (Builtin.«tuple.__new__» ⟨[.type "tuple", .bytes b t], []⟩)
      (fun A R s => A.handled = none ∧ ∀ (s' : Shared) (acc : Array Value), (∀ b o', s.heap.get? b = some o' → s'.heap.get? b = some o') → s'.gens = s.gens → s'.drawn = s.drawn → s'.os = s.os → IntsAre acc.toList (KBw.bInts b) → R (.ok (.ret (.ref s'.heap.objs.size))) { s' with heap := s'.heap.push { cls := .type "tuple", data := .seq acc } }) :=
  .of_wp fun prog w A R s h => by
    obtain ⟨hp, g, d, tk, os⟩ := s; obtain ⟨hh, h⟩ := h
    have hsub := sub_tuple_self
    have hinit := init_tuple_lookup
    have hmh := madeHere_tuple
    have hT : Shared.TypeIs ⟨hp, g, d, tk, os⟩ (.bytes b t) "bytes" := rfl
    wp_walk using wpAny_typeOf hT, collect_bytes (A := A.in1) hh b t hsz
    intro s' acc hk hg hd ho hi
    refine wpAny_bind (wpAny_pure ?_)
    show wpAny _ _ (Builtin.Tuple.tupleExact acc.toList.toArray >>= fun v => ret v) _ _ _
    unfold Builtin.Tuple.tupleExact
    have e : acc.toList.toArray = acc := by simp
    have hacc : acc.size = b.size := hi.1
    rw [e]
    refine wpAny_bind (wpAny_newObj_type ?_ (by show acc.size ≤ sizeLine; rw [hacc]; exact hsz))
    refine wpAny_pure ⟨_, rfl, ?_⟩
    exact h s' acc hk hg hd ho (bytes_items hi)
section
variable {prog : Program} {w : World} {A : Around} {E : Value → Shared → Prop} {s : Shared} {h₀ : Heap} {L : Addr} {m : Str → Option Value} {news : List (Addr × Obj)}
theorem tuple_bytes {b : Array UInt8} {t : Tok} {ks : List Int} {Q : Value → Shared → Prop} (hh : A.handled = none) (F : Fr h₀ L s.heap m) (N : News h₀ L s.heap news) (hb : KBw.bInts b = ks) (hsz : ks.length < 1000)
    (h : ∀ D vs h' tk, Fr h₀ L h' m → News h₀ L h' ((D, tupO vs) :: news) → (∀ p ∈ news, p.1 < D) → IntsAre vs ks → Q (.ref D) { s with heap := h', toks := tk }) :
    wpAny (model prog w) A (call (.type "tuple") [.bytes b t]) Q E s := by
  subst hb
  rw [KBw.ints_length] at hsz
  refine callType_new PySem.F.called_tuple (by decide) (PySem.F.typeCall_tuple_1 _) (PySem.F.newCall_tuple_1 _) (fun obj => PySem.F.args_object_init_2 obj _) PySem.F.entry_tuple_new
    (meets_tuple_bytes b t (by rw [sizeLine_eq]; omega)) ⟨hh, fun s' acc hk hg hd ho hi => ?_⟩
  obtain ⟨hp, g, d, tk, os⟩ := s'
  dsimp only at hk hg hd ho ⊢
  subst hg hd ho
  have F1 := F.keeps hk
  have N1 : News h₀ L hp news := fun p hp' => ⟨hk _ _ (N p hp').1, (N p hp').2⟩
  have e : (tupO acc.toList) = { cls := .type "tuple", data := .seq acc } := by simp [tupO]
  refine ⟨⟨_, Heap.get?_push_size _ rfl, rfl⟩, h hp.objs.size acc.toList _ _ (F1.push _) ?_ (fun p hp' => Heap.lt_size (N1 p hp').1) hi⟩
  rw [e]
  exact N1.push F1 _
end
end
end Mine
-- L8
namespace Mine
section

theorem led_split {h₀ h : Heap} {L tu : Addr} {o : Obj} {news : List (Addr × Obj)} (N : News h₀ L h news) (hin : (tu, o) ∈ news) :
    ∃ n₁ : List (Addr × Obj), News h₀ L h ((tu, o) :: n₁) ∧ (∀ p ∈ n₁, p.1 ≠ tu) ∧ (∀ p ∈ news, p ∈ (tu, o) :: n₁) ∧ (∀ p ∈ (tu, o) :: n₁, p ∈ news) := by
  refine ⟨news.filter fun p => decide (p.1 ≠ tu), fun p hp => ?_, fun p hp => by simpa using (List.mem_filter.mp hp).2, fun p hp => ?_, fun p hp => ?_⟩
  · rcases List.mem_cons.mp hp with rfl | hp
    · exact N _ hin
    · exact N _ (List.mem_filter.mp hp).1
  · by_cases e : p.1 = tu
    · have h1 := (N p hp).1
      have h2 := (N _ hin).1
      dsimp only at h2
      rw [e, h2] at h1
      have : p = (tu, o) := Prod.ext e (Option.some.inj h1).symm
      rw [this]
      exact .head _
    · exact .tail _ (List.mem_filter.mpr ⟨hp, by simpa using e⟩)
  · rcases List.mem_cons.mp hp with rfl | hp
    · exact hin
    · exact (List.mem_filter.mp hp).1
theorem told_c {w : World} {mean : ExcName → Option Value} {mg mb : Str → Option Value} {news : List (Addr × Obj)} {tu : Addr} {cvs : List Value} {cs9 : List Int} {b9 : Array UInt8} {t9 : Tok} {ks : List Int}
   {dp un : Nat} {gd : Option (List Code)} {cn : Str} {cs : Scope} {a : Addr} {ccd : Value} {cl : List (Str × Addr)} {outer : List Env} {A₀ : Around} {base h₀ : Heap} {L : Addr} {m : Str → Option Value} {s : Shared} {Q E : Value → Shared → Prop}
    (B : Below A₀ base outer h₀) (F : Fr h₀ L s.heap m) (X : (Mine.hd.heap_39 w.params).In h₀) (N : News h₀ L s.heap news) (T : Top Mine.hd.view_39 (looseW Mine.hd.view_39 []) mean mg mb h₀)
    (hk : cs.kind = .function) (hin : (tu, tupO cvs) ∈ news) (hi : IntsAre cvs cs9) (hl : cs9.length = 16) (hpos : ∀ c ∈ cs9, 0 ≤ c) (hb : KBw.bInts b9 = ks) (hsum : cs9.sum = ks.length) (hks : ks.length < 100)
    (hdp : dp + 4 < recursionLimit) (hun : un + 30 < cLine) 
    (hret : ∀ (h' : Heap) (tk' : Nat), ks.Nodup → Fr h₀ L h' m → News h₀ L h' news → Q .none { s with heap := h', toks := tk' }) 
    (hraise : ∀ (e : Addr) (g₂ h' : Heap) (tk' : Nat), ¬ ks.Nodup → Fr h₀ L g₂ m → RaisedN base (envX cn cs L a ccd cl :: outer) e (.ref 51) news h' → g₂.UpToSlots h' → E (.ref e) { s with heap := h', toks := tk' }) :
      wpAny (model Challenge.rw_ok0140_01.row.prog w) (ktrTop dp un gd cn cs L a ccd cl outer) (call (.ref 91) [.ref tu, .bytes b9 t9]) Q E s := by
  obtain ⟨n₁, N1, hne, hs, _⟩ := led_split N hin
  exact told_core B F X N1 T hk hne hi hl hpos hb hsum hks hdp hun (fun h' tk' nd F' N' => hret h' tk' nd F' (cb_drop N' hs)) fun e g₂ h' tk' nd F' R' U' => hraise e g₂ h' tk' nd F' (RaisedN.mono R' hs) U'
theorem rows_c {w : World} {mean : ExcName → Option Value} {mg mb : Str → Option Value} {news : List (Addr × Obj)} {tu : Addr} {cvs : List Value} {cs9 : List Int}
   {dp un : Nat} {gd : Option (List Code)} {cn : Str} {cs : Scope} {a : Addr} {ccd : Value} {cl : List (Str × Addr)} {outer : List Env} {A₀ : Around} {base h₀ : Heap} {L : Addr} {m : Str → Option Value} {s : Shared} {Q E : Value → Shared → Prop}
    (B : Below A₀ base outer h₀) (F : Fr h₀ L s.heap m) (X : (Mine.hd.heap_39 w.params).In h₀) (N : News h₀ L s.heap news) (T : Top Mine.hd.view_39 (looseW Mine.hd.view_39 []) mean mg mb h₀)
    (hk : cs.kind = .function) (hin : (tu, tupO cvs) ∈ news) (hi : IntsAre cvs cs9) (hl : cs9.length = 16) (hpos : ∀ c ∈ cs9, 0 ≤ c)
    (hdp : dp + 4 < recursionLimit) (hun : un + 30 < cLine) 
    (hret : ∀ (rw9 : Addr) (vs : List Value) (n : Nat) (fz : List (Addr × Obj)) (h' : Heap) (tk' : Nat), (∀ j, j < 16 → OkRow cs9 j) → RowsAt cs9 16 vs fz → (∀ p ∈ news, p.1 < rw9) → (∀ p ∈ fz, rw9 < p.1) → (∀ p ∈ fz, ∀ q ∈ news, q.1 < p.1) →
       Fr h₀ L h' m → News h₀ L h' ((rw9, W.listOf vs.toArray n) :: (news ++ fz)) → Q (.ref rw9) { s with heap := h', toks := tk' }) 
    (hraise : ∀ (e : Addr) (g₂ h' : Heap) (tk' : Nat), (∃ j, j < 16 ∧ ¬ OkRow cs9 j) → Fr h₀ L g₂ m → RaisedN base (envX cn cs L a ccd cl :: outer) e (.ref 51) news h' → g₂.UpToSlots h' → E (.ref e) { s with heap := h', toks := tk' }) :
      wpAny (model Challenge.rw_ok0140_01.row.prog w) (ktrTop dp un gd cn cs L a ccd cl outer) (call (.ref 84) [.ref tu]) Q E s := by
  obtain ⟨n₁, N1, hne, hs, hs'⟩ := led_split N hin
  refine rows_core B F X N1 T hk hne hi hl hpos hdp hun (fun rw9 vs n fz h' tk' ok ra l1 l2 F' N' => ?_) fun e g₂ h' tk' nd F' R' U' => hraise e g₂ h' tk' nd F' (RaisedN.mono R' hs) U'
  refine hret rw9 vs n fz h' tk' ok ra (fun p hp => allLt_iff.mp l1 p (hs p hp)) (fun p hp => (l2 p hp).1) (fun p hp q hq => allLt_iff.mp (l2 p hp).2 q (hs q hq)) F' (cb_drop N' fun p hp => ?_)
  rcases List.mem_cons.mp hp with rfl | hp
  · exact .head _
  rcases List.mem_append.mp hp with hp | hp
  · rcases List.mem_cons.mp (hs p hp) with rfl | hp
    · exact .tail _ (.head _)
    · exact .tail _ (.tail _ (List.mem_append_right _ hp))
  · exact .tail _ (.tail _ (List.mem_append_left _ hp))
theorem sum_nonneg : ∀ {cs : List Int}, (∀ x ∈ cs, 0 ≤ x) → 0 ≤ cs.sum
  | [], _ => Int.le_refl _
  | c :: cs, h => by
    have h1 := h c (.head _)
    have h2 := sum_nonneg (cs := cs) fun x hx => h x (.tail _ hx)
    rw [List.sum_cons]; omega
theorem place_nonneg {cs : List Int} (h : ∀ x ∈ cs, 0 ≤ x) (i : Nat) : 0 ≤ placeAt cs i := sum_nonneg fun x hx => h x (List.mem_of_mem_take hx)
theorem place_le {cs : List Int} (h : ∀ x ∈ cs, 0 ≤ x) (i : Nat) : placeAt cs i ≤ cs.sum := by
  have e : cs.sum = (cs.take i).sum + (cs.drop i).sum := by rw [← List.sum_append, List.take_append_drop]
  have := sum_nonneg (cs := cs.drop i) fun x hx => h x (List.mem_of_mem_drop hx)
  unfold placeAt
  omega
theorem item_at {prog : Program} {w : World} {A : Around} {E : Value → Shared → Prop} {s : Shared} {l : Addr} {vs : List Value} {v : Value} {value slice : Expr} {k : Int} {u : Tok} {Q : Value → Shared → Prop} (hl : s.heap.IsList l vs.toArray)
    (h0 : 0 ≤ k) (hk : k < (vs.length : Int)) (hfit : vs.length < 2 ^ 62) (hv : vs[k.toNat]? = some v) (h : Q v s)
    (hs : subscripted slice false (.ref l) (.int k u) = operate [.ref l, .int k u] (getItem (.ref l) (.int k u)) := by with_unfolding_all rfl) :
    wpAny (model prog w) A (subscriptTail value slice (.ref l) (.int k u)) Q E s :=
  item_any hl h0 hk hfit (fun v' hv' _ => by rw [hv] at hv'; cases hv'; exact h) hs
structure TS where
  od : Obj
  kvs : List (Int × Value)
noncomputable def TFacts (w : World) (b : Nat) (c : TS) : Prop := c.od.IsDictOf (intKind Challenge.rw_ok0140_01.row.prog w) c.kvs ∧ c.kvs.length ≤ b
theorem stored_len {kvs : List (Int × Value)} {k : Int} {v : Value} : (stored kvs k v).length ≤ kvs.length + 1 := stored_length_le kvs k v
abbrev tabDict (w : World) (tu sy rl cd : Addr) (t1 t2 t3 t4 : Tok) : Obj := dictOf [⟨PyData.keyHash w.params (Str.ofString "counts"), .str (Str.ofString "counts") t1, .ref tu⟩, ⟨PyData.keyHash w.params (Str.ofString "symbols"), .str (Str.ofString "symbols") t2, .ref sy⟩,
  ⟨PyData.keyHash w.params (Str.ofString "rows"), .str (Str.ofString "rows") t3, .ref rl⟩, ⟨PyData.keyHash w.params (Str.ofString "codes"), .str (Str.ofString "codes") t4, .ref cd⟩] 4
/-- a HuffTable as `read` needs it -/
noncomputable def TableObjs (w : World) (cs9 ks : List Int) (v : Value) (fz : List (Addr × Obj)) : Prop := ∃ (x dx sy rl cd tu : Addr) (syv vs : List Value) (n : Nat) (t1 t2 t3 t4 : Tok), v = .ref x ∧ (x, instObj 122 dx) ∈ fz ∧ (dx, tabDict w tu sy rl cd t1 t2 t3 t4) ∈ fz ∧ (sy, tupO syv) ∈ fz ∧ IntsAre syv ks ∧ (rl, W.listOf vs.toArray n) ∈ fz ∧ RowsAt cs9 16 vs fz
theorem RowsAt.mono {cs : List Int} {i : Nat} {vs : List Value} {fz fz' : List (Addr × Obj)} (h : RowsAt cs i vs fz) (hs : ∀ p ∈ fz, p ∈ fz') : RowsAt cs i vs fz' :=
  ⟨h.1, fun j hj => let ⟨a, o, e1, e2, e3⟩ := h.2 j hj; ⟨a, o, e1, hs _ e2, e3⟩⟩
theorem units_under9 (A : Around) (C : Addr) (vals : List Value) : (A.under (.builtin "type.__call__" ⟨.ref C :: vals, []⟩)).units = A.units + 1 := rfl
end
end Mine
local macro_rules | `(tactic| walk_at "my t10") => `(tactic| (intro h9 tk9 nd9 F9 N9; (try dsimp only); (try k_fold)))
local macro_rules | `(tactic| walk_at "my t11") => `(tactic| (intro e9 g9 h9 tk9 nd9 F9 R9 U9; refine halt ?_))
local macro_rules | `(tactic| walk_at "my t12") => `(tactic| (intro rw9 vs9 n9 fz9 h9 tk9 ok9 ra9 l9 l8 l7 F9 N9; (try dsimp only); (try k_fold); refine halt ?_))
local macro_rules | `(tactic| walk_at "my t11") => `(tactic| (intro e9 g9 h9 tk9 nd9 F9 R9 U9; refine halt ?_))
local macro_rules | `(tactic| walk_at "my t13") => `(tactic| (intro D' v' h' k' F' N' l1 i'; (try k_lt l1); (try k_sweep)))
local macro_rules | `(tactic| walk_at "my t14") => `(tactic| (intro h' o' F' N' hd'; (try dsimp only at N')))
namespace Mine
section

section huff
local macro_rules | `(tactic| ktr_units) => `(tactic| (have hcL9 := cLine_is; (try simp only [units_under9, units_in1, units_deeper, Around.mark_units, units_caller]); (try dsimp only [ktrTop]); omega))
theorem huff_core {w : World} {mean : ExcName → Option Value} {mg mb : Str → Option Value} {news : List (Addr × Obj)} {tu : Addr} {cvs : List Value} {cs9 : List Int} {b9 : Array UInt8} {t9 : Tok} {ks : List Int}
   {dp un : Nat} {gd : Option (List Code)} {cn : Str} {cs : Scope} {a : Addr} {ccd : Value} {cl : List (Str × Addr)} {outer : List Env} {A₀ : Around} {base h₀ : Heap} {L : Addr} {m : Str → Option Value} {s : Shared} {Q E : Value → Shared → Prop}
    (B : Below A₀ base outer h₀) (F : Fr h₀ L s.heap m) (X : (Mine.hd.heap_39 w.params).In h₀) (N : News h₀ L s.heap ((tu, tupO cvs) :: news)) (T : Top Mine.hd.view_39 (looseW Mine.hd.view_39 []) mean mg mb h₀)
    (hk : cs.kind = .function) (hne : ∀ p ∈ news, p.1 ≠ tu) (hi : IntsAre cvs cs9) (hl : cs9.length = 16) (hpos : ∀ c ∈ cs9, 0 ≤ c) (hb : KBw.bInts b9 = ks) (hsum : cs9.sum = ks.length) (hks : ks.length < 100)
    (hdp : dp + 10 < recursionLimit) (hun : un + 50 < cLine) 
    (hret : ∀ (v : Value) (fz : List (Addr × Obj)) (h' : Heap) (tk' : Nat), ks.Nodup → (∀ j, j < 16 → OkRow cs9 j) → TableObjs w cs9 ks v fz → (∀ p ∈ fz, ∀ q ∈ (tu, tupO cvs) :: news, q.1 < p.1) → Fr h₀ L h' m → News h₀ L h' ((tu, tupO cvs) :: (fz ++ news)) → Q v { s with heap := h', toks := tk' })
    (hraise : ∀ (e : Addr) (g₂ h' : Heap) (tk' : Nat), ¬ (ks.Nodup ∧ ∀ j, j < 16 → OkRow cs9 j) → Fr h₀ L g₂ m → RaisedN base (envX cn cs L a ccd cl :: outer) e (.ref 51) ((tu, tupO cvs) :: news) h' → g₂.UpToSlots h' → E (.ref e) { s with heap := h', toks := tk' }) :
      wpAny (model Challenge.rw_ok0140_01.row.prog w) (ktrTop dp un gd cn cs L a ccd cl outer) (call (.ref 122) [.ref tu, .bytes b9 t9]) Q E s := by
  k_with_none
  k_with "my lt" => first | assumption | exact And.left (by assumption) | exact And.left (And.right (by assumption)) | exact And.right (by assumption) | exact And.left (And.right (And.right (by assumption))) | exact And.right (And.right (by assumption)) | exact And.left (And.right (And.right (And.right (by assumption)))) | exact And.right (And.right (And.right (by assumption))) | exact And.left (And.right (And.right (And.right (And.right (by assumption))))) | exact And.right (And.right (And.right (And.right (by assumption)))) | exact And.left (And.right (And.right (And.right (And.right (And.right (by assumption)))))) | exact And.right (And.right (And.right (And.right (And.right (by assumption))))) | exact And.left (And.right (And.right (And.right (And.right (And.right (And.right (by assumption))))))) | exact And.right (And.right (And.right (And.right (And.right (And.right (by assumption)))))) | exact And.left (And.right (And.right (And.right (And.right (And.right (And.right (And.right (by assumption)))))))) | exact And.right (And.right (And.right (And.right (And.right (And.right (And.right (by assumption))))))) | exact And.left (And.right (And.right (And.right (And.right (And.right (And.right (And.right (And.right (by assumption))))))))) | exact And.right (And.right (And.right (And.right (And.right (And.right (And.right (And.right (by assumption)))))))) | fail
  k_with "my kne" => first | assumption | (refine Ne.symm ?_; assumption) | (refine neN ?_; (try dsimp only); first | (refine Nat.ne_of_lt ?_; k_extra "my lt") | (refine Nat.ne_of_gt ?_; k_extra "my lt") | omega) | fail
  k_with "my room" => first | exact upR 0 (by assumption) rfl | exact upR 1 (by assumption) rfl | exact upR 2 (by assumption) rfl | exact upR 3 (by assumption) rfl | exact upR 4 (by assumption) rfl | exact upR 5 (by assumption) rfl | exact upR 6 (by assumption) rfl | exact upR 7 (by assumption) rfl | exact upR 8 (by assumption) rfl | fail
  k_with "my units" => first | exact upR 0 (by assumption) rfl | exact upR 1 (by assumption) rfl | exact upR 2 (by assumption) rfl | exact upR 3 (by assumption) rfl | exact upR 4 (by assumption) rfl | exact upR 5 (by assumption) rfl | exact upR 6 (by assumption) rfl | exact upR 7 (by assumption) rfl | exact upR 8 (by assumption) rfl | exact upR 9 (by assumption) rfl | exact upR 10 (by assumption) rfl | exact upR 11 (by assumption) rfl | exact upR 12 (by assumption) rfl | fail
  k_with "my sub" => first | exact List.forall_mem_nil _ | assumption | exact List.forall_mem_cons.mpr ⟨(by k_mem), (by k_extra "my sub")⟩ | (intro p9 hp9; repeat (first | exact hp9 | refine List.Mem.tail _ ?_))
  k_with "my ne" => first | exact List.forall_mem_nil _ | assumption | exact List.forall_mem_cons.mpr ⟨(by first | assumption | k_ne), (by k_extra "my ne")⟩
  k_with "my subA" => (intro p9 hp9; repeat' (first | exact hp9 | exact List.mem_append_left _ hp9 | exact List.mem_append_right _ hp9 | refine List.Mem.tail _ ?_))
  k_with "my memB" => first | assumption | exact List.Mem.head _ | (refine List.Mem.tail _ ?_; k_extra "my memB") | (refine List.mem_append_left _ ?_; k_extra "my memB") | (refine List.mem_append_right _ ?_; k_extra "my memB")
  k_with "my leafB" => first | assumption | (refine List.Mem.tail _ ?_; k_extra "my leafB") | (refine List.mem_append_left _ ?_; k_extra "my leafB") | (refine List.mem_append_right _ ?_; k_extra "my leafB")
  k_with "my subB" => first | exact List.forall_mem_nil _ | exact List.forall_mem_cons.mpr ⟨(by k_extra "my memB"), (by k_extra "my subB")⟩ | exact List.forall_mem_append.mpr ⟨(by k_extra "my subB"), (by k_extra "my subB")⟩ | (intro p9 hp9; k_extra "my leafB")
  k_with "pyIter ref" => (refine halt ?_)
  k_with "execs cons" => (k_here; dsimp only; k_gentoks)
  k_with "execs nil" => (k_here; dsimp only; k_gentoks)
  k_with "call type:range" => walk_at "my m7"
  k_with "newTuple" => (k_here; k_dflt (refine' kup_newTuple (by k_asm) (by k_asm) ?_ (by kmk_size)); walk_at "my t8")
  k_with "call ref" => (k_here; k_dflt (refine' told_c ?k1 ?k2 ?k3 ?k4 ?k5 ?kK ?kn ?ki ?kl ?kp ?kb ?ks ?kz ?kd ?ku ?kR ?kE; (case k1 => k_asm); (case k2 => k_asm); (case k3 => k_asm); (case k4 => k_asm); (case k5 => k_asm); (case kK => first | exact rfl | assumption); (case kn => k_mem); (case ki => assumption); (case kl => assumption); (case kp => assumption); (case kb => assumption); (case ks => assumption); (case kz => assumption); (case kd => ktr_room); (case ku => ktr_units)); (case' kR => walk_at "my t10"); (case' kE => walk_at "my t11"))
  k_with "call ref" => (k_here; k_dflt (refine' rows_c ?k1w ?k2w ?k3w ?k4w ?k5w ?kKw ?knw ?kiw ?klw ?kpw ?kdw ?kuw ?kRw ?kEw; (case k1w => k_asm); (case k2w => k_asm); (case k3w => k_asm); (case k4w => k_asm); (case k5w => k_asm); (case kKw => first | exact rfl | assumption); (case knw => k_mem); (case kiw => assumption); (case klw => assumption); (case kpw => assumption); (case kdw => ktr_room); (case kuw => ktr_units)); (case' kRw => walk_at "my t12"); (case' kEw => walk_at "my t11"))
  k_with "call type:tuple" => (k_here; (with_reducible show wpAny _ _ (call (Value.type "tuple") [Value.bytes _ _]) _ _ _); k_dflt (refine' tuple_bytes (by with_unfolding_all rfl) (by k_asm) (by k_asm) (by assumption) (by omega) ?_; k_whole); walk_at "my t13")
  k_with "subscriptTail" => (k_here; (with_reducible show wpAny _ _ (subscriptTail _ _ (Value.ref _) (Value.int _ _)) _ _ _); (with_unfolding_all refine' tup_ints (by exact News.isTup (by k_asm) (by k_mem)) (by assumption) (by omega) (by omega) (by omega) ?_); walk_at "my t9")
  k_with "subscriptTail" => (k_here; (with_reducible show wpAny _ _ (subscriptTail _ _ (Value.ref _) (Value.int _ _)) _ _ _); (with_unfolding_all refine' item_at (by is_list) (by omega) (by omega) (by omega) (by assumption) ?_))
  k_with "setItem ref int" => (k_here; k_dflt (refine' kda_set (knd := PySem.intKind _ _) (by k_asm) (by k_asm) (by k_updF) (by k_asm) (intKind_is _ _ _ _) (by rw [sizeLine_eq]; omega) ?_); walk_at "my t14")
  k_with "my omega" => ((fail_if_success (fail_if_success omega (config := {}))); lia)
  have hvl : cvs.length = 16 := by rw [hi.length]; exact hl
  refine' call_cls (C := 122) ?k1 ?k2 ?k3 ?k4 ?k5 ?k6 ?_
  (case k1 => k_asm)
  (case k2 => k_asm)
  (case k3 => k_asm)
  (case k4 => k_is)
  (case k5 => k_is)
  (case k6 => k_is)
  intro x dx h1 F1 N1 l1 l2
  k_lt l1
  k_lt2 l2
  k_dflt cell_enter
  k_steps
  · rename_i e9 g9 h9 tk9 nd9 F9 R9 U9
    refine Halt.go ?_
    k_whole
    refine leave_onN (by assumption) F9 R9 U9 ?_
    intro h8 R8 U8
    exact hraise _ _ _ _ (fun q => nd9 q.1) (by assumption) (RaisedN.mono R8 (by k_extra "my sub")) U8
  · rename_i e9 g9 h9 tk9 nd9 F9 R9 U9
    refine Halt.go ?_
    k_whole
    refine leave_onN (by assumption) F9 R9 U9 ?_
    intro h8 R8 U8
    exact hraise _ _ _ _ (fun q => nd9.elim fun j hj => hj.2 (q.2 j hj.1)) (by assumption) (RaisedN.mono R8 (by k_extra "my sub")) U8
  rename_i DS vS hS1 kS iS lS hS2 FS NS rwA vsA nA fzA h9 tk9 okA raA l9 l8 l7 F9 N9
  refine Halt.go ?_
  simp only [List.cons_append] at N9
  clear FS NS
  obtain ⟨tl, etl⟩ : ∃ tl, tl = news ++ fzA := ⟨_, rfl⟩
  rw [← etl] at N9
  simp only [List.forall_mem_cons] at l9 l7
  obtain ⟨l91, l92, l93, l94, l95⟩ := l9
  have oth : ∀ (a : Addr), (∀ p ∈ news, p.1 ≠ a) → (∀ p ∈ fzA, a < p.1) → ∀ p ∈ tl, p.1 ≠ a := fun a h1 h2 p hp => by
    rw [etl] at hp
    rcases List.mem_append.mp hp with hp | hp
    · exact h1 p hp
    · exact Nat.ne_of_gt (h2 p hp)
  have oR := oth rwA (fun p hp => Nat.ne_of_lt (l95 p hp)) l8
  have oS := oth DS (fun p hp => Nat.ne_of_lt (allLt_iff.mp lS.2.2.2 p hp)) fun p hp => (l7 p hp).1
  have oX := oth x (fun p hp => Nat.ne_of_lt (Nat.lt_trans (allLt_iff.mp l1.2 p hp) l2)) fun p hp => (l7 p hp).2.1
  have oD := oth dx (fun p hp => Nat.ne_of_lt (allLt_iff.mp l1.2 p hp)) fun p hp => (l7 p hp).2.2.1
  have oT := oth tu hne fun p hp => (l7 p hp).2.2.2.1
  have m91 := neN (Nat.ne_of_lt l91)
  have m92 := neN (Nat.ne_of_lt l92)
  have m93 := neN (Nat.ne_of_lt l93)
  have m94 := neN (Nat.ne_of_lt l94)
  have m95 := neN (Nat.ne_of_lt lS.1)
  have m96 := neN (Nat.ne_of_lt lS.2.1)
  have m97 := neN (Nat.ne_of_lt lS.2.2.1)
  have m98 := neN (Nat.ne_of_lt l1.1)
  have m99 := neN (Nat.ne_of_lt l2)
  have m90 := neN (Nat.ne_of_lt (Nat.lt_trans l1.1 l2))
  k_steps
  rename_i h13 tkD cd h12 od lo hsd fsd hid fid l7' h11 h10 tkE t1 u1 v1 R2 F2 N2 hk2
  refine Halt.go ?_
  clear hk2 hsd fsd fid
  obtain ⟨dob, hdob, N3⟩ : ∃ dob, dob = _ ∧ News _ _ _ ((cd, od) :: (rwA, W.listOf vsA.toArray nA) :: (DS, tupO vS) :: (x, instObj 122 dx) :: (dx, dob) :: (tu, tupO cvs) :: tl) := ⟨_, rfl, N2⟩
  have hkl : ks.length < 100 := hks
  have hvl2 : vS.length = ks.length := iS.length
  obtain ⟨hva, hrows⟩ := raA
  refine' range_S (σ := TS) (n := 16) (fun _ c => (cd, c.od) :: (rwA, W.listOf vsA.toArray nA) :: (DS, tupO vS) :: (x, instObj 122 dx) :: (dx, dob) :: (tu, tupO cvs) :: tl) (fun _ _ => []) (fun i c => TFacts w (100 * i) c)
    [Str.ofString "size", Str.ofString "first", Str.ofString "many", Str.ofString "place", Str.ofString "k"] ⟨od, []⟩ rfl R2 (by decide) (by rfl) F2 N3 ⟨hid, Nat.le_refl _⟩ (List.forall_mem_nil _) ?_ ?_
  · clear R2 F2 N2 N3
    intro i c t u I io h tk' hi9 hf hI F3 N3
    subst hdob
    obtain ⟨hd, hle⟩ := hf
    simp only [List.forall_mem_cons] at hI
    obtain ⟨hI1, hI2, hI3, hI4, hI5, hI6, hI7⟩ := hI
    replace hI1 := neN hI1; replace hI2 := neN hI2; replace hI3 := neN hI3; replace hI4 := neN hI4; replace hI5 := neN hI5; replace hI6 := neN hI6
    obtain ⟨ra, ro, hr1, hr2, tr1, tr2, tr3, rfl⟩ := hrows i hi9
    have hr3 : vsA[(1 + (i : Int) - 1).toNat]? = some (.ref ra) := by rw [show (1 + (i : Int) - 1).toNat = i by omega]; exact hr1
    have N4 : News _ _ _ ((ra, tupO [.int (codeAt cs9 i) tr1, .int (cs9.getD i 0) tr2, .int (placeAt cs9 i) tr3]) :: (I, io) :: _) := fun p hp => by
      rcases List.mem_cons.mp hp with rfl | hp
      · exact N3 _ (.tail _ (.tail _ (.tail _ (.tail _ (.tail _ (.tail _ (.tail _ (etl ▸ List.mem_append_right _ hr2))))))))
      · exact N3 p hp
    clear N3
    have hg0 : 0 ≤ cs9.getD i 0 := hpos _ (getD_in9 (by omega))
    have hp0 := place_nonneg hpos i
    have hp1 := place_le hpos (i + 1)
    rw [place_succ (by omega), hsum] at hp1
    k_steps
    rename_i h14 F6 N6 h15 h16 h17 h18 tkF t2 u2 v2 R3 F5 N5 hk3
    refine Halt.go ?_
    clear hk3 F6 N6
    obtain ⟨dob2, hdob2, N7⟩ : ∃ dob2, dob2 = _ ∧ News _ _ _ ((I, io) :: (cd, c.od) :: (rwA, W.listOf vsA.toArray nA) :: (DS, tupO vS) :: (x, instObj 122 dx) :: (dx, dob2) :: (tu, tupO cvs) :: tl) := ⟨_, rfl, fun p hp => N5 p (.tail _ hp)⟩
    refine' range_S (σ := TS) (n := ((cs9.getD i 0) - 0).toNat) (fun _ c => (I, io) :: (cd, c.od) :: (rwA, W.listOf vsA.toArray nA) :: (DS, tupO vS) :: (x, instObj 122 dx) :: (dx, dob2) :: (tu, tupO cvs) :: tl) (fun _ _ => []) (fun j c => TFacts w (100 * i + j) c)
      [Str.ofString "k"] c rfl R3 (small_one (by omega) (by omega) (by omega) (by omega)) (rangeSize_nat _ _) F5 N7 ⟨hd, hle⟩ (List.forall_mem_nil _) ?_ ?_
    · clear R3 F5 N5 N7
      intro j c1 tj u1 J jo h16 tk5 hj hf2 hJ F6 N6
      subst hdob2
      obtain ⟨hd1, hle1⟩ := hf2
      simp only [List.forall_mem_cons] at hJ
      obtain ⟨hJ0, hJ1, hJ2, hJ3, hJ4, hJ5, hJ6, hJ7⟩ := hJ
      replace hJ0 := neN hJ0; replace hJ1 := neN hJ1; replace hJ2 := neN hJ2; replace hJ3 := neN hJ3; replace hJ4 := neN hJ4; replace hJ5 := neN hJ5; replace hJ6 := neN hJ6
      k_steps
      refine' TurnPost.next ?F1 (cb_drop ?N1 ?sub1) ?hI1 ?J1
      case F1 => assumption
      case' J1 => refine' ⟨⟨_, _⟩, rfl, ⟨?hf1, ?hf2⟩, List.forall_mem_nil _, fun z hz => ?fr1⟩
      case hf1 => assumption
      case hf2 => exact Nat.le_trans stored_len (by omega)
      case N1 => assumption
      case sub1 => k_extra "my sub"
      case hI1 => k_extra "my ne"
      case fr1 =>
          dsimp only
          (repeat' (with_reducible (refine off_if (ne_of_stored hz ?_) ?_)))
          all_goals first | rfl | exact mkFr_off hz rfl rfl rfl
    · clear R3 F5 N5 N7
      intro c1 u1 h16 tk5 hf2 F6 N6
      subst hdob2
      obtain ⟨hd1, hle1⟩ := hf2
      k_steps
      refine' TurnPost.next ?F2 (cb_drop ?N2 ?sub2) ?hI2 ?J2
      case F2 => assumption
      case J2 =>
        refine' ⟨c1, rfl, ⟨hd1, Nat.le_trans hle1 (by omega)⟩, List.forall_mem_nil _, fun z hz => ?fr2⟩
        refine mkFr_off hz rfl rfl ?_
        dsimp only
        (repeat' (with_reducible (refine off_if (ne_of_stored hz ?_) ?_)))
        all_goals first | rfl | exact mkFr_off hz rfl rfl rfl
      case N2 => assumption
      case sub2 => k_extra "my sub"
      case hI2 => k_extra "my ne"
  · clear R2 F2 N2 N3
    intro c u h tk' hf F3 N3
    subst hdob
    k_steps
    rename_i kF kN kT kX
    obtain ⟨q1, q2, q3, q4, kN'⟩ : ∃ t1 t2 t3 t4, News h₀ L _ ((cd, c.od) :: (rwA, W.listOf vsA.toArray nA) :: (DS, tupO vS) :: (x, instObj 122 dx) :: (dx, tabDict w tu DS rwA cd t1 t2 t3 t4) :: (tu, tupO cvs) :: tl) := ⟨_, _, _, _, kN⟩
    refine hret (.ref x) ((cd, c.od) :: (rwA, W.listOf vsA.toArray nA) :: (DS, tupO vS) :: (x, instObj 122 dx) :: (dx, tabDict w tu DS rwA cd q1 q2 q3 q4) :: fzA) _ _ (by assumption) okA ⟨x, dx, DS, rwA, cd, tu, vS, vsA, nA, q1, q2, q3, q4, rfl, ?a1, ?a2, ?a3, iS, ?a4, RowsAt.mono ⟨hva, hrows⟩ ?a5⟩ ?ab kF (cb_drop kN' ?sb)
    case a1 => k_mem
    case a2 => exact .tail _ (.tail _ (.tail _ (.tail _ (.head _))))
    case a3 => k_mem
    case a4 => k_mem
    case a5 => exact fun p hp => .tail _ (.tail _ (.tail _ (.tail _ (.tail _ hp))))
    case sb =>
      intro p hp
      subst etl
      simp only [List.mem_cons, List.cons_append, List.mem_append] at hp ⊢
      rcases hp with h1 | h1 | h1 | h1 | h1 | h1 | h1 | h1 <;> simp only [h1, true_or, or_true]
    case ab =>
      have e0 : ∀ q ∈ (tu, tupO cvs) :: news, q.1 < dx := List.forall_mem_cons.mpr ⟨l1.1, fun q hq => allLt_iff.mp l1.2 q hq⟩
      have e1 : ∀ q ∈ (tu, tupO cvs) :: news, q.1 < DS := List.forall_mem_cons.mpr ⟨lS.2.2.1, fun q hq => allLt_iff.mp lS.2.2.2 q hq⟩
      have e2 : ∀ q ∈ (tu, tupO cvs) :: news, q.1 < rwA := List.forall_mem_cons.mpr ⟨l94, l95⟩
      intro p hp
      simp only [List.mem_cons] at hp
      rcases hp with rfl | rfl | rfl | rfl | rfl | hp
      · exact fun q hq => Nat.lt_trans (e2 q hq) l7'.1
      · exact e2
      · exact e1
      · exact fun q hq => Nat.lt_trans (e0 q hq) l2
      · exact e0
      · have h7 := l7 p hp
        exact List.forall_mem_cons.mpr ⟨h7.2.2.2.1, h7.2.2.2.2⟩
end huff
end
end Mine
-- L9
namespace Mine
section

abbrev bitDict (w : World) (b : Array UInt8) (tb : Tok) (i : Int) (ti t1 t2 : Tok) : Obj := dictOf [⟨PyData.keyHash w.params (Str.ofString "source"), .str (Str.ofString "source") t1, .bytes b tb⟩, ⟨PyData.keyHash w.params (Str.ofString "at"), .str (Str.ofString "at") t2, .int i ti⟩] 2
theorem bit_lo {i : Int} (h : 0 ≤ i) : 0 ≤ i.fdiv (2 ^ Int.toNat 3) := Int.fdiv_nonneg h (by decide)
theorem bit_hi {i n : Int} (h : 0 ≤ i) (h1 : i < 8 * n) : i.fdiv (2 ^ Int.toNat 3) < n := by
  have e : i.fdiv (2 ^ Int.toNat 3) = i / 8 := by rw [Int.fdiv_eq_ediv_of_nonneg _ (by decide)]; rfl
  rw [e]; omega
end
end Mine
local macro_rules | `(tactic| walk_at "my t15") => `(tactic| (intro _ _ _ _))
namespace Mine
section

section bit
/-- bit i of a row of octets -/
noncomputable def bitOf (ks : List Int) (i : Nat) : Int := ks.getD (i / 8) 0 / 2 ^ (7 - i % 8) % 2
theorem bit_is {ks : List Int} {i : Nat} : Builtin.bitAnd ((ks.getD (((i : Nat) : Int).fdiv (2 ^ Int.toNat 3)).toNat 0).fdiv (2 ^ Int.toNat (7 - Builtin.bitAnd ((i : Nat) : Int) 7))) 1 = bitOf ks i := by
  have e1 : ((i : Nat) : Int).fdiv (2 ^ Int.toNat 3) = ((i / 8 : Nat) : Int) := by rw [Int.fdiv_eq_ediv_of_nonneg _ (by decide)]; rfl
  have e2 : (7 - Builtin.bitAnd ((i : Nat) : Int) 7) = ((7 - i % 8 : Nat) : Int) := by rw [bitAnd_m3]; omega
  rw [e1, e2, bitAnd_m1, Int.toNat_natCast, Int.toNat_natCast, Int.fdiv_eq_ediv_of_nonneg _ (Int.le_of_lt (Int.pow_pos (by decide)))]
  rfl
theorem bit_core {w : World} {mean : ExcName → Option Value} {mg mb : Str → Option Value} {news : List (Addr × Obj)} {rd dr : Addr} {b9 : Array UInt8} {tb ti t1 t2 : Tok} {ks : List Int} {i9 : Nat}
   {dp un : Nat} {gd : Option (List Code)} {cn : Str} {cs : Scope} {a : Addr} {ccd : Value} {cl : List (Str × Addr)} {outer : List Env} {A₀ : Around} {base h₀ : Heap} {L : Addr} {m : Str → Option Value} {s : Shared} {Q E : Value → Shared → Prop}
    (B : Below A₀ base outer h₀) (F : Fr h₀ L s.heap m) (X : (Mine.hd.heap_39 w.params).In h₀) (N : News h₀ L s.heap ((rd, instObj 213 dr) :: (dr, bitDict w b9 tb i9 ti t1 t2) :: news)) (T : Top Mine.hd.view_39 (looseW Mine.hd.view_39 []) mean mg mb h₀)
    (hk : cs.kind = .function) (hne2 : ∀ p ∈ news, p.1 ≠ dr) (hrd : rd ≠ dr) (hb : KBw.bInts b9 = ks) (hks : ks.length < 1000) (h0 : 0 ≤ (i9 : Int)) (h1 : (i9 : Int) < 8 * ks.length)
    (hdp : dp + 2 < recursionLimit) (hun : un + 16 < cLine)
    (hret : ∀ (t ti' : Tok) (h' : Heap) (tk' : Nat), Fr h₀ L h' m → News h₀ L h' ((rd, instObj 213 dr) :: (dr, bitDict w b9 tb ((i9 : Int) + 1) ti' t1 t2) :: news) → Q (.int (bitOf ks i9) t) { s with heap := h', toks := tk' }) :
      wpAny (model Challenge.rw_ok0140_01.row.prog w) (ktrTop dp un gd cn cs L a ccd cl outer) (call (.ref 203) [.ref rd]) Q E s := by
  k_with_none
  k_with "my lt" => first | assumption | exact And.left (by assumption) | exact And.left (And.right (by assumption)) | exact And.right (by assumption) | exact And.left (And.right (And.right (by assumption))) | exact And.right (And.right (by assumption)) | exact And.left (And.right (And.right (And.right (by assumption)))) | exact And.right (And.right (And.right (by assumption))) | exact And.left (And.right (And.right (And.right (And.right (by assumption))))) | exact And.right (And.right (And.right (And.right (by assumption)))) | exact And.left (And.right (And.right (And.right (And.right (And.right (by assumption)))))) | exact And.right (And.right (And.right (And.right (And.right (by assumption))))) | exact And.left (And.right (And.right (And.right (And.right (And.right (And.right (by assumption))))))) | exact And.right (And.right (And.right (And.right (And.right (And.right (by assumption)))))) | exact And.left (And.right (And.right (And.right (And.right (And.right (And.right (And.right (by assumption)))))))) | exact And.right (And.right (And.right (And.right (And.right (And.right (And.right (by assumption))))))) | exact And.left (And.right (And.right (And.right (And.right (And.right (And.right (And.right (And.right (by assumption))))))))) | exact And.right (And.right (And.right (And.right (And.right (And.right (And.right (And.right (by assumption)))))))) | fail
  k_with "my kne" => first | assumption | (refine Ne.symm ?_; assumption) | (refine neN ?_; (try dsimp only); first | (refine Nat.ne_of_lt ?_; k_extra "my lt") | (refine Nat.ne_of_gt ?_; k_extra "my lt") | omega) | fail
  k_with "my room" => first | exact upR 0 (by assumption) rfl | exact upR 1 (by assumption) rfl | exact upR 2 (by assumption) rfl | exact upR 3 (by assumption) rfl | exact upR 4 (by assumption) rfl | exact upR 5 (by assumption) rfl | exact upR 6 (by assumption) rfl | exact upR 7 (by assumption) rfl | exact upR 8 (by assumption) rfl | fail
  k_with "my units" => first | exact upR 0 (by assumption) rfl | exact upR 1 (by assumption) rfl | exact upR 2 (by assumption) rfl | exact upR 3 (by assumption) rfl | exact upR 4 (by assumption) rfl | exact upR 5 (by assumption) rfl | exact upR 6 (by assumption) rfl | exact upR 7 (by assumption) rfl | exact upR 8 (by assumption) rfl | exact upR 9 (by assumption) rfl | exact upR 10 (by assumption) rfl | exact upR 11 (by assumption) rfl | exact upR 12 (by assumption) rfl | fail
  k_with "my sub" => first | exact List.forall_mem_nil _ | assumption | exact List.forall_mem_cons.mpr ⟨(by k_mem), (by k_extra "my sub")⟩ | (intro p9 hp9; repeat (first | exact hp9 | refine List.Mem.tail _ ?_))
  k_with "my ne" => first | exact List.forall_mem_nil _ | assumption | exact List.forall_mem_cons.mpr ⟨(by first | assumption | k_ne), (by k_extra "my ne")⟩
  k_with "my subA" => (intro p9 hp9; repeat' (first | exact hp9 | exact List.mem_append_left _ hp9 | exact List.mem_append_right _ hp9 | refine List.Mem.tail _ ?_))
  k_with "my memB" => first | assumption | exact List.Mem.head _ | (refine List.Mem.tail _ ?_; k_extra "my memB") | (refine List.mem_append_left _ ?_; k_extra "my memB") | (refine List.mem_append_right _ ?_; k_extra "my memB")
  k_with "my leafB" => first | assumption | (refine List.Mem.tail _ ?_; k_extra "my leafB") | (refine List.mem_append_left _ ?_; k_extra "my leafB") | (refine List.mem_append_right _ ?_; k_extra "my leafB")
  k_with "my subB" => first | exact List.forall_mem_nil _ | exact List.forall_mem_cons.mpr ⟨(by k_extra "my memB"), (by k_extra "my subB")⟩ | exact List.forall_mem_append.mpr ⟨(by k_extra "my subB"), (by k_extra "my subB")⟩ | (intro p9 hp9; k_extra "my leafB")
  k_with "subscriptTail" => (k_here; (with_reducible show wpAny _ _ (subscriptTail _ _ (Value.bytes _ _) (Value.int _ _)) _ _ _); (refine KBw.item_K (by assumption) (by omega) (bit_lo (by assumption)) (bit_hi (by assumption) (by assumption)) ?_); walk_at "my t15")
  k_with "execs cons" => (k_here; dsimp only; k_gentoks)
  k_with "execs nil" => (k_here; dsimp only; k_gentoks)
  k_with "binaryOp RShift int int" => (k_here; (with_reducible refine rshift_int (by first | assumption | decide) ?_))
  k_with "my omega" => ((fail_if_success (fail_if_success omega (config := {}))); lia)
  replace hrd := neN hrd
  refine wpAny_call ?_
  k_dflt cell_enter
  have h7 : 0 ≤ 7 - Builtin.bitAnd ((i9 : Nat) : Int) 7 := by rw [bitAnd_m3]; omega
  k_steps
  rw [bit_is]
  exact hret _ _ _ _ (by assumption) (by assumption)
theorem bit_c {w : World} {mean : ExcName → Option Value} {mg mb : Str → Option Value} {news : List (Addr × Obj)} {g : Obj → List (Addr × Obj)} {rd dr : Addr} {b9 : Array UInt8} {tb ti t1 t2 : Tok} {ks : List Int} {i9 : Nat}
   {dp un : Nat} {gd : Option (List Code)} {cn : Str} {cs : Scope} {a : Addr} {ccd : Value} {cl : List (Str × Addr)} {outer : List Env} {A₀ : Around} {base h₀ : Heap} {L : Addr} {m : Str → Option Value} {s : Shared} {Q E : Value → Shared → Prop}
    (B : Below A₀ base outer h₀) (F : Fr h₀ L s.heap m) (X : (Mine.hd.heap_39 w.params).In h₀) (N : News h₀ L s.heap news) (T : Top Mine.hd.view_39 (looseW Mine.hd.view_39 []) mean mg mb h₀)
    (hk : cs.kind = .function) (U : UpdF dr (bitDict w b9 tb i9 ti t1 t2) news g) (hin : (rd, instObj 213 dr) ∈ news) (hrd : rd ≠ dr) (hb : KBw.bInts b9 = ks) (hks : ks.length < 1000) (h1 : (i9 : Int) < 8 * ks.length)
    (hdp : dp + 2 < recursionLimit) (hun : un + 16 < cLine)
    (hret : ∀ (t ti' : Tok) (h' : Heap) (tk' : Nat), Fr h₀ L h' m → News h₀ L h' (g (bitDict w b9 tb ((i9 : Int) + 1) ti' t1 t2)) → Q (.int (bitOf ks i9) t) { s with heap := h', toks := tk' }) :
      wpAny (model Challenge.rw_ok0140_01.row.prog w) (ktrTop dp un gd cn cs L a ccd cl outer) (call (.ref 203) [.ref rd]) Q E s := by
  obtain ⟨pre, post, rfl, hg, ha, hb'⟩ := U.split
  refine bit_core (tb := tb) (ti := ti) (t1 := t1) (t2 := t2) (b9 := b9) (dr := dr) B F X (news := pre ++ post) (fun p hp => ?_) T hk (fun p hp => (List.mem_append.mp hp).elim (ha p) (hb' p)) hrd hb hks (by omega) h1 hdp hun fun t ti' h' tk' F' N' => hret t ti' h' tk' F' ?_
  · rcases List.mem_cons.mp hp with rfl | hp
    · exact N _ hin
    · exact news_front N p hp
  · rw [hg]
    exact news_back fun p hp => N' p (.tail _ hp)
end bit
end
end Mine
-- LB5
namespace Mine
section

theorem lia_LB5 : True := by
  k_with_none
  k_with "my omega" => ((fail_if_success (fail_if_success omega (config := {}))); lia)
  trivial
section
variable {prog : Program} {w : World} {A : Around} {E : Value → Shared → Prop} {s : Shared} {env : Env} {h₀ : Heap} {body : List Stmt} {Q : Flow → Shared → Prop}
/-- a loop with three names over a list of triples; the list and its triples stand in the ledger, no turn changes them -/
theorem For3_S {σ : Type} {l : Addr} {ol : Obj} {vs : List Value} {nl : Nat} {m₀ : Str → Option Value} {x1 x2 x3 : Str} {p1 p2 p3 pt pos : Pos} {n0 : Nat} {iter : Expr} (Led : Nat → σ → List (Addr × Obj)) (ps : Nat → σ → List (Str × Value)) (Facts : Nat → σ → Prop) (P : Nat → Value → Value → Value → Prop) (stored : List Str) (c₀ : σ)
    (hol : ol = W.listOf vs.toArray nl) (hin : ∀ i c, (l, ol) ∈ Led i c) (hh : A.handled = none) (k1 : env.kindOf x1 = some .local) (k2 : env.kindOf x2 = some .local) (k3 : env.kindOf x3 = some .local)
    (hp : (env.scope.kind == .class || (env.scope.kind == .module && env.locals != env.globals)) = false) (hs : ∀ x, foldedSetIterable iter env x = pure x)
    (_F₀ : Fr h₀ env.locals s.heap m₀)
    (item : ∀ i v c, vs[i]? = some v → Facts i c → ∃ a v1 v2 v3, v = .ref a ∧ (a, tupO [v1, v2, v3]) ∈ Led i c ∧ P i v1 v2 v3)
    (h : wpAny (model prog w) A (eval iter env) (fun xv s₁ => xv = .ref l ∧ (∃ h tk, s₁ = { s with heap := h, toks := tk }) ∧ Fr h₀ env.locals s₁.heap m₀ ∧ News h₀ env.locals s₁.heap (Led 0 c₀)) E s) (hf : Facts 0 c₀) (hk : ∀ p ∈ ps 0 c₀, m₀ p.1 = some p.2)
    (turn : ∀ i v1 v2 v3 c u I io h tk, i < vs.length → P i v1 v2 v3 → Facts i c → (∀ p ∈ Led i c, p.1 ≠ I) → Fr h₀ env.locals h (fun y => if y = x3 then some v3 else if y = x2 then some v2 else if y = x1 then some v1 else mkFr (ps i c) stored u m₀ y) → News h₀ env.locals h ((I, io) :: Led i c) →
      wpAny (model prog w) A (execs body env) (TurnPost h₀ env.locals I io (fun m nx => ∃ c', nx = Led (i + 1) c' ∧ Facts (i + 1) c' ∧ FrIs (ps (i + 1) c') stored m₀ m) { s with heap := h, toks := tk } Q) E { s with heap := h, toks := tk })
    (done : ∀ c u h tk, Facts vs.length c → Fr h₀ env.locals h (mkFr (ps vs.length c) stored u m₀) → News h₀ env.locals h (Led vs.length c) → Q .next { s with heap := h, toks := tk })
    (hE : PassesOwn (model prog w) A env E := by passes_own) :
    wpAny (model prog w) A (exec (.For (.Tuple [.Name x1 p1, .Name x2 p2, .Name x3 p3] n0 pt) iter body [] pos) env) Q E s := by
  refine wpAny_For (wpAny_mono h (fun xv s₁ h₁ => ?_) fun _ _ e => e) hs
  obtain ⟨rfl, ⟨ha, ta, rfl⟩, F, N⟩ := h₁
  dsimp only at F N
  have hl0 := N _ (hin 0 c₀)
  have hls : ha.IsList l vs.toArray := ⟨ol, hl0.1, by rw [hol], nl, by rw [hol]⟩
  have hlt : l < ha.objs.size := Heap.lt_size hl0.1
  have hne : l ≠ ha.objs.size := Nat.ne_of_lt hlt
  refine wpAny_pyIter_list hls ?_
  have W := Walks.list (prog := prog) (w := w) hh ha.objs.size l hne vs.toArray
  have hI0 : h₀.get? ha.objs.size = none := next_is_new F
  have hLI : env.locals ≠ ha.objs.size := fun e => absurd F.ns.lt (e ▸ Nat.lt_irrefl _)
  have hlL : l ≠ env.locals := hl0.2.1
  have hsz : vs.toArray.size = vs.length := by simp
  rw [hsz] at W
  generalize hIe : ha.objs.size = I at *
  refine codeAny_forLoop_any (R := fun r s' => match r with | .ok f => Q f s' | .error e => cameBackBy (model prog w) A env E e s')
    (fun k s' => ∃ h' tk m' i c, s' = { s with heap := h', toks := tk } ∧ (h'.IsListIter I l i ∧ h'.IsList l vs.toArray) ∧ Fr h₀ env.locals h' m' ∧ FrIs (ps i c) stored m₀ m' ∧ News h₀ env.locals h' (Led i c) ∧ (∀ p ∈ Led i c, p.1 ≠ I) ∧ Facts i c ∧ i ≤ vs.length ∧ k = vs.length + 1 - i) ?_ (vs.length + 1)
    ⟨_, _, m₀, 0, c₀, rfl, ⟨⟨_, hIe ▸ Heap.get?_push_size _ rfl, rfl, rfl⟩, hls.at fun o e => Heap.get?_push_of_some _ e⟩, F.push _, ⟨hk, fun _ _ => rfl⟩, fun p hp => ⟨Heap.get?_push_of_some _ (N p hp).1, (N p hp).2⟩, fun p hp e => absurd (Heap.lt_size (N p hp).1) (by rw [e, hIe]; exact Nat.lt_irrefl _), hf, Nat.zero_le _, rfl⟩
  rintro k s' ⟨H, tk, m', i, c, rfl, hst', F', hfr, N', hnI, hfc, hi, rfl⟩
  have hItem : ∀ h₁ : Heap, (∀ b o, b ∉ [I] → H.get? b = some o → h₁.get? b = some o) → Fr h₀ env.locals h₁ m' ∧ News h₀ env.locals h₁ (Led i c) := fun h₁ hk₁ =>
    ⟨⟨F'.ns.at' fun o e => hk₁ _ o (by simpa using hLI) e, fun b o e => hk₁ b o (fun hm => by rw [List.mem_singleton.mp hm, hI0] at e; cases e) (F'.keep b o e), F'.above⟩, fun p hp => ⟨hk₁ _ _ (by simpa using hnI p hp) (N' p hp).1, (N' p hp).2⟩⟩
  by_cases hlt2 : i < vs.length
  · refine W.item i _ _ _ hlt2 hst' fun v h₁ tk₁ hP hst₁ hk₁ => ?_
    obtain ⟨F₁, N₁⟩ := hItem h₁ hk₁
    obtain ⟨a, v1, v2, v3, rfl, ha', hPP⟩ := item i v c (by simpa using hP) hfc
    refine letGo_listiter (s' := ⟨h₁, _, _, _, _⟩) hst₁.1 ?_
    have ht : h₁.IsTuple a #[v1, v2, v3] := ⟨_, (N₁ _ ha').1, rfl, 0, rfl⟩
    refine wpAny_assign_Tuple hh ht rfl rfl fun h₃ hx₃ => ?_
    replace hx₃ : Heap.ExtBut h₁.objs.size h₁ h₃ := hx₃
    have up₃ : ∀ b o, h₁.get? b = some o → h₃.get? b = some o := fun b o x => hx₃ b o (Nat.ne_of_lt (Heap.lt_size x)) x
    have F₃ := F₁.keeps up₃
    have N₃ : News h₀ env.locals h₃ (Led i c) := fun p hp => ⟨up₃ _ _ (N₁ p hp).1, (N₁ p hp).2⟩
    have st₃ : h₃.IsListIter I l (i + 1) ∧ h₃.IsList l vs.toArray := W.frame (i + 1) _ _ hst₁ fun b _ o e => up₃ b o e
    show wpAny _ A (do holding [v2, v3] (assign (.Name x1 p1) env v1); do holding [v3] (assign (.Name x2 p2) env v2); do holding [] (assign (.Name x3 p3) env v3); pure ()) _ _ _
    refine wpAny_bind (wpAny_holding (wpAny_assign_Name (wpAny_storeName_local k1 F₃.ns (fun h₄ hn₄ hs₄ => ?_) hp)))
    replace hs₄ : Heap.SameBut env.locals h₃ h₄ := hs₄
    have F₄ := F₃.set hn₄ hs₄
    refine wpAny_bind (wpAny_holding (wpAny_assign_Name (wpAny_storeName_local k2 F₄.ns (fun h₅ hn₅ hs₅ => ?_) hp)))
    replace hs₅ : Heap.SameBut env.locals h₄ h₅ := hs₅
    have F₅ := F₄.set hn₅ hs₅
    refine wpAny_bind (wpAny_holding (wpAny_assign_Name (wpAny_storeName_local k3 F₅.ns (fun h₆ hn₆ hs₆ => wpAny_pure ?_) hp)))
    replace hs₆ : Heap.SameBut env.locals h₅ h₆ := hs₆
    have F₆ := F₅.set hn₆ hs₆
    have N₆ : News h₀ env.locals h₆ (Led i c) := ((N₃.set hs₄).set hs₅).set hs₆
    have st₆ : h₆.IsListIter I l (i + 1) ∧ h₆.IsList l vs.toArray := W.frame (i + 1) _ _ st₃ fun b hb o e => by
      have hbL : env.locals ≠ b := fun q => by
        rcases List.mem_cons.mp hb with e1 | e1
        · exact hLI (q.trans e1)
        · exact hlL ((List.mem_singleton.mp e1).symm.trans q.symm)
      exact hs₆.extBut b o (Ne.symm hbL) (hs₅.extBut b o (Ne.symm hbL) (hs₄.extBut b o (Ne.symm hbL) e))
    obtain ⟨io, hio, hio2⟩ := st₆.1
    have hIL : I ≠ env.locals := Ne.symm hLI
    have NI : News h₀ env.locals h₆ ((I, io) :: Led i c) := fun p hp => by
      rcases List.mem_cons.mp hp with rfl | hp
      · exact ⟨hio, hIL, hI0⟩
      · exact N₆ p hp
    have F₇ : Fr h₀ env.locals h₆ (fun y => if y = x3 then some v3 else if y = x2 then some v2 else if y = x1 then some v1 else mkFr (ps i c) stored m' m₀ y) := by
      rw [hfr.eq]; exact F₆
    refine wpAny_passesOwn hE (wpAny_mono (turn i v1 v2 v3 c m' I io _ _ hlt2 hPP hfc hnI F₇ NI) (fun f s₃ h₈ => ?_) fun _ _ e => e)
    have fin : ∀ t9, TurnEnd h₀ env.locals I io (fun m nx => ∃ c', nx = Led (i + 1) c' ∧ Facts (i + 1) c' ∧ FrIs (ps (i + 1) c') stored m₀ m) { s with heap := h₆, toks := t9 } s₃ → ∃ m, m < vs.length + 1 - i ∧ ∃ h' tk m' i c, s₃ = { s with heap := h', toks := tk } ∧ (h'.IsListIter I l i ∧ h'.IsList l vs.toArray) ∧ Fr h₀ env.locals h' m' ∧ FrIs (ps i c) stored m₀ m' ∧ News h₀ env.locals h' (Led i c) ∧ (∀ p ∈ Led i c, p.1 ≠ I) ∧ Facts i c ∧ i ≤ vs.length ∧ m = vs.length + 1 - i := by
      rintro t9 ⟨h', tk', m2, nx, rfl, F2, N2, hI2, c', rfl, hf2, hfr2⟩
      refine ⟨vs.length + 1 - (i + 1), by omega, h', tk', m2, i + 1, c', rfl, ⟨⟨io, (N2 _ (.head _)).1, hio2⟩, ⟨ol, (N2 _ (.tail _ (hin (i + 1) c'))).1, by rw [hol], nl, by rw [hol]⟩⟩, F2, hfr2, fun p hp => N2 p (.tail _ hp), hI2, hf2, hlt2, rfl⟩
    cases f with
    | ret v => exact h₈
    | brk => exact h₈
    | cont => exact fin _ h₈
    | next => exact fin _ h₈
  · have hin' : i = vs.length := by omega
    subst hin'
    refine W.done _ _ _ hst' fun h₁ tk₁ hk₁ => wpAny_execs_nil ?_
    obtain ⟨F₁, N₁⟩ := hItem h₁ hk₁
    refine done c m' h₁ tk₁ hfc ?_ N₁
    rw [hfr.eq]
    exact F₁
end
end
end Mine
-- L10
namespace Mine
section

noncomputable def accB (ks : List Int) (at9 : Nat) : Nat → Int
  | 0 => 0
  | j + 1 => accB ks at9 j * 2 + bitOf ks (at9 + j)
theorem bitOf_01 (ks : List Int) (i : Nat) : 0 ≤ bitOf ks i ∧ bitOf ks i < 2 := by unfold bitOf; omega
theorem accB_bnd (ks : List Int) (i : Nat) : ∀ j, 0 ≤ accB ks i j ∧ accB ks i j < 2 ^ j
  | 0 => ⟨Int.le_refl _, by show (0 : Int) < 1; decide⟩
  | j + 1 => by
    have h1 := accB_bnd ks i j
    have h2 := bitOf_01 ks (i + j)
    have e : (2 : Int) ^ (j + 1) = 2 ^ j * 2 := Int.pow_succ ..
    show 0 ≤ accB ks i j * 2 + bitOf ks (i + j) ∧ accB ks i j * 2 + bitOf ks (i + j) < 2 ^ (j + 1)
    rw [e]
    omega
theorem mulD {ks : List Int} {i j : Nat} {k : Int} (hj : j < 16) : PySem.IntMulOk (accB ks i j) k := by
  have h := accB_bnd ks i j
  have : (2 : Int) ^ j ≤ 2 ^ 16 := by exact_mod_cast Nat.pow_le_pow_right (by omega) (by omega)
  exact PySem.IntMulOk.of_left (PySem.intBits_le_64 (by omega) (by omega))
structure BS where
  ti : Tok
  tc : Tok
theorem turn_ret {h₀ : Heap} {L I : Addr} {io : Obj} {J : (Str → Option Value) → List (Addr × Obj) → Prop} {s₁ s₂ : Shared} {Q : Flow → Shared → Prop} {v : Value} (h : Q (.ret v) s₂) : TurnPost h₀ L I io J s₁ Q (.ret v) s₂ := h
end
end Mine
local macro_rules | `(tactic| walk_at "my t16") => `(tactic| (intro t9 ti9 h9 tk9 F9 N9; (try dsimp only at N9); (try dsimp only); (try k_fold)))
namespace Mine
section

section read
local macro_rules | `(tactic| mul_fits) => `(tactic| first | exact mulD (by assumption))
theorem read_core {w : World} {mean : ExcName → Option Value} {mg mb : Str → Option Value} {news : List (Addr × Obj)} {rd dr x dx sy rl cd tu : Addr} {b9 : Array UInt8} {tb ti t1 t2 q1 q2 q3 q4 : Tok} {ks cs9 ss : List Int} {i9 n9 : Nat} {syv vs : List Value} {nl : Nat}
   {dp un : Nat} {gd : Option (List Code)} {cn : Str} {cs : Scope} {a : Addr} {ccd : Value} {cl : List (Str × Addr)} {outer : List Env} {A₀ : Around} {base h₀ : Heap} {L : Addr} {m : Str → Option Value} {s : Shared} {Q E : Value → Shared → Prop}
    (B : Below A₀ base outer h₀) (F : Fr h₀ L s.heap m) (X : (Mine.hd.heap_39 w.params).In h₀) (N : News h₀ L s.heap ((rd, instObj 213 dr) :: (dr, bitDict w b9 tb i9 ti t1 t2) :: (x, instObj 122 dx) :: (dx, tabDict w tu sy rl cd q1 q2 q3 q4) :: (sy, tupO syv) :: (rl, W.listOf vs.toArray nl) :: news)) (T : Top Mine.hd.view_39 (looseW Mine.hd.view_39 []) mean mg mb h₀)
    (hk : cs.kind = .function) (hne2 : ∀ p ∈ news, p.1 ≠ dr) (hrd : rd ≠ dr) (e2 : x ≠ dr) (e4 : dx ≠ dr) (e6 : sy ≠ dr) (e8 : rl ≠ dr)
    (hb : KBw.bInts b9 = ks) (hks : ks.length < 1000) (hr : RowsAt cs9 16 vs news) (hsy : IntsAre syv ss)
    (hn : n9 < 16) (hhit : accB ks i9 (n9 + 1) - codeAt cs9 n9 < cs9.getD n9 0) (hmiss : ∀ j, j < n9 → ¬ accB ks i9 (j + 1) - codeAt cs9 j < cs9.getD j 0) (hix0 : 0 ≤ placeAt cs9 n9 + accB ks i9 (n9 + 1) - codeAt cs9 n9) (hix1 : placeAt cs9 n9 + accB ks i9 (n9 + 1) - codeAt cs9 n9 < ss.length) (hss : ss.length < 1000) (hlen : (i9 : Int) + n9 < 8 * ks.length)
    (hdp : dp + 4 < recursionLimit) (hun : un + 30 < cLine)
    (hret : ∀ (t ti' : Tok) (h' : Heap) (tk' : Nat), Fr h₀ L h' m → News h₀ L h' ((rd, instObj 213 dr) :: (dr, bitDict w b9 tb ((i9 + n9 + 1 : Nat) : Int) ti' t1 t2) :: (x, instObj 122 dx) :: (dx, tabDict w tu sy rl cd q1 q2 q3 q4) :: (sy, tupO syv) :: (rl, W.listOf vs.toArray nl) :: news) → Q (.int (ss.getD (placeAt cs9 n9 + accB ks i9 (n9 + 1) - codeAt cs9 n9).toNat 0) t) { s with heap := h', toks := tk' }) :
      wpAny (model Challenge.rw_ok0140_01.row.prog w) (ktrTop dp un gd cn cs L a ccd cl outer) (call (.ref 119) [.ref x, .ref rd]) Q E s := by
  k_with_none
  k_with "my lt" => first | assumption | exact And.left (by assumption) | exact And.left (And.right (by assumption)) | exact And.right (by assumption) | exact And.left (And.right (And.right (by assumption))) | exact And.right (And.right (by assumption)) | exact And.left (And.right (And.right (And.right (by assumption)))) | exact And.right (And.right (And.right (by assumption))) | exact And.left (And.right (And.right (And.right (And.right (by assumption))))) | exact And.right (And.right (And.right (And.right (by assumption)))) | exact And.left (And.right (And.right (And.right (And.right (And.right (by assumption)))))) | exact And.right (And.right (And.right (And.right (And.right (by assumption))))) | exact And.left (And.right (And.right (And.right (And.right (And.right (And.right (by assumption))))))) | exact And.right (And.right (And.right (And.right (And.right (And.right (by assumption)))))) | exact And.left (And.right (And.right (And.right (And.right (And.right (And.right (And.right (by assumption)))))))) | exact And.right (And.right (And.right (And.right (And.right (And.right (And.right (by assumption))))))) | exact And.left (And.right (And.right (And.right (And.right (And.right (And.right (And.right (And.right (by assumption))))))))) | exact And.right (And.right (And.right (And.right (And.right (And.right (And.right (And.right (by assumption)))))))) | fail
  k_with "my kne" => first | assumption | (refine Ne.symm ?_; assumption) | (refine neN ?_; (try dsimp only); first | (refine Nat.ne_of_lt ?_; k_extra "my lt") | (refine Nat.ne_of_gt ?_; k_extra "my lt") | omega) | fail
  k_with "my room" => first | exact upR 0 (by assumption) rfl | exact upR 1 (by assumption) rfl | exact upR 2 (by assumption) rfl | exact upR 3 (by assumption) rfl | exact upR 4 (by assumption) rfl | exact upR 5 (by assumption) rfl | exact upR 6 (by assumption) rfl | exact upR 7 (by assumption) rfl | exact upR 8 (by assumption) rfl | fail
  k_with "my units" => first | exact upR 0 (by assumption) rfl | exact upR 1 (by assumption) rfl | exact upR 2 (by assumption) rfl | exact upR 3 (by assumption) rfl | exact upR 4 (by assumption) rfl | exact upR 5 (by assumption) rfl | exact upR 6 (by assumption) rfl | exact upR 7 (by assumption) rfl | exact upR 8 (by assumption) rfl | exact upR 9 (by assumption) rfl | exact upR 10 (by assumption) rfl | exact upR 11 (by assumption) rfl | exact upR 12 (by assumption) rfl | fail
  k_with "my sub" => first | exact List.forall_mem_nil _ | assumption | exact List.forall_mem_cons.mpr ⟨(by k_mem), (by k_extra "my sub")⟩ | (intro p9 hp9; repeat (first | exact hp9 | refine List.Mem.tail _ ?_))
  k_with "my ne" => first | exact List.forall_mem_nil _ | assumption | exact List.forall_mem_cons.mpr ⟨(by first | assumption | k_ne), (by k_extra "my ne")⟩
  k_with "my subA" => (intro p9 hp9; repeat' (first | exact hp9 | exact List.mem_append_left _ hp9 | exact List.mem_append_right _ hp9 | refine List.Mem.tail _ ?_))
  k_with "my memB" => first | assumption | exact List.Mem.head _ | (refine List.Mem.tail _ ?_; k_extra "my memB") | (refine List.mem_append_left _ ?_; k_extra "my memB") | (refine List.mem_append_right _ ?_; k_extra "my memB")
  k_with "my leafB" => first | assumption | (refine List.Mem.tail _ ?_; k_extra "my leafB") | (refine List.mem_append_left _ ?_; k_extra "my leafB") | (refine List.mem_append_right _ ?_; k_extra "my leafB")
  k_with "my subB" => first | exact List.forall_mem_nil _ | exact List.forall_mem_cons.mpr ⟨(by k_extra "my memB"), (by k_extra "my subB")⟩ | exact List.forall_mem_append.mpr ⟨(by k_extra "my subB"), (by k_extra "my subB")⟩ | (intro p9 hp9; k_extra "my leafB")
  k_with "pyIter ref" => (refine halt ?_)
  k_with "execs cons" => (k_here; dsimp only; k_gentoks)
  k_with "execs nil" => (k_here; dsimp only; k_gentoks)
  k_with "exec For" => (refine halt ?_)
  k_with "call ref" => (k_here; k_dflt (refine' bit_c ?k1 ?k2 ?k3 ?k4 ?k5 ?kK ?kU ?ki ?kn ?kb ?kl ?kh ?kd ?ku ?_; (case k1 => k_asm); (case k2 => k_asm); (case k3 => k_asm); (case k4 => k_asm); (case k5 => k_asm); (case kK => first | exact rfl | assumption); (case ki => k_mem); (case kU => k_updF); (case kn => assumption); (case kb => assumption); (case kl => assumption); (case kh => omega); (case kd => ktr_room); (case ku => ktr_units)); walk_at "my t16")
  k_with "subscriptTail" => (k_here; (with_reducible show wpAny _ _ (subscriptTail _ _ (Value.ref _) (Value.int _ _)) _ _ _); (with_unfolding_all refine' tup_ints (by exact News.isTup (by k_asm) (by k_mem)) (by assumption) (by omega) (by omega) (by omega) ?_); walk_at "my t9")
  k_with "my omega" => ((fail_if_success (fail_if_success omega (config := {}))); lia)
  replace hrd := neN hrd; replace e2 := neN e2; replace e4 := neN e4; replace e6 := neN e6; replace e8 := neN e8
  refine wpAny_call ?_
  k_dflt cell_enter
  k_steps
  rename_i h1 F1 N1
  refine Halt.go ?_
  refine' For3_S (σ := BS) (l := rl) (fun i c => (rd, instObj 213 dr) :: (dr, bitDict w b9 tb ((i9 + i : Nat) : Int) c.ti t1 t2) :: (x, instObj 122 dx) :: (dx, tabDict w tu sy rl cd q1 q2 q3 q4) :: (sy, tupO syv) :: (rl, W.listOf vs.toArray nl) :: news) (fun i c => [(Str.ofString "code", .int (accB ks i9 i) c.tc)]) (fun i c => i ≤ n9)
    (fun i v1 v2 v3 => ∃ t1 t2 t3, v1 = .int (codeAt cs9 i) t1 ∧ v2 = .int (cs9.getD i 0) t2 ∧ v3 = .int (placeAt cs9 i) t3)
    [Str.ofString "first", Str.ofString "many", Str.ofString "place", Str.ofString "code"] ⟨ti, _⟩ rfl (fun i c => ?min) rfl rfl rfl rfl rfl ?hs F1 ?item ?it (Nat.zero_le _) (List.forall_mem_singleton.mpr rfl) ?_ ?_
  case min => k_mem
  case hs => intro _; rfl
  case it =>
    k_steps
    · exact F1
    · exact N1
  case item =>
    intro i v c hv hf
    obtain ⟨a, o, e1, e2, tr1, tr2, tr3, rfl⟩ := hr.2 i (by omega)
    rw [hv] at e1
    cases e1
    exact ⟨a, _, _, _, rfl, .tail _ (.tail _ (.tail _ (.tail _ (.tail _ (.tail _ e2))))), tr1, tr2, tr3, rfl, rfl, rfl⟩
  · clear F1 N1
    intro i v1 v2 v3 c u I io h tk' hi hP hf hI F3 N3
    obtain ⟨tr1, tr2, tr3, rfl, rfl, rfl⟩ := hP
    have hi16 : i < 16 := by omega
    simp only [List.forall_mem_cons] at hI
    obtain ⟨hI1, hI2, hI3, hI4, hI5, hI6, hI7⟩ := hI
    replace hI1 := neN hI1; replace hI2 := neN hI2; replace hI3 := neN hI3; replace hI4 := neN hI4; replace hI5 := neN hI5; replace hI6 := neN hI6
    rcases Nat.lt_or_eq_of_le hf with hlt | rfl
    · have hm : ¬ (accB ks i9 i * 2 + bitOf ks (i9 + i) - codeAt cs9 i < cs9.getD i 0) := hmiss i hlt
      clear hix0 hix1 hhit
      k_steps
      rename_i t9a ti9a h9a tk9a hN F4 N4 tkN
      have e9 : ((i9 + i : Nat) : Int) + 1 = ((i9 + (i + 1) : Nat) : Int) := by omega
      rw [e9] at N4
      refine' TurnPost.next ?F1 (cb_drop ?N1 ?sub1) ?hI1 ?J1
      case F1 => assumption
      case J1 =>
        refine' ⟨⟨ti9a, tk9a⟩, rfl, hlt, List.forall_mem_singleton.mpr rfl, fun z hz => ?fr1⟩
        case fr1 =>
          dsimp only
          (repeat' (with_reducible (refine off_if (ne_of_stored hz ?_) ?_)))
          all_goals first | rfl | exact mkFr_off hz rfl rfl rfl
      case N1 => exact N4
      case sub1 => k_extra "my sub"
      case hI1 => k_extra "my ne"
    · have hm : (accB ks i9 i * 2 + bitOf ks (i9 + i) - codeAt cs9 i < cs9.getD i 0) := hhit
      have hx0 : 0 ≤ placeAt cs9 i + (accB ks i9 i * 2 + bitOf ks (i9 + i)) - codeAt cs9 i := hix0
      have hx1 : placeAt cs9 i + (accB ks i9 i * 2 + bitOf ks (i9 + i)) - codeAt cs9 i < ss.length := hix1
      k_steps
      refine turn_ret ?_
      k_steps
      rename_i kF kN kT kX
      have e9 : ((i9 + i : Nat) : Int) + 1 = ((i9 + i + 1 : Nat) : Int) := by omega
      rw [e9] at kN
      exact hret _ _ _ _ kF fun p hp => kN p (.tail _ hp)
  · intro c u h tk' hf F3 N3
    rw [hr.1] at hf
    exact absurd hf (by omega)
theorem read_c {w : World} {mean : ExcName → Option Value} {mg mb : Str → Option Value} {news : List (Addr × Obj)} {g : Obj → List (Addr × Obj)} {rd dr : Addr} {b9 : Array UInt8} {tb ti t1 t2 : Tok} {ks cs9 ss : List Int} {i9 n9 : Nat} {tv : Value}
   {dp un : Nat} {gd : Option (List Code)} {cn : Str} {cs : Scope} {a : Addr} {ccd : Value} {cl : List (Str × Addr)} {outer : List Env} {A₀ : Around} {base h₀ : Heap} {L : Addr} {m : Str → Option Value} {s : Shared} {Q E : Value → Shared → Prop}
    (B : Below A₀ base outer h₀) (F : Fr h₀ L s.heap m) (X : (Mine.hd.heap_39 w.params).In h₀) (N : News h₀ L s.heap news) (T : Top Mine.hd.view_39 (looseW Mine.hd.view_39 []) mean mg mb h₀)
    (hk : cs.kind = .function) (hin : (rd, instObj 213 dr) ∈ news) (U : UpdF dr (bitDict w b9 tb i9 ti t1 t2) news g) (hrd : rd ≠ dr) (fz : List (Addr × Obj)) (hT : TableObjs w cs9 ss tv fz) (hfz : ∀ p ∈ fz, p ∈ news) (hfd : ∀ p ∈ fz, p.1 ≠ dr)
    (hb : KBw.bInts b9 = ks) (hks : ks.length < 1000)
    (hn : n9 < 16) (hhit : accB ks i9 (n9 + 1) - codeAt cs9 n9 < cs9.getD n9 0) (hmiss : ∀ j, j < n9 → ¬ accB ks i9 (j + 1) - codeAt cs9 j < cs9.getD j 0) (hix0 : 0 ≤ placeAt cs9 n9 + accB ks i9 (n9 + 1) - codeAt cs9 n9) (hix1 : placeAt cs9 n9 + accB ks i9 (n9 + 1) - codeAt cs9 n9 < ss.length) (hss : ss.length < 1000) (hlen : (i9 : Int) + n9 < 8 * ks.length)
    (hdp : dp + 4 < recursionLimit) (hun : un + 30 < cLine)
    (hret : ∀ (t ti' : Tok) (h' : Heap) (tk' : Nat), Fr h₀ L h' m → News h₀ L h' (g (bitDict w b9 tb ((i9 + n9 + 1 : Nat) : Int) ti' t1 t2)) → Q (.int (ss.getD (placeAt cs9 n9 + accB ks i9 (n9 + 1) - codeAt cs9 n9).toNat 0) t) { s with heap := h', toks := tk' }) :
      wpAny (model Challenge.rw_ok0140_01.row.prog w) (ktrTop dp un gd cn cs L a ccd cl outer) (call (.ref 119) [tv, .ref rd]) Q E s := by
  obtain ⟨pre, post, rfl, hg, ha, hb'⟩ := U.split
  obtain ⟨x, dx, sy, rl, cd, tu, syv, vs, nl, q1, q2, q3, q4, rfl, m1, m2, m3, hsy, m4, hra⟩ := hT
  have off : ∀ p ∈ fz, p ∈ pre ++ post := fun p hp => by
    have h1 := hfz p hp
    have h2 := hfd p hp
    rcases List.mem_append.mp h1 with h | h
    · exact List.mem_append_left _ h
    · rcases List.mem_cons.mp h with rfl | h
      · exact absurd rfl h2
      · exact List.mem_append_right _ h
  refine read_core (cd := cd) (tu := tu) (q1 := q1) (q2 := q2) (q3 := q3) (q4 := q4) (tb := tb) (ti := ti) (t1 := t1) (t2 := t2) (b9 := b9) (dr := dr) (dx := dx) (sy := sy) (rl := rl) (syv := syv) (vs := vs) (nl := nl) (news := pre ++ post) B F X (fun p hp => ?_) T hk
    (fun p hp => (List.mem_append.mp hp).elim (ha p) (hb' p)) hrd (hfd _ m1) (hfd _ m2) (hfd _ m3) (hfd _ m4) hb hks (RowsAt.mono hra off) hsy hn hhit hmiss hix0 hix1 hss hlen hdp hun fun t ti' h' tk' F' N' => hret t ti' h' tk' F' ?_
  · simp only [List.mem_cons] at hp
    rcases hp with rfl | rfl | rfl | rfl | rfl | rfl | hp
    · exact N _ hin
    · exact N _ (List.mem_append_right _ (.head _))
    · exact N _ (hfz _ m1)
    · exact N _ (hfz _ m2)
    · exact N _ (hfz _ m3)
    · exact N _ (hfz _ m4)
    · rcases List.mem_append.mp hp with h | h
      · exact N _ (List.mem_append_left _ h)
      · exact N _ (List.mem_append_right _ (.tail _ h))
  · rw [hg]
    refine news_back fun p hp => N' p ?_
    rcases List.mem_cons.mp hp with rfl | hp
    · exact .tail _ (.head _)
    · exact .tail _ (.tail _ (.tail _ (.tail _ (.tail _ (.tail _ hp)))))
end read
end
end Mine
-- LB6
namespace Mine
section
open PySem.NumText
theorem lia_LB6 : True := by
  k_with_none
  k_with "my omega" => ((fail_if_success (fail_if_success omega (config := {}))); lia)
  trivial
theorem typeCall_int_2 (a b : Value) : checkTypeCall "int" ⟨[a, b], []⟩ = pure () := by kernel_rfl
theorem newCall_int_2 (a b : Value) : checkBuiltinCall "int.__new__" ⟨[.type "int", a, b], []⟩ = pure () := by kernel_rfl
theorem map_point {α : Type} {f g : Nat → α} : ∀ {l : List Nat}, l.map f = l.map g → ∀ c ∈ l, f c = g c
  | [], _, _, h => nomatch h
  | a :: l, e, c, h => by
    rw [List.map_cons, List.map_cons, List.cons.injEq] at e
    rcases List.mem_cons.mp h with rfl | h
    · exact e.1
    · exact map_point e.2 c h
theorem read8 (c : Nat) (h : c < 256) : (int_private% "readNumeral") 0 2 ((bitsL 8 c).takeWhile (· != 0)) = (int_private% "Numeral.value") (c : Int) := by
  have e : (List.range 256).map (fun c => (int_private% "readNumeral") 0 2 ((bitsL 8 c).takeWhile (· != 0))) = (List.range 256).map (fun c : Nat => (int_private% "Numeral.value") (c : Int)) := by kernel_rfl
  exact map_point e c (List.mem_range.mpr h)
theorem take_all {p : Nat → Bool} : ∀ {l : List Nat}, (∀ x ∈ l, p x = true) → l.takeWhile p = l
  | [], _ => rfl
  | a :: l, h => by
    rw [List.takeWhile_cons, if_pos (h a (.head _)), take_all fun x hx => h x (.tail _ hx)]
theorem bits_rng : ∀ (s c : Nat) x, x ∈ bitsL s c → 48 ≤ x ∧ x < 50
  | 0, _, x, h => nomatch h
  | s + 1, c, x, h => by
    rcases List.mem_append.mp (show x ∈ bitsL s (c / 2) ++ [48 + c % 2] from h) with h | h
    · exact bits_rng s _ x h
    · rw [List.mem_singleton.mp h]; omega
theorem bits_nz (s c : Nat) : (bitsL s c).takeWhile (· != 0) = bitsL s c := take_all fun x hx => by
  have := (bits_rng s c x hx).1
  simp; omega
theorem wp_text2 {M : Model} {A : Around} {E : Value → Shared → Prop} {s : Shared} {Q : Value → Shared → Prop} {v : Value} {text : List Nat} {n : Int}
    (hs : (text.takeWhile (· != 0)).length ≤ 640) (hr : (int_private% "readNumeral") 0 2 (text.takeWhile (· != 0)) = (int_private% "Numeral.value") n)
    (ha : ((text.takeWhile (· != 0)).length == text.length) = true) (h : Q (.int n s.toks) { s with toks := s.toks + 1 }) :
    wpAny M A ((int_private% "intFromText") v text 2) Q E s := by
  obtain ⟨hp, g, d, tk, os⟩ := s
  repeat (any_goals (first
    | assumption
    | (with_reducible refine wpAny_ite_true (decide_eq_true hs) ?_)
    | (with_reducible refine wpAny_ite_true (decide_eq_true ha) ?_)
    | wp_step))
  all_goals (try rw [hr])
  all_goals (try dsimp only)
  repeat (any_goals (first
    | assumption
    | (with_reducible refine wpAny_ite_true (decide_eq_true hs) ?_)
    | (with_reducible refine wpAny_ite_true (decide_eq_true ha) ?_)
    | wp_step))
structure Hid9 (p : Prop) : Prop where
  out : p
theorem gives_int2_gen {x : Str} {u u2 : Tok} {n : Int} (hs : (numSeenOf x).length ≤ 640) (hr : (int_private% "readNumeral") 0 2 (numSeenOf x) = (int_private% "Numeral.value") n) (ha : ((numSeenOf x).length == (numTextOf x).length) = true) :
    Gives (Builtin.«int.__new__» ⟨[.type "int", .str x u, .int 2 u2], []⟩) (.int n) :=
  .of_wp fun M A E s Q h => by
    obtain ⟨hp, g, d, tk, os⟩ := s
    have f1 := PySem.F.conv_sub_int
    have f2 := PySem.F.madeHere_int
    have f6 : typeOf (.str x u) = pure (.type "str") := rfl
    have hk := Hid9.mk (And.intro hs (And.intro hr ha))
    clear hs hr ha
    repeat (any_goals (first
      | assumption
      | ((with_reducible show wpAny _ _ ((int_private% "intFromText") _ _ _) _ _ _); refine wp_text2 hk.out.1 hk.out.2.1 hk.out.2.2 ?_)
      | wp_step))
    all_goals first | exact ⟨_, rfl, h⟩ | skip
theorem bits_text (c : Nat) : numTextOf (bitsS 8 c) = bitsL 8 c := by
  unfold numTextOf
  have : (bitsS 8 c).cps.all (· < 128) = true := by
    rw [Array.all_eq_true']
    intro x hx
    have := bits_rng 8 c x (by simpa [bitsS] using hx)
    exact decide_eq_true (by omega)
  rw [if_pos this]
  simp [bitsS]
theorem gives_int2 {c : Nat} {u u2 : Tok} (hc : c < 256) : Gives (Builtin.«int.__new__» ⟨[.type "int", .str (bitsS 8 c) u, .int 2 u2], []⟩) (.int (c : Int)) := by
  have e : numSeenOf (bitsS 8 c) = (bitsL 8 c).takeWhile (· != 0) := by unfold numSeenOf; rw [bits_text]
  refine gives_int2_gen ?_ ?_ ?_
  · rw [e, bits_nz, bitsL_len]; decide
  · rw [e]; exact read8 c hc
  · rw [e, bits_text, bits_nz]; simp
section
variable {prog : Program} {w : World} {A : Around} {E : Value → Shared → Prop} {s : Shared} {Q : Value → Shared → Prop}
theorem call_int2 {c : Nat} {u u2 : Tok} (hc : c < 256) (h : Q (.int (c : Int) s.toks) { s with toks := s.toks + 1 }) : wpAny (model prog w) A (call (.type "int") [.str (bitsS 8 c) u, .int 2 u2]) Q E s :=
  callType_new PySem.F.called_int PySem.F.newNe_int (typeCall_int_2 _ _) (newCall_int_2 _ _) (fun obj => PySem.F.args_object_init_3 obj _ _) PySem.F.entry_int_new (gives_int2 hc).meets (show (Made.int (c : Int)).post _ s from ⟨rfl, h⟩)
end
end
end Mine
-- LB7
namespace Mine
section
open PyProof.Rows.LCg PyProof.Rows.LCt
theorem lia_LB7 : True := by
  k_with_none
  k_with "my omega" => ((fail_if_success (fail_if_success omega (config := {}))); lia)
  trivial
section
variable {prog : Program} {w : World} {A : Around} {E : Value → Shared → Prop} {s : Shared} {h₀ : Heap} {L : Addr} {m : Str → Option Value} {env : Env}
theorem end_mono {I C D : Addr} {s₁ s₂ : Shared} {oI oC oD : Obj} {S : List (Addr × Obj) → Prop} {rest rest' : Value → List (Addr × Obj) → Prop} {y : Value} (h : CompEnd h₀ L m s₁ I oI C oC D oD S rest y s₂) (hr : ∀ n, rest y n → rest' y n) :
    CompEnd h₀ L m s₁ I oI C oC D oD S rest' y s₂ := by
  obtain ⟨h', tk, news', e, F, N, off, hS, r⟩ := h
  exact ⟨h', tk, news', e, F, N, off, hS, hr _ r⟩
theorem rest_inv {elt : Expr} {x : Str} {scope : Scope} {cl : List (Str × Addr)} {S : List (Addr × Obj) → Prop} {P : Nat → Value → Prop} {Fin : List Value → List (Addr × Obj) → Prop} {n : Nat} (Inv : Nat → List Value → List (Addr × Obj) → Prop)
    (turn : ∀ i ys news v I oI C oC D m₂ h tk (E' : Value → Shared → Prop), i < n → Inv i ys news → P i v → NsObj oC m₂ → m₂ x = some v → Fr h₀ L h m → News h₀ L h ((I, oI) :: (C, oC) :: (D, lst ys) :: news) → Off3 I C D news → ((@Ne Nat I C) ∧ (@Ne Nat I D) ∧ (@Ne Nat C D)) →
      wpAny (model prog w) A (eval elt (compEnvC scope cl C env)) (CompEnd h₀ L m { s with heap := h, toks := tk } I oI C oC D (lst ys) S (fun y news' => Inv (i + 1) (ys ++ [y]) news')) E' { s with heap := h, toks := tk })
    (fin : ∀ ys news, Inv n ys news → Fin ys news) : ∀ k i ys news, i + k = n → Inv i ys news → CompRest prog w A h₀ L m env elt x scope cl s S P Fin k i ys news
  | 0, i, ys, news, e, hi => CompRest.zero (fin ys news (by rw [← e]; exact hi))
  | k + 1, i, ys, news, e, hi => CompRest.succ fun v I oI C oC D m₂ h tk E' hP hC hx F N off ne =>
      wpAny_mono (turn i ys news v I oI C oC D m₂ h tk E' (by omega) hi hP hC hx F N off ne) (fun y s₂ ce => end_mono ce fun n' q => rest_inv Inv turn fin k (i + 1) _ _ (by omega) q) fun _ _ q => q
theorem rest_invT {ct elt : Expr} {x : Str} {scope : Scope} {cl : List (Str × Addr)} {S : List (Addr × Obj) → Prop} {P : Nat → Value → Prop} {Fin : List Value → List (Addr × Obj) → Prop} {n : Nat} (Inv : Nat → List Value → List (Addr × Obj) → Prop)
    (turn : ∀ i ys news v I oI C oC D m₂ h tk (E' : Value → Shared → Prop), i < n → Inv i ys news → P i v → NsObj oC m₂ → m₂ x = some v → Fr h₀ L h m → News h₀ L h ((I, oI) :: (C, oC) :: (D, lst ys) :: news) → Off3 I C D news → ((@Ne Nat I C) ∧ (@Ne Nat I D) ∧ (@Ne Nat C D)) →
      wpAny (model prog w) A (isTrue ct (compEnvC scope cl C env) (eval ct (compEnvC scope cl C env))) (fun ok s' => if ok = true then
        wpAny (model prog w) A (eval elt (compEnvC scope cl C env)) (CompEnd h₀ L m { s with heap := h, toks := tk } I oI C oC D (lst ys) S (fun y news' => Inv (i + 1) (ys ++ [y]) news')) E' s'
        else CompEnd h₀ L m { s with heap := h, toks := tk } I oI C oC D (lst ys) S (fun _ news' => Inv (i + 1) ys news') Value.none s') E' { s with heap := h, toks := tk })
    (fin : ∀ ys news, Inv n ys news → Fin ys news) : ∀ k i ys news, i + k = n → Inv i ys news → CompRestT prog w A h₀ L m env ct elt x scope cl s S P Fin k i ys news
  | 0, i, ys, news, e, hi => CompRestT.zero (fin ys news (by rw [← e]; exact hi))
  | k + 1, i, ys, news, e, hi => CompRestT.succ fun v I oI C oC D m₂ h tk E' hP hC hx F N off ne =>
      wpAny_mono (turn i ys news v I oI C oC D m₂ h tk E' (by omega) hi hP hC hx F N off ne) (fun ok s' q => by
        cases ok with
        | true =>
          simp only [if_true] at q ⊢
          exact wpAny_mono q (fun y s₂ ce => end_mono ce fun n' q => rest_invT Inv turn fin k (i + 1) _ _ (by omega) q) fun _ _ q => q
        | false =>
          simp only [Bool.false_eq_true, if_false] at q ⊢
          exact end_mono q fun n' q => rest_invT Inv turn fin k (i + 1) _ _ (by omega) q) fun _ _ q => q
noncomputable def SrcW (prog : Program) (w : World) (A : Around) (h₀ : Heap) (L : Addr) (m : Str → Option Value) (env : Env) (elt : Expr) (x : Str) (scope : Scope) (cl : List (Str × Addr)) (Fin : Shared → List Value → List (Addr × Obj) → Prop) (xv : Value) (s₁ : Shared) : Prop :=
  ∃ r a b c t u v n news, xv = .ref r ∧ A.handled = none ∧ Fr h₀ L s₁.heap m ∧ News h₀ L s₁.heap news ∧ IsRange s₁.heap r a b c t u v ∧ Builtin.Range.small a b c = true ∧ Builtin.Range.rangeSize a b c = ((n : Nat) : Int) ∧ n ≤ sizeLine ∧
      ∀ s₂ : Shared, (∃ h, s₂ = { s₁ with heap := h }) → CompRest prog w A h₀ L m env elt x scope cl s₂ (fun _ => True) (fun i v => ∃ t, v = .int (a + (i : Int) * c) t) (Fin s₂) n 0 [] news
theorem SrcW.mk9 {elt : Expr} {x : Str} {scope : Scope} {cl : List (Str × Addr)} {Fin : Shared → List Value → List (Addr × Obj) → Prop} {s₁ : Shared} {r : Addr} {a b c : Int} {t u v : Tok} {n : Nat} {news : List (Addr × Obj)}
    (hh : A.handled = none) (F : Fr h₀ L s₁.heap m) (N : News h₀ L s₁.heap news) (hr : IsRange s₁.heap r a b c t u v) (hsm : Builtin.Range.small a b c = true) (hn : Builtin.Range.rangeSize a b c = ((n : Nat) : Int)) (hz : n ≤ sizeLine)
    (h : ∀ g, CompRest prog w A h₀ L m env elt x scope cl { s₁ with heap := g } (fun _ => True) (fun i v => ∃ t, v = .int (a + (i : Int) * c) t) (Fin { s₁ with heap := g }) n 0 [] news) : SrcW prog w A h₀ L m env elt x scope cl Fin (.ref r) s₁ :=
  ⟨r, a, b, c, t, u, v, n, news, rfl, hh, F, N, hr, hsm, hn, hz, fun _ ⟨g, e⟩ => e ▸ h g⟩
/-- a list comprehension over a range of any step -/
theorem ListComp_W {elt iter : Expr} {x : Str} {px : Pos} {scope : Scope} {cl : List (Str × Addr)} {pos : Pos} {Q : Value → Shared → Prop} (F₀ : Fr h₀ L s.heap m)
    (hclos : closureFor scope env = pure cl) (hcell : ∀ y ∈ scope.names, y.2 ≠ .cell) (hkind : scope.kind = .function)
    (hnames : ∀ y ∈ scope.names, y.2 = .local → scope.names.lookup y.1 = some .local) (hx : scope.names.lookup x = some .local)
    (h : wpAny (model prog w) A (eval iter env) (SrcW prog w A h₀ L m env elt x scope cl (fun s₂ => FinE h₀ L m s₂ Q)) E s)
    (hs : ∀ x, foldedSetIterable iter env x = pure x := by intro _; rfl) :
    wpAny (model prog w) A (eval (.ListComp elt [⟨.Name x px, iter, [], 0⟩] scope pos) env) Q E s := by
  rw [eval_ListComp]
  refine wpAny_comprehension_free (use := none) rfl hs hclos hkind hnames (wpAny_mono h (fun xv s₁ h₁ => ?_) fun _ _ e => e)
  obtain ⟨r, a, b, c, t, u, v, n, news, rfl, hh, F, N, hr, hsm, hn, hsz, R⟩ := h₁
  refine wpAny_pyIter_range hr hsm ?_
  refine block_U (Walks.range hh _ a c n) hsz (fun i h st => ⟨_, st⟩) (fun i h h' o nw st e e' _ _ _ => by
      have st' : h.get? s₁.heap.objs.size = some _ := st
      show h'.get? _ = some _
      rw [e', ← e]; exact st') hcell hkind hx (by show IsRangeIter _ _ _ _ _; rw [hn]; simpa using Heap.get?_push_size _ rfl) (fun b hb => ?_)
    (F.keeps fun _ _ e => Heap.get?_push_of_some _ e) (N.grown fun _ _ e => Heap.get?_push_of_some _ e) (Nat.ne_of_lt F.ns.lt) (next_is_new F) (fun p hp => Nat.ne_of_lt (Heap.lt_size (N p hp).1)) trivial (R _ ⟨_, rfl⟩) ?_
  · rw [List.mem_singleton.mp hb]
    show s₁.heap.objs.size < (s₁.heap.push _).objs.size
    rw [Heap.size_push]; exact Nat.lt_succ_self _
  · intro D C h tk m' ys news' F' N' o1 hn hC₀ hD₀ hCL hDL hCD offC fin
    refine ⟨m', hn, fun h'' hs'' => fin D h'' tk (F'.change hs'' hCL hC₀) (fun p hp => ?_) o1⟩
    refine ⟨hs''.extBut _ _ ?_ (N' p hp).1, (N' p hp).2⟩
    rcases List.mem_cons.mp hp with rfl | hp
    · exact Ne.symm hCD
    · exact offC p hp
end
end
end Mine
-- LP2
namespace Mine
section

theorem lia_LP2 : True := by
  k_with_none
  k_with "my omega" => ((fail_if_success (fail_if_success omega (config := {}))); lia)
  trivial
noncomputable def textB (bl : List Nat) : Str := ⟨(bl.map (48 + ·)).toArray⟩
theorem textB_len (bl : List Nat) : (textB bl).length = bl.length := by
  show (bl.map (48 + ·)).toArray.size = _
  simp
theorem textB_app (a b : List Nat) : textB a ++ textB b = textB (a ++ b) := by
  show (⟨(a.map (48 + ·)).toArray ++ (b.map (48 + ·)).toArray⟩ : Str) = ⟨((a ++ b).map (48 + ·)).toArray⟩
  simp
theorem textB_one : Str.ofString "1" = textB [1] := by rfl
theorem ones_fold : ∀ (n : Nat) (z : List Nat), (List.replicate n (textB [1]).cps).foldl (· ++ ·) z.toArray = (z ++ List.replicate n 49).toArray
  | 0, z => by simp
  | n + 1, z => by
    rw [List.replicate_succ, List.foldl_cons]
    have e : z.toArray ++ (textB [1]).cps = (z ++ [49]).toArray := by simp [textB]
    rw [e, ones_fold n]
    simp [List.replicate_succ]
theorem mul_ones {n : Int} (h : 0 ≤ n) : Txt.mul (textB [1]) n = textB (List.replicate n.toNat 1) := by
  unfold Txt.mul
  by_cases h1 : n < 1
  · have : n = 0 := by omega
    subst this
    rfl
  · rw [if_neg h1]
    by_cases h2 : n = 1
    · subst h2
      rfl
    · have e : (n == 1 || (textB [1]).length == 0) = false := by
        have : (textB [1]).length = 1 := textB_len _
        rw [this]; simp [h2]
      rw [e]
      simp only [Bool.false_eq_true, if_false]
      have := ones_fold n.toNat []
      rw [show (([] : List Nat).toArray) = #[] from rfl] at this
      rw [this]
      simp [textB]
theorem mulOk_ones {n : Int} (h : 0 ≤ n) (h1 : n < 100) : MulOk (textB [1]) n := by
  have el : (textB [1]).length = 1 := textB_len _
  refine ⟨by simp; omega, fun h2 _ => ?_, fun _ _ => ?_⟩
  · rw [el]
    have : (2 ^ 63 - 1 : Int) / n ≥ 1 := by
      apply Int.le_ediv_of_mul_le (by omega)
      omega
    omega
  · rw [el]
    unfold PySem.Builtin.Str.tooLong
    have : sizeLine = 16777216 := sizeLine_eq
    simp [this]
    omega
noncomputable def valL (l : List Nat) : Nat := l.foldl (fun a b => 2 * a + b) 0
theorem valL_snoc (l : List Nat) (b : Nat) : valL (l ++ [b]) = 2 * valL l + b := by simp [valL]
theorem rev_ind {P : List Nat → Prop} (h0 : P []) (h1 : ∀ l b, P l → P (l ++ [b])) : ∀ l, P l := by
  intro l
  have : ∀ n, ∀ l : List Nat, l.length = n → P l := by
    intro n
    induction n with
    | zero => intro l hl; rw [List.length_eq_zero_iff.mp hl]; exact h0
    | succ n ih =>
      intro l hl
      have hne : l ≠ [] := fun e => by rw [e] at hl; cases hl
      rw [← List.dropLast_concat_getLast hne]
      exact h1 _ _ (ih _ (by rw [List.length_dropLast]; omega))
  exact this _ l rfl
theorem bits_val : ∀ l : List Nat, (∀ b ∈ l, b < 2) → bitsL l.length (valL l) = l.map (48 + ·) := by
  refine rev_ind (fun _ => rfl) fun l b ih h => ?_
  have hb : b < 2 := h b (List.mem_append_right _ (.head _))
  have ih' := ih fun x hx => h x (List.mem_append_left _ hx)
  rw [List.length_append, valL_snoc]
  show bitsL l.length ((2 * valL l + b) / 2) ++ [48 + (2 * valL l + b) % 2] = _
  rw [show (2 * valL l + b) / 2 = valL l by omega, show (2 * valL l + b) % 2 = b by omega, ih']
  simp
theorem val_lt : ∀ l : List Nat, (∀ b ∈ l, b < 2) → valL l < 2 ^ l.length := by
  refine rev_ind (fun _ => by decide) fun l b ih h => ?_
  have hb : b < 2 := h b (List.mem_append_right _ (.head _))
  have ih' := ih fun x hx => h x (List.mem_append_left _ hx)
  rw [List.length_append, valL_snoc, List.length_singleton, Nat.pow_succ]
  omega
theorem val_bit : ∀ l : List Nat, (∀ b ∈ l, b < 2) → ∀ k, k < l.length → valL l / 2 ^ (l.length - 1 - k) % 2 = l.getD k 0 := by
  refine rev_ind (fun _ k hk => absurd hk (Nat.not_lt_zero _)) fun l b ih h k hk => ?_
  have hb : b < 2 := h b (List.mem_append_right _ (.head _))
  rw [List.length_append, List.length_singleton] at hk
  rw [List.length_append, List.length_singleton, valL_snoc]
  by_cases e : k = l.length
  · subst e
    rw [show l.length + 1 - 1 - l.length = 0 by omega, Nat.pow_zero, Nat.div_one]
    simp
    omega
  · have ih' := ih (fun x hx => h x (List.mem_append_left _ hx)) k (by omega)
    rw [show l.length + 1 - 1 - k = (l.length - 1 - k) + 1 by omega, Nat.pow_succ, Nat.mul_comm (2 ^ _) 2, ← Nat.div_div_eq_div_mul, show (2 * valL l + b) / 2 = valL l by omega, ih']
    rw [List.getD_eq_getElem?_getD, List.getD_eq_getElem?_getD, List.getElem?_append_left (by omega)]
noncomputable def byteL (wl : List Nat) (j : Nat) : Nat := valL ((wl.drop (8 * j)).take 8)
theorem part_len {wl : List Nat} {j : Nat} (h : 8 * j + 8 ≤ wl.length) : ((wl.drop (8 * j)).take 8).length = 8 := by
  rw [List.length_take, List.length_drop]; omega
theorem part_bits {wl : List Nat} {j : Nat} (hb : ∀ b ∈ wl, b < 2) : ∀ b ∈ (wl.drop (8 * j)).take 8, b < 2 := fun b h => hb b (List.mem_of_mem_drop (List.mem_of_mem_take h))
theorem byteL_lt {wl : List Nat} {j : Nat} (hb : ∀ b ∈ wl, b < 2) (h : 8 * j + 8 ≤ wl.length) : byteL wl j < 256 := by
  have := val_lt _ (part_bits (j := j) hb)
  rw [part_len h] at this
  exact this
theorem slice8 {wl : List Nat} {j : Nat} (hb : ∀ b ∈ wl, b < 2) (h : 8 * j + 8 ≤ wl.length) : Txt.slice (textB wl) (some ((8 * j : Nat) : Int)) (some ((8 * j : Nat) + 8 : Int)) = bitsS 8 (byteL wl j) := by
  have e := beq_iff_eq.mp (slice_closesL (x := textB wl) (i := ((8 * j : Nat) : Int)) (j := ((8 * j : Nat) + 8 : Int)) (by omega) (by omega) (by rw [textB_len]; omega))
  rw [e]
  unfold bitsS byteL
  have e2 := bits_val _ (part_bits (j := j) hb)
  rw [part_len h] at e2
  rw [e2]
  have e3 : (((8 * j : Nat) + 8 : Int) - ((8 * j : Nat) : Int)).toNat = 8 := by omega
  rw [e3, Int.toNat_natCast]
  simp [textB, List.map_take, List.map_drop]
noncomputable def octs (wl : List Nat) (n : Nat) : List Int := (List.range n).map fun j => (byteL wl j : Int)
theorem octs_len (wl : List Nat) (n : Nat) : (octs wl n).length = n := by simp [octs]
theorem bit_octs {wl : List Nat} {n i : Nat} (hb : ∀ b ∈ wl, b < 2) (hl : wl.length = 8 * n) (hi : i < 8 * n) : bitOf (octs wl n) i = ((wl.getD i 0 : Nat) : Int) := by
  have hj : i / 8 < n := by omega
  have e1 : (octs wl n).getD (i / 8) 0 = (byteL wl (i / 8) : Int) := by
    rw [List.getD_eq_getElem?_getD, List.getElem?_eq_getElem (by rw [octs_len]; exact hj)]
    simp [octs]
  unfold bitOf
  rw [e1]
  have h8 : 8 * (i / 8) + 8 ≤ wl.length := by omega
  have e2 := val_bit _ (part_bits (j := i / 8) hb) (i % 8) (by rw [part_len h8]; omega)
  rw [part_len h8] at e2
  have e3 : ((wl.drop (8 * (i / 8))).take 8).getD (i % 8) 0 = wl.getD i 0 := by
    rw [List.getD_eq_getElem?_getD, List.getD_eq_getElem?_getD, List.getElem?_take_of_lt (by omega), List.getElem?_drop, show 8 * (i / 8) + i % 8 = i by omega]
  rw [e3] at e2
  rw [← e2]
  have e4 : 8 - 1 - i % 8 = 7 - i % 8 := by omega
  rw [e4]
  simp [byteL]
end
end Mine
-- L11
namespace Mine
section
open PyProof.Rows.LCg
section
variable {prog : Program} {w : World} {A : Around} {E : Value → Shared → Prop} {s : Shared} {Q : Value → Shared → Prop}
theorem len_tB {bl : List Nat} {t : Tok} (hb : bl.length < 10000) (h : Q (.int bl.length (s.toks + 1)) { s with toks := s.toks + 1 + 1 }) : wpAny (model prog w) A (call (.builtin "len") [.str (textB bl) t]) Q E s := by
  refine P.len_str (by rw [textB_len]; omega) ?_
  rw [textB_len]; exact h
theorem mul_tB {n : Int} {t u : Tok} (h0 : 0 ≤ n) (h1 : n < 100) (h : ∀ t' k, Q (.str (textB (List.replicate n.toNat 1)) t') { s with toks := k }) : wpAny (model prog w) A (binaryOp .Mult (.str (Str.ofString "1") t) (.int n u)) Q E s := by
  rw [textB_one]
  refine SB.mul (mulOk_ones h0 h1) fun t' k => ?_
  rw [mul_ones h0]; exact h t' k
theorem add_tB {a b : List Nat} {t u : Tok} (ha : a.length + b.length < 10000) (h : ∀ t' k, Q (.str (textB (a ++ b)) t') { s with toks := k }) : wpAny (model prog w) A (binaryOp .Add (.str (textB a) t) (.str (textB b) u)) Q E s := by
  refine SB.add (fun t' k => ?_) (by rw [textB_len, textB_len, sizeLine_eq]; omega)
  rw [textB_app]; exact h t' k
end
theorem slice_tB {prog : Program} {w : World} {A : Around} {E : Value → Shared → Prop} {s : Shared} {h₀ : Heap} {L : Addr} {m : Str → Option Value} {news : List (Addr × Obj)} {value slice : Expr} {wl : List Nat} {j : Nat} {i k : Int} {t ui uj : Tok} {Q : Value → Shared → Prop}
    (hF : Fr h₀ L s.heap m) (hN : News h₀ L s.heap news) (hb : ∀ b ∈ wl, b < 2) (hz : wl.length < 10000) (hl : 8 * j + 8 ≤ wl.length) (e1 : i = 0 + (j : Int) * 8) (e2 : k = 0 + (j : Int) * 8 + 8) (h : ∀ h' t' k, Fr h₀ L h' m → News h₀ L h' news → Q (.str (bitsS 8 (byteL wl j)) t') { s with heap := h', toks := k })
    (hs : subscripted slice false (.str (textB wl) t) (.ref s.heap.objs.size) = operate [.ref s.heap.objs.size, .str (textB wl) t] (getItem (.str (textB wl) t) (.ref s.heap.objs.size)) := by with_unfolding_all rfl)
    (ht : ∀ r, letTemporaryGo value (.str (textB wl) t) r = pure () := by intro _; with_unfolding_all rfl) :
    wpAny (model prog w) A (subscriptTail value slice (.str (textB wl) t) (.ref s.heap.objs.size)) Q E { s with heap := s.heap.push { cls := .type "slice", data := .fields #[.int i ui, .int k uj, .none] } } := by
  have e1' : i = ((8 * j : Nat) : Int) := by omega
  have e2' : k = ((8 * j : Nat) : Int) + 8 := by omega
  clear e1 e2
  subst e1' e2'
  refine slice_strN_ss hF hN (fun h' t' k a b => ?_) hs ht ?_
  · rw [slice8 hb hl]; exact h h' t' k a b
  · rw [textB_len, sizeLine_eq]; omega
theorem octs_succ {wl : List Nat} {i : Nat} : octs wl (i + 1) = octs wl i ++ [(byteL wl i : Int)] := by simp [octs, List.range_succ]
theorem size8 (n : Nat) : Builtin.Range.rangeSize 0 ((8 * n : Nat) : Int) 8 = (n : Int) := by
  unfold Builtin.Range.rangeSize
  simp
  omega
theorem fits9 {x : Int} (h0 : 0 ≤ x) (h1 : x < 100000) : Builtin.Range.rangeFitsLong x = true := by
  simp only [Builtin.Range.rangeFitsLong, Bool.and_eq_true, decide_eq_true_eq]
  omega
theorem small8 {n : Nat} (h : n < 10000) : Builtin.Range.small 0 ((8 * n : Nat) : Int) 8 = true := by
  unfold Builtin.Range.small
  rw [size8, if_pos (show (8 : Int) > 0 by decide), fits9 (x := 0) (by decide) (by decide), fits9 (x := ((8 * n : Nat) : Int)) (by omega) (by omega), fits9 (x := 8) (by decide) (by decide), fits9 (x := (n : Int)) (by omega) (by omega), fits9 (x := ((8 * n : Nat) : Int) + (8 - 1)) (by omega) (by omega)]
  rw [Bool.or_true]
  rfl
theorem pad_lo (n : Nat) : 0 ≤ (-(n : Int)).fmod 8 := fmod_lo _ (by decide)
theorem pad_hi (n : Nat) : (-(n : Int)).fmod 8 < 100 := Int.lt_trans (fmod_hi _ (by decide)) (by decide)
end
end Mine
local macro_rules | `(tactic| walk_at "my m17") => `(tactic| ((rename Fr _ _ _ _ => F'); (rename News _ _ _ _ => N'); (with_unfolding_all refine range3_rows F' N' (by decide) ?_; intro _ _ _ _ _ _ _ _ _); clear F' N'))
local macro_rules | `(tactic| walk_at "my t18") => `(tactic| (intro t9 k9))
local macro_rules | `(tactic| walk_at "my t18") => `(tactic| (intro t9 k9))
local macro_rules | `(tactic| walk_at "my t19") => `(tactic| (intro g' L' h' tk' cells' FG' F' N' Y' B' X' T' l1; (try k_lt l1); k_cells Y'; (try simp only [List.cons_append, List.nil_append] at N'); (try dsimp only); (try k_lift B'); (try k_fold)))
local macro_rules | `(tactic| walk_at "my t20") => `(tactic| (intro _ _ _ _ _))
namespace Mine
section
open PyProof.Rows.LCg
section octets
theorem octets_core {w : World} {mean : ExcName → Option Value} {mg mb : Str → Option Value} {news : List (Addr × Obj)} {fl : List Nat} {tf : Tok}
   {dp un : Nat} {gd : Option (List Code)} {cn : Str} {cs : Scope} {a : Addr} {ccd : Value} {cl : List (Str × Addr)} {outer : List Env} {A₀ : Around} {base h₀ : Heap} {L : Addr} {m : Str → Option Value} {s : Shared} {Q E : Value → Shared → Prop}
    (B : Below A₀ base outer h₀) (F : Fr h₀ L s.heap m) (X : (Mine.hd.heap_39 w.params).In h₀) (N : News h₀ L s.heap news) (T : Top Mine.hd.view_39 (looseW Mine.hd.view_39 []) mean mg mb h₀)
    (hk : cs.kind = .function) (hfl : fl.length < 1000) (hbl : ∀ b ∈ fl, b < 2)
    (hdp : dp + 2 < recursionLimit) (hun : un + 16 < cLine)
    (hret : ∀ (wl : List Nat) (nb : Nat) (b9 : Array UInt8) (t : Tok) (h' : Heap) (tk' : Nat), wl = fl ++ List.replicate ((-(fl.length : Int)).fmod 8).toNat 1 → wl.length = 8 * nb → (∀ b ∈ wl, b < 2) → KBw.bInts b9 = octs wl nb → Fr h₀ L h' m → News h₀ L h' news → Q (.bytes b9 t) { s with heap := h', toks := tk' }) :
      wpAny (model Challenge.rw_ok0140_01.row.prog w) (ktrTop dp un gd cn cs L a ccd cl outer) (call (.ref 299) [.str (textB fl) tf]) Q E s := by
  k_with_none
  k_with "my lt" => first | assumption | exact And.left (by assumption) | exact And.left (And.right (by assumption)) | exact And.right (by assumption) | exact And.left (And.right (And.right (by assumption))) | exact And.right (And.right (by assumption)) | exact And.left (And.right (And.right (And.right (by assumption)))) | exact And.right (And.right (And.right (by assumption))) | exact And.left (And.right (And.right (And.right (And.right (by assumption))))) | exact And.right (And.right (And.right (And.right (by assumption)))) | exact And.left (And.right (And.right (And.right (And.right (And.right (by assumption)))))) | exact And.right (And.right (And.right (And.right (And.right (by assumption))))) | exact And.left (And.right (And.right (And.right (And.right (And.right (And.right (by assumption))))))) | exact And.right (And.right (And.right (And.right (And.right (And.right (by assumption)))))) | exact And.left (And.right (And.right (And.right (And.right (And.right (And.right (And.right (by assumption)))))))) | exact And.right (And.right (And.right (And.right (And.right (And.right (And.right (by assumption))))))) | exact And.left (And.right (And.right (And.right (And.right (And.right (And.right (And.right (And.right (by assumption))))))))) | exact And.right (And.right (And.right (And.right (And.right (And.right (And.right (And.right (by assumption)))))))) | fail
  k_with "my kne" => first | assumption | (refine Ne.symm ?_; assumption) | (refine neN ?_; (try dsimp only); first | (refine Nat.ne_of_lt ?_; k_extra "my lt") | (refine Nat.ne_of_gt ?_; k_extra "my lt") | omega) | fail
  k_with "my room" => first | exact upR 0 (by assumption) rfl | exact upR 1 (by assumption) rfl | exact upR 2 (by assumption) rfl | exact upR 3 (by assumption) rfl | exact upR 4 (by assumption) rfl | exact upR 5 (by assumption) rfl | exact upR 6 (by assumption) rfl | exact upR 7 (by assumption) rfl | exact upR 8 (by assumption) rfl | fail
  k_with "my units" => first | exact upR 0 (by assumption) rfl | exact upR 1 (by assumption) rfl | exact upR 2 (by assumption) rfl | exact upR 3 (by assumption) rfl | exact upR 4 (by assumption) rfl | exact upR 5 (by assumption) rfl | exact upR 6 (by assumption) rfl | exact upR 7 (by assumption) rfl | exact upR 8 (by assumption) rfl | exact upR 9 (by assumption) rfl | exact upR 10 (by assumption) rfl | exact upR 11 (by assumption) rfl | exact upR 12 (by assumption) rfl | fail
  k_with "my sub" => first | exact List.forall_mem_nil _ | assumption | exact List.forall_mem_cons.mpr ⟨(by k_mem), (by k_extra "my sub")⟩ | (intro p9 hp9; repeat (first | exact hp9 | refine List.Mem.tail _ ?_))
  k_with "my ne" => first | exact List.forall_mem_nil _ | assumption | exact List.forall_mem_cons.mpr ⟨(by first | assumption | k_ne), (by k_extra "my ne")⟩
  k_with "my subA" => (intro p9 hp9; repeat' (first | exact hp9 | exact List.mem_append_left _ hp9 | exact List.mem_append_right _ hp9 | refine List.Mem.tail _ ?_))
  k_with "my memB" => first | assumption | exact List.Mem.head _ | (refine List.Mem.tail _ ?_; k_extra "my memB") | (refine List.mem_append_left _ ?_; k_extra "my memB") | (refine List.mem_append_right _ ?_; k_extra "my memB")
  k_with "my leafB" => first | assumption | (refine List.Mem.tail _ ?_; k_extra "my leafB") | (refine List.mem_append_left _ ?_; k_extra "my leafB") | (refine List.mem_append_right _ ?_; k_extra "my leafB")
  k_with "my subB" => first | exact List.forall_mem_nil _ | exact List.forall_mem_cons.mpr ⟨(by k_extra "my memB"), (by k_extra "my subB")⟩ | exact List.forall_mem_append.mpr ⟨(by k_extra "my subB"), (by k_extra "my subB")⟩ | (intro p9 hp9; k_extra "my leafB")
  k_with "call type:range" => walk_at "my m17"
  k_with "call builtin:len" => (k_here; k_dflt (refine' len_tB (by omega) ?_; k_whole))
  k_with "binaryOp Mult str int" => (k_here; k_dflt (refine' mul_tB (by exact pad_lo _) (by exact pad_hi _) ?_); walk_at "my t18")
  k_with "binaryOp Add str str" => (k_here; k_dflt (refine' add_tB (by (rw [List.length_replicate]; omega)) ?_); walk_at "my t18")
  k_with "eval ListComp" => (refine halt ?_)
  k_with "execs cons" => (k_here; dsimp only; k_gentoks)
  k_with "execs nil" => (k_here; dsimp only; k_gentoks)
  k_with "my enter" => (refine' code_defC ?k1 ?k2 ?k3 ?k4 ?k5 ?kA ?kF ?kK ?k6 ?k7 ?k8 ?k9 ?kB ?kD ?_ ?c2 ?c3 ?c4; (case kA => exact rfl); (case kF => exact rfl); (case kK => assumption); (case k1 => k_asm); (case k2 => k_asm); (case k3 => k_asm); (case k4 => k_asm); (case k5 => k_asm); (case k6 => k_is); (case k7 => k_is); (case k8 => ktr_room); (case k9 => first | exact BindsTo.of_eq rfl | exact binds_K (by k_in) rfl (by k_is) rfl rfl rfl | fail "k_enter: no rule for these arguments"); (case kB => exact rfl); (case kD => decide +kernel); (case c2 => exact rfl); (case c3 => exact rfl); (case c4 => exact rfl); k_whole; walk_at "my t19")
  k_with "subscriptTail" => ((with_reducible show wpAny _ _ (subscriptTail _ (Expr.Slice (some _) (some _) none _) _ _) _ _ _); (refine' slice_tB (s := ⟨_, _, _, _, _⟩) (by assumption) (by assumption) (by assumption) (by assumption) ?hl ?e1 ?e2 ?_); (case e1 => exact rfl); (case e2 => exact rfl); (case hl => omega); walk_at "my t20")
  k_with "call type:int" => (refine call_int2 (by exact byteL_lt (by assumption) (by omega)) ?_)
  k_with "my omega" => ((fail_if_success (fail_if_success omega (config := {}))); lia)
  have hpad : ((-(fl.length : Int)).fmod 8).toNat < 8 := by have h1 := pad_lo fl.length; have h2 : (-(fl.length : Int)).fmod 8 < 8 := fmod_hi _ (by decide); omega
  refine wpAny_call ?_
  k_dflt (walk_at "my enter")
  rename_i g9 L9 h9 tk9 FG9 F9 B9 X9 T9 lL o9 dL N9
  have nL : ∀ p ∈ news, p.1 ≠ L9 + 1 := fun p hp => Nat.ne_of_lt (Nat.lt_succ_of_lt (lL p hp))
  k_steps
  rename_i tA kA tB kB h1 o1 F1 N1 d1
  refine Halt.go ?_
  have hwl : (fl ++ List.replicate ((-(fl.length : Int)).fmod 8).toNat 1).length < 10000 := by rw [List.length_append, List.length_replicate]; omega
  generalize hwe : fl ++ List.replicate ((-(fl.length : Int)).fmod 8).toNat 1 = wl at *
  refine ListComp_W F1 (by rfl) (by decide) (by rfl) (by decide) (by rfl) ?_
  k_steps
  rename_i h2 tk2 t1 u1 v1 R2 F2 N2 hk2
  clear hk2
  obtain ⟨nb, hnb⟩ : ∃ nb, wl.length = 8 * nb := by
    refine ⟨wl.length / 8, ?_⟩
    rw [← hwe, List.length_append, List.length_replicate]
    have e : (-(fl.length : Int)).fmod 8 = (-(fl.length : Int)) % 8 := Int.fmod_eq_emod_of_nonneg _ (by decide)
    rw [e]; omega
  have hwb : ∀ b ∈ wl, b < 2 := by
    rw [← hwe]
    intro b hb
    rcases List.mem_append.mp hb with hb | hb
    · exact hbl b hb
    · rw [List.eq_of_mem_replicate hb]; decide
  refine SrcW.mk9 (n := nb) rfl F2 N2 R2 ?sm ?rs ?sz fun gg => rest_inv (n := nb) (fun i ys nw => nw = (L9 + 1, o1) :: news ∧ ys.length = i ∧ IntsAre ys (octs wl i)) ?_ ?_ nb 0 [] _ (by omega) ⟨rfl, rfl, .nil⟩
  case sm => rw [hnb]; exact small8 (by omega)
  case rs => rw [hnb]; exact size8 nb
  case sz => rw [sizeLine_eq]; omega
  · clear R2 F2 N2
    rintro i ys _ v I oI C oC D m₂ h tk E' hi ⟨rfl, hyl, hys⟩ ⟨ti, rfl⟩ hC hx F3 N3 off ne
    k_steps
    rename_i h4 t4 k4 F4 N4
    exact CompEnd.intro F4 N4 ((L9 + 1, o1) :: news) (fun p hp => hp) off trivial ⟨rfl, by simp [hyl], by rw [octs_succ]; exact hys.append (.cons _ _ .nil)⟩
  · rintro ys _ ⟨rfl, hyl, hys⟩ D h tk F3 N3 o3
    k_steps
    have hin : KBa.In (octs wl nb) := by
      intro n hn
      obtain ⟨j, hj, rfl⟩ := List.mem_map.mp hn
      have := byteL_lt (j := j) hwb (by have := List.mem_range.mp hj; omega)
      omega
    refine KBa.make_K F3 N3 rfl ⟨_, (N3 _ (.head _)).1, rfl, _, rfl⟩ hys hin (by rw [octs_len]; omega) ?_
    intro h4 t4 k4 F4 N4 _
    k_steps
    rename_i kF kN kT kX
    exact hret wl nb _ _ _ _ rfl hnb hwb (KBa.ints_make hin) kF fun p hp => kN p (.tail _ (.tail _ hp))
end octets
end
end Mine
-- LP3
namespace Mine
section

theorem lia_LP3 : True := by
  k_with_none
  k_with "my omega" => ((fail_if_success (fail_if_success omega (config := {}))); lia)
  trivial
noncomputable def bitsB : Nat → Nat → List Nat
  | 0, _ => []
  | s + 1, c => bitsB s (c / 2) ++ [c % 2]
theorem bitsB_len : ∀ (s c : Nat), (bitsB s c).length = s
  | 0, _ => rfl
  | s + 1, c => by simp [bitsB, bitsB_len s]
theorem bitsB_text : ∀ (s c : Nat), bitsL s c = (bitsB s c).map (48 + ·)
  | 0, _ => rfl
  | s + 1, c => by simp [bitsB, bitsL, bitsB_text s]
theorem bitsS_text (s c : Nat) : bitsS s c = textB (bitsB s c) := by unfold bitsS textB; rw [bitsB_text]
theorem bitsB_lt : ∀ (s c b : Nat), b ∈ bitsB s c → b < 2
  | 0, _, b, h => nomatch h
  | s + 1, c, b, h => by
    rcases List.mem_append.mp (show b ∈ bitsB s (c / 2) ++ [c % 2] from h) with h | h
    · exact bitsB_lt s _ b h
    · rw [List.mem_singleton.mp h]; omega
theorem bitsB_get : ∀ (s c j : Nat), j < s → (bitsB s c).getD j 0 = c / 2 ^ (s - 1 - j) % 2
  | 0, _, j, h => absurd h (Nat.not_lt_zero _)
  | s + 1, c, j, h => by
    show (bitsB s (c / 2) ++ [c % 2]).getD j 0 = _
    rw [List.getD_eq_getElem?_getD]
    by_cases e : j = s
    · subst e
      rw [List.getElem?_append_right (by rw [bitsB_len]; exact Nat.le_refl _), bitsB_len]
      simp
    · rw [List.getElem?_append_left (by rw [bitsB_len]; omega), ← List.getD_eq_getElem?_getD, bitsB_get s (c / 2) j (by omega)]
      rw [show s + 1 - 1 - j = (s - 1 - j) + 1 by omega, Nat.pow_succ, Nat.mul_comm (2 ^ _) 2, ← Nat.div_div_eq_div_mul]
theorem cnts_lt {k : Nat} {r : List Nat} {j : Nat} (h : j < r.length) : (cntsR (k :: r)).getD j 0 = (cntsR r).getD j 0 := by
  have hl : (r.reverse.map fun (k : Nat) => (k : Int)).length = r.length := by simp
  simp only [cntsR, List.reverse_cons, List.map_append, List.append_assoc]
  rw [List.getD_eq_getElem?_getD, List.getD_eq_getElem?_getD, List.getElem?_append_left (by rw [hl]; exact h), List.getElem?_append_left (by rw [hl]; exact h)]
theorem cnts_at {k : Nat} {r : List Nat} : (cntsR (k :: r)).getD r.length 0 = (k : Int) := by
  have hl : (r.reverse.map fun (k : Nat) => (k : Int)).length = r.length := by simp
  simp only [cntsR, List.reverse_cons, List.map_append, List.append_assoc]
  rw [List.getD_eq_getElem?_getD, List.getElem?_append_right (by rw [hl]; exact Nat.le_refl _), hl, Nat.sub_self]
  rfl
theorem cnts_ge {r : List Nat} {j : Nat} (h : r.length ≤ j) : (cntsR r).getD j 0 = 0 := by
  have hl : (r.reverse.map fun (k : Nat) => (k : Int)).length = r.length := by simp
  unfold cntsR
  rw [List.getD_eq_getElem?_getD, List.getElem?_append_right (by rw [hl]; exact h), List.getElem?_replicate]
  split <;> rfl
theorem cnts_nn (r : List Nat) : ∀ c ∈ cntsR r, 0 ≤ c := by
  intro c hc
  rcases List.mem_append.mp hc with h | h
  · obtain ⟨k, _, rfl⟩ := List.mem_map.mp h; omega
  · rw [List.eq_of_mem_replicate h]; exact Int.le_refl _
theorem getD_nn {cs : List Int} (h : ∀ c ∈ cs, 0 ≤ c) (j : Nat) : 0 ≤ cs.getD j 0 := by
  rw [List.getD_eq_getElem?_getD]
  cases e : cs[j]? with
  | none => exact Int.le_refl _
  | some x => exact h x (List.mem_of_getElem? e)
theorem code_congr {cs cs' : List Int} : ∀ {i : Nat}, (∀ j, j < i → cs.getD j 0 = cs'.getD j 0) → codeAt cs i = codeAt cs' i
  | 0, _ => rfl
  | i + 1, h => by
    show (codeAt cs i + cs.getD i 0) * 2 = (codeAt cs' i + cs'.getD i 0) * 2
    rw [code_congr fun j hj => h j (by omega), h i (by omega)]
theorem code_low {k : Nat} {r : List Nat} {i : Nat} (h : i ≤ r.length) : codeAt (cntsR (k :: r)) i = codeAt (cntsR r) i := code_congr fun j hj => cnts_lt (by omega)
theorem code_fr : ∀ (r : List Nat), codeAt (cntsR r) r.length = 2 * (frR r : Int)
  | [] => rfl
  | k :: r => by
    show (codeAt (cntsR (k :: r)) r.length + (cntsR (k :: r)).getD r.length 0) * 2 = _
    rw [code_low (Nat.le_refl _), cnts_at, code_fr r]
    simp only [frR]
    omega
theorem place_low {k : Nat} {r : List Nat} {i : Nat} (h : i ≤ r.length) : placeAt (cntsR (k :: r)) i = placeAt (cntsR r) i := by
  have hl : (r.reverse.map fun (k : Nat) => (k : Int)).length = r.length := by simp
  unfold placeAt
  congr 1
  simp only [cntsR, List.reverse_cons, List.map_append, List.append_assoc]
  rw [List.take_append_of_le_length (by rw [hl]; exact h), List.take_append_of_le_length (by rw [hl]; exact h)]
theorem sum_cast : ∀ (l : List Nat), (l.map fun (k : Nat) => (k : Int)).sum = (l.sum : Int)
  | [] => rfl
  | k :: l => by rw [List.map_cons, List.sum_cons, List.sum_cons, sum_cast l]; omega
theorem sum_rev : ∀ (l : List Nat), l.reverse.sum = l.sum
  | [] => rfl
  | k :: l => by rw [List.reverse_cons, List.sum_append, sum_rev l]; simp; omega
theorem place_sum (r : List Nat) : placeAt (cntsR r) r.length = (r.sum : Int) := by
  have hl : (r.reverse.map fun (k : Nat) => (k : Int)).length = r.length := by simp
  unfold placeAt cntsR
  rw [List.take_append_of_le_length (by rw [hl]; exact Nat.le_refl _), List.take_of_length_le (by rw [hl]; exact Nat.le_refl _), sum_cast, sum_rev]
theorem cnts_sum {r : List Nat} : (cntsR r).sum = (r.sum : Int) := by
  unfold cntsR
  rw [List.sum_append, sum_cast, sum_rev]
  have : ∀ n : Nat, (List.replicate n (0 : Int)).sum = 0 := by
    intro n
    induction n with
    | zero => rfl
    | succ n ih => rw [List.replicate_succ, List.sum_cons, ih]; rfl
  rw [this]; omega
/-- where the p-th symbol's code stands -/
theorem code_place : ∀ (r : List Nat) (p : Nat), p < r.sum → ∃ n k : Nat, n < r.length ∧ (k : Int) < (cntsR r).getD n 0 ∧ (p : Int) = placeAt (cntsR r) n + k ∧ ∃ c : Nat, (codesR r)[p]? = some (n + 1, c) ∧ (c : Int) = codeAt (cntsR r) n + k
  | [], p, h => absurd h (Nat.not_lt_zero _)
  | k0 :: r, p, h => by
    rw [List.sum_cons] at h
    have hl := codes_len r
    by_cases e : p < r.sum
    · obtain ⟨n, k, h1, h2, h3, c, h4, h5⟩ := code_place r p e
      refine ⟨n, k, by simp; omega, by rw [cnts_lt h1]; exact h2, by rw [place_low (by omega)]; exact h3, c, ?_, by rw [code_low (by omega)]; exact h5⟩
      simp only [codesR]
      rw [List.getElem?_append_left (by omega)]
      exact h4
    · refine ⟨r.length, p - r.sum, by simp, by rw [cnts_at]; omega, by rw [place_low (Nat.le_refl _), place_sum]; omega, 2 * frR r + (p - r.sum), ?_, by rw [code_low (Nat.le_refl _), code_fr]; omega⟩
      simp only [codesR]
      rw [List.getElem?_append_right (by omega), hl, List.getElem?_map, List.getElem?_range (by omega)]
      rfl
theorem ok_rows : ∀ (r : List Nat), OkR r → ∀ j, OkRow (cntsR r) j
  | [], _, j => fun q => by rw [cnts_ge (Nat.zero_le _)] at q; exact absurd q.2 (by decide)
  | k :: r, h, j => by
    intro q
    by_cases e : j < r.length
    · rw [code_low (by omega), cnts_lt e] at q
      exact ok_rows r h.1 j q
    · by_cases e2 : j = r.length
      · subst e2
        rw [code_low (Nat.le_refl _), cnts_at, code_fr] at q
        have h3 := h.2.2
        have e3 : ((2 : Int) ^ (r.length + 1)) = ((2 ^ (r.length + 1) : Nat) : Int) := by simp
        rw [e3] at q
        omega
      · rw [cnts_ge (by simp; omega)] at q
        exact absurd q.2 (by decide)
theorem code_grow {cs : List Int} (hn : ∀ c ∈ cs, 0 ≤ c) (j : Nat) : ∀ d : Nat, (codeAt cs j + cs.getD j 0) * 2 ^ (d + 1) ≤ codeAt cs (j + d + 1)
  | 0 => by
    show _ ≤ (codeAt cs j + cs.getD j 0) * 2
    simp
  | d + 1 => by
    have h1 := code_grow hn j d
    have h2 := getD_nn hn (j + d + 1)
    have e : (2 : Int) ^ (d + 1 + 1) = 2 ^ (d + 1) * 2 := Int.pow_succ ..
    show _ ≤ (codeAt cs (j + d + 1) + cs.getD (j + d + 1) 0) * 2
    rw [e, ← Int.mul_assoc]
    omega
theorem acc_is {ks : List Int} {at9 s c : Nat} (hc : c < 2 ^ s) (h : ∀ j, j < s → bitOf ks (at9 + j) = ((c / 2 ^ (s - 1 - j) % 2 : Nat) : Int)) : ∀ j, j ≤ s → accB ks at9 j = ((c / 2 ^ (s - j) : Nat) : Int)
  | 0, _ => by
    show (0 : Int) = _
    rw [Nat.sub_zero, Nat.div_eq_of_lt hc]; rfl
  | j + 1, hj => by
    show accB ks at9 j * 2 + bitOf ks (at9 + j) = _
    rw [acc_is hc h j (by omega), h j (by omega)]
    have e1 : s - j = (s - 1 - j) + 1 := by omega
    have e2 : s - (j + 1) = s - 1 - j := by omega
    rw [e1, e2, Nat.pow_succ, ← Nat.div_div_eq_div_mul]
    omega
/-- the walk of `read` over the bits of one code -/
theorem decode {r : List Nat} {p : Nat} (hp : p < r.sum) (hr : OkR r) (h16 : r.length ≤ 16) : ∃ n c : Nat, n < 16 ∧ n < r.length ∧ c < 2 ^ (n + 1) ∧ (codesR r)[p]? = some (n + 1, c) ∧
    ∀ (ks : List Int) (at9 : Nat), (∀ j, j < n + 1 → bitOf ks (at9 + j) = (((bitsB (n + 1) c).getD j 0 : Nat) : Int)) →
      accB ks at9 (n + 1) - codeAt (cntsR r) n < (cntsR r).getD n 0 ∧ (∀ j, j < n → ¬ accB ks at9 (j + 1) - codeAt (cntsR r) j < (cntsR r).getD j 0) ∧ placeAt (cntsR r) n + accB ks at9 (n + 1) - codeAt (cntsR r) n = (p : Int) := by
  obtain ⟨n, k, h1, h2, h3, c, h4, h5⟩ := code_place r p hp
  have hok := ok_rows r hr n
  have hc : c < 2 ^ (n + 1) := by
    have : ¬ (codeAt (cntsR r) n + (cntsR r).getD n 0 ≥ 2 ^ (n + 1)) := fun q => hok ⟨q, by omega⟩
    have e3 : ((2 : Int) ^ (n + 1)) = ((2 ^ (n + 1) : Nat) : Int) := by simp
    rw [e3] at this
    omega
  refine ⟨n, c, by omega, h1, hc, h4, fun ks at9 hb => ?_⟩
  have ha := acc_is hc (fun j hj => by rw [hb j hj, bitsB_get _ _ _ hj])
  have hfull := ha (n + 1) (Nat.le_refl _)
  rw [Nat.sub_self, Nat.pow_zero, Nat.div_one] at hfull
  refine ⟨by rw [hfull]; omega, fun j hj q => ?_, by rw [hfull]; omega⟩
  rw [ha (j + 1) (by omega)] at q
  have hg := code_grow (cnts_nn r) j (n - j - 1)
  have e1 : j + (n - j - 1) + 1 = n := by omega
  have e2 : n - j - 1 + 1 = n - j := by omega
  rw [e1, e2] at hg
  have e4 : n + 1 - (j + 1) = n - j := by omega
  rw [e4] at q
  have h6 : codeAt (cntsR r) j + (cntsR r).getD j 0 ≤ ((c / 2 ^ (n - j) : Nat) : Int) := by
    have e5 : ((c / 2 ^ (n - j) : Nat) : Int) = (c : Int) / (2 ^ (n - j)) := by simp
    rw [e5]
    exact Int.le_ediv_of_mul_le (Int.pow_pos (by decide)) (by omega)
  omega
end
end Mine
-- L13
namespace Mine
section
open PyProof.Rows.LCg
section reader
theorem reader_c {w : World} {mean : ExcName → Option Value} {mg mb : Str → Option Value} {news : List (Addr × Obj)} {b9 : Array UInt8} {tb : Tok}
   {dp un : Nat} {gd : Option (List Code)} {cn : Str} {cs : Scope} {a : Addr} {ccd : Value} {cl : List (Str × Addr)} {outer : List Env} {A₀ : Around} {base h₀ : Heap} {L : Addr} {m : Str → Option Value} {s : Shared} {Q E : Value → Shared → Prop}
    (B : Below A₀ base outer h₀) (F : Fr h₀ L s.heap m) (X : (Mine.hd.heap_39 w.params).In h₀) (N : News h₀ L s.heap news) (T : Top Mine.hd.view_39 (looseW Mine.hd.view_39 []) mean mg mb h₀)
    (hk : cs.kind = .function) (hdp : dp + 3 < recursionLimit) (hun : un + 20 < cLine)
    (hret : ∀ (x dx : Addr) (ti t1 t2 : Tok) (h' : Heap) (tk' : Nat), Fr h₀ L h' m → News h₀ L h' ((x, instObj 213 dx) :: (dx, bitDict w b9 tb 0 ti t1 t2) :: news) → (∀ p ∈ news, p.1 < dx) → dx < x → Q (.ref x) { s with heap := h', toks := tk' }) :
      wpAny (model Challenge.rw_ok0140_01.row.prog w) (ktrTop dp un gd cn cs L a ccd cl outer) (call (.ref 213) [.bytes b9 tb]) Q E s := by
  k_with_none
  k_with "my lt" => first | assumption | exact And.left (by assumption) | exact And.left (And.right (by assumption)) | exact And.right (by assumption) | exact And.left (And.right (And.right (by assumption))) | exact And.right (And.right (by assumption)) | exact And.left (And.right (And.right (And.right (by assumption)))) | exact And.right (And.right (And.right (by assumption))) | exact And.left (And.right (And.right (And.right (And.right (by assumption))))) | exact And.right (And.right (And.right (And.right (by assumption)))) | exact And.left (And.right (And.right (And.right (And.right (And.right (by assumption)))))) | exact And.right (And.right (And.right (And.right (And.right (by assumption))))) | exact And.left (And.right (And.right (And.right (And.right (And.right (And.right (by assumption))))))) | exact And.right (And.right (And.right (And.right (And.right (And.right (by assumption)))))) | exact And.left (And.right (And.right (And.right (And.right (And.right (And.right (And.right (by assumption)))))))) | exact And.right (And.right (And.right (And.right (And.right (And.right (And.right (by assumption))))))) | exact And.left (And.right (And.right (And.right (And.right (And.right (And.right (And.right (And.right (by assumption))))))))) | exact And.right (And.right (And.right (And.right (And.right (And.right (And.right (And.right (by assumption)))))))) | fail
  k_with "my kne" => first | assumption | (refine Ne.symm ?_; assumption) | (refine neN ?_; (try dsimp only); first | (refine Nat.ne_of_lt ?_; k_extra "my lt") | (refine Nat.ne_of_gt ?_; k_extra "my lt") | omega) | fail
  k_with "my room" => first | exact upR 0 (by assumption) rfl | exact upR 1 (by assumption) rfl | exact upR 2 (by assumption) rfl | exact upR 3 (by assumption) rfl | exact upR 4 (by assumption) rfl | exact upR 5 (by assumption) rfl | exact upR 6 (by assumption) rfl | exact upR 7 (by assumption) rfl | exact upR 8 (by assumption) rfl | fail
  k_with "my units" => first | exact upR 0 (by assumption) rfl | exact upR 1 (by assumption) rfl | exact upR 2 (by assumption) rfl | exact upR 3 (by assumption) rfl | exact upR 4 (by assumption) rfl | exact upR 5 (by assumption) rfl | exact upR 6 (by assumption) rfl | exact upR 7 (by assumption) rfl | exact upR 8 (by assumption) rfl | exact upR 9 (by assumption) rfl | exact upR 10 (by assumption) rfl | exact upR 11 (by assumption) rfl | exact upR 12 (by assumption) rfl | fail
  k_with "my sub" => first | exact List.forall_mem_nil _ | assumption | exact List.forall_mem_cons.mpr ⟨(by k_mem), (by k_extra "my sub")⟩ | (intro p9 hp9; repeat (first | exact hp9 | refine List.Mem.tail _ ?_))
  k_with "my ne" => first | exact List.forall_mem_nil _ | assumption | exact List.forall_mem_cons.mpr ⟨(by first | assumption | k_ne), (by k_extra "my ne")⟩
  k_with "my subA" => (intro p9 hp9; repeat' (first | exact hp9 | exact List.mem_append_left _ hp9 | exact List.mem_append_right _ hp9 | refine List.Mem.tail _ ?_))
  k_with "my memB" => first | assumption | exact List.Mem.head _ | (refine List.Mem.tail _ ?_; k_extra "my memB") | (refine List.mem_append_left _ ?_; k_extra "my memB") | (refine List.mem_append_right _ ?_; k_extra "my memB")
  k_with "my leafB" => first | assumption | (refine List.Mem.tail _ ?_; k_extra "my leafB") | (refine List.mem_append_left _ ?_; k_extra "my leafB") | (refine List.mem_append_right _ ?_; k_extra "my leafB")
  k_with "my subB" => first | exact List.forall_mem_nil _ | exact List.forall_mem_cons.mpr ⟨(by k_extra "my memB"), (by k_extra "my subB")⟩ | exact List.forall_mem_append.mpr ⟨(by k_extra "my subB"), (by k_extra "my subB")⟩ | (intro p9 hp9; k_extra "my leafB")
  refine' call_cls (C := 213) ?k1 ?k2 ?k3 ?k4 ?k5 ?k6 ?_
  (case k1 => k_asm)
  (case k2 => k_asm)
  (case k3 => k_asm)
  (case k4 => k_is)
  (case k5 => k_is)
  (case k6 => k_is)
  intro x dx h1 F1 N1 l1 l2
  have n1 : ∀ p ∈ news, p.1 ≠ dx := fun p hp => Nat.ne_of_lt (l1 p hp)
  have n2 : x ≠ dx := Nat.ne_of_gt l2
  k_dflt cell_enter
  k_steps
  rename_i kF kN kT kX
  exact hret x dx _ _ _ _ _ kF kN l1 l2
end reader
end
end Mine
-- L3
namespace Mine
section

structure HS where
  os : Obj
  r : List Nat
  cvs : List Value
  svs : List Value
  od : Obj
  nc : Nat
  ns : Nat
  kvs : List (Int × Value)
  ft : Tok
noncomputable def HFacts (b : Int) (w : World) (i : Nat) (c : HS) : Prop :=
  c.r.length = i ∧ OkR c.r ∧ IsSrc c.os ∧ IntsAre c.cvs (cntsR c.r) ∧ IntsAre c.svs (symsOf b c.r.sum) ∧ c.od.IsDictOf (intKind Challenge.rw_ok0140_01.row.prog w) c.kvs ∧ PyProof.V.FlatPairs PyData.int c.kvs (codeD b c.r)
theorem menu_mem {v : Value} {t1 t2 t3 t4 : Tok} (h : v ∈ [Value.int 0 t1, .int 0 t2, .int 1 t3, .int 2 t4]) : ∃ (k : Nat) (t : Tok), v = .int (k : Int) t ∧ k ≤ 2 := by
  simp only [List.mem_cons, List.not_mem_nil, or_false] at h
  rcases h with rfl | rfl | rfl | rfl
  · exact ⟨0, _, rfl, by omega⟩
  · exact ⟨0, _, rfl, by omega⟩
  · exact ⟨1, _, rfl, by omega⟩
  · exact ⟨2, _, rfl, by omega⟩
theorem ok_lt : ∀ {r : List Nat}, OkR r → frR r + 1 ≤ 2 ^ r.length
  | [], _ => by simp [frR]
  | k :: r, h => h.2.2
theorem free_dbl {r : List Nat} {t : Tok} : some (Value.int ((frR r : Int) * 2) t) = some (Value.int (frR (0 :: r) : Int) t) := by
  have : (frR r : Int) * 2 = (frR (0 :: r) : Int) := by simp only [frR]; omega
  rw [this]
theorem cnts_zero {r : List Nat} (h : r.length < 16) : cntsR (0 :: r) = cntsR r := by
  have e : 16 - r.length = (16 - (r.length + 1)) + 1 := by omega
  simp only [cntsR, List.reverse_cons, List.map_append, List.length_cons, List.map_cons, List.map_nil, List.append_assoc]
  rw [e, List.replicate_succ]
  rfl
theorem ok_zero {r : List Nat} (h : OkR r) : OkR (0 :: r) := ⟨h, by omega, by have := ok_lt h; rw [Nat.pow_succ]; omega⟩
theorem cnts_len {r : List Nat} (h : r.length ≤ 16) : (cntsR r).length = 16 := by
  simp only [cntsR, List.length_append, List.length_map, List.length_reverse, List.length_replicate]; omega
theorem syms_len (b : Int) (n : Nat) : (symsOf b n).length = n := by simp [symsOf]
theorem ok_sum : ∀ {r : List Nat}, OkR r → r.sum ≤ 2 * r.length
  | [], _ => by simp
  | k :: r, h => by have := ok_sum h.1; have := h.2.1; simp only [List.sum_cons, List.length_cons]; omega
theorem hf_zero {b : Int} {w : World} {i : Nat} {c : HS} {os1 : Obj} {t : Tok} (h : HFacts b w i c) (hi : i < 9) (hs : IsSrc os1) : HFacts b w (i + 1) ⟨os1, 0 :: c.r, c.cvs, c.svs, c.od, c.nc, c.ns, c.kvs, t⟩ := by
  obtain ⟨hl, hok, hsrc, hcv, hsv, hd, hfp⟩ := h
  refine ⟨by simp [hl], ok_zero hok, hs, ?_, ?_, hd, by rw [codeD_zero]; exact hfp⟩
  · rw [cnts_zero (by omega)]; exact hcv
  · simpa using hsv
theorem free_succ {c1r : List Nat} {k : Nat} {r : List Nat} {t : Tok} (h : c1r = k :: r) : some (Value.int ((frR c1r : Int) + 1) t) = some (Value.int (frR ((k + 1) :: r) : Int) t) := by
  subst h
  have : (frR (k :: r) : Int) + 1 = (frR ((k + 1) :: r) : Int) := by simp only [frR]; omega
  rw [this]
theorem sym_val {b : Int} {n : Nat} : ([b].getD (Int.toNat 0) 0 * 37 + ((symsOf b n).length : Int) * 3).fmod 256 = symOf b n := by rw [syms_len]; rfl
theorem hf_succ {b : Int} {w : World} {i j k k9 : Nat} {c c1 : HS} {cvs' svs' : List Value} {od' : Obj} {nc' ns' : Nat} {kvs' : List (Int × Value)} {t : Tok} (h : HFacts b w (i + 1) c1) (hkr : c1.r = k :: c.r) (hi : i < 9) (hkj : k ≤ j) (hj : j < ((k9 : Int) - 0).toNat) (hk9 : k9 ≤ 2)
    (hlt : (frR c1.r : Int) < 2 ^ (1 + (i : Int)).toNat - 1)
    (hcv : IntsAre cvs' ((cntsR c1.r).set (1 + (i : Int) - 1).toNat ((cntsR c1.r).getD (1 + (i : Int) - 1).toNat 0 + 1)))
    (hsv : svs' = c1.svs.concat (.int (([b].getD (Int.toNat 0) 0 * 37 + ((symsOf b c1.r.sum).length : Int) * 3).fmod 256) t))
    (hd : od'.IsDictOf (intKind Challenge.rw_ok0140_01.row.prog w) kvs')
    (hf : PyProof.V.FlatPairs PyData.int kvs' (PyProof.V.putD (PyData.int (([b].getD (Int.toNat 0) 0 * 37 + ((symsOf b c1.r.sum).length : Int) * 3).fmod 256)) (PyData.str (bitsS (i + 1) (frR c1.r))) (codeD b c1.r))) {t' : Tok} :
    HFacts b w (i + 1) ⟨c1.os, (k + 1) :: c.r, cvs', svs', od', nc', ns', kvs', t'⟩ := by
  obtain ⟨hl, hok, hsrc, _, hsv1, _, _⟩ := h
  have hl' : c.r.length = i := by rw [hkr] at hl; simpa using hl
  have e1 : (1 + (i : Int)).toNat = i + 1 := by omega
  have e2 : (1 + (i : Int) - 1).toNat = c.r.length := by omega
  have hs := ok_sum hok
  rw [hkr] at hok hlt hcv hf hsv hsv1 hs
  rw [e1] at hlt
  rw [e2] at hcv
  rw [sym_val] at hsv hf
  rw [cnts_succ (by omega)] at hcv
  simp only [List.sum_cons, List.length_cons] at hs
  refine ⟨by simp [hl'], ⟨hok.1, by omega, ?_⟩, hsrc, hcv, ?_, hd, ?_⟩
  · rw [hl']
    simp only [frR] at hlt
    have e3 : ((2 : Int) ^ (i + 1)) = ((2 ^ (i + 1) : Nat) : Int) := by simp
    rw [e3] at hlt
    omega
  · show IntsAre svs' (symsOf b ((k + 1) :: c.r).sum)
    have e4 : ((k + 1) :: c.r).sum = (k :: c.r).sum + 1 := by simp only [List.sum_cons]; omega
    rw [e4, syms_succ, hsv, List.concat_eq_append]
    exact hsv1.append (.cons _ _ .nil)
  · show PyProof.V.FlatPairs PyData.int kvs' (codeD b ((k + 1) :: c.r))
    rw [codeD_succ, ← putD_new (codeD_new (by simp only [List.sum_cons]; omega)), hl']
    exact hf
theorem pow_form {i c : Nat} : (2 : Int) ^ ((1 + (i : Int)).toNat) + (c : Int) = ((2 ^ (i + 1) + c : Nat) : Int) := by
  have e : (1 + (i : Int)).toNat = i + 1 := by omega
  rw [e]
  simp
theorem bin_c {prog : Program} {w : World} {A : Around} {E : Value → Shared → Prop} {s : Shared} {sz c : Nat} {v : Int} {t : Tok} {Q : Value → Shared → Prop} (e : v = ((2 ^ sz + c : Nat) : Int)) (hc : c < 2 ^ sz) (hs : sz ≤ 100)
    (h : Q (.str (baseText "0b" 2 ((2 ^ sz + c : Nat) : Int)) s.toks) { s with toks := s.toks + 1 }) : wpAny (model prog w) A (call (.builtin "bin") [.int v t]) Q E s := by
  subst e
  refine P.bin_of_int h ?_
  rw [baseText_len sz c hc, sizeLine_eq]
  omega
theorem slice_bin {prog : Program} {w : World} {A : Around} {E : Value → Shared → Prop} {s : Shared} {h₀ : Heap} {L : Addr} {m : Str → Option Value} {news : List (Addr × Obj)} {value slice : Expr} {sz c : Nat} {t : Tok} {ui : Tok} {Q : Value → Shared → Prop}
    (hF : Fr h₀ L s.heap m) (hN : News h₀ L s.heap news) (hc : c < 2 ^ sz) (hsz : sz ≤ 100) (h : ∀ h' t' k, Fr h₀ L h' m → News h₀ L h' news → Q (.str (bitsS sz c) t') { s with heap := h', toks := k })
    (hs : subscripted slice false (.str (baseText "0b" 2 ((2 ^ sz + c : Nat) : Int)) t) (.ref s.heap.objs.size) = operate [.ref s.heap.objs.size, .str (baseText "0b" 2 ((2 ^ sz + c : Nat) : Int)) t] (getItem (.str (baseText "0b" 2 ((2 ^ sz + c : Nat) : Int)) t) (.ref s.heap.objs.size)) := by with_unfolding_all rfl)
    (ht : ∀ r, letTemporaryGo value (.str (baseText "0b" 2 ((2 ^ sz + c : Nat) : Int)) t) r = pure () := by intro _; with_unfolding_all rfl) :
    wpAny (model prog w) A (subscriptTail value slice (.str (baseText "0b" 2 ((2 ^ sz + c : Nat) : Int)) t) (.ref s.heap.objs.size)) Q E { s with heap := s.heap.push { cls := .type "slice", data := .fields #[.int 3 ui, .none, .none] } } := by
  refine slice_strN_sn hF hN (fun h' t' k a b => ?_) hs ht ?_
  · rw [bin_slice sz c hc]; exact h h' t' k a b
  · rw [baseText_len sz c hc, sizeLine_eq]; omega
/-- what a head is made of: fz holds its objects -/
noncomputable def HeadObjs (w : World) (b : Int) (r : List Nat) (v : Value) (fz : List (Addr × Obj)) : Prop :=
  ∃ (tu cnt sy cd : Addr) (cvs svs : List Value) (od : Obj) (kvs : List (Int × Value)) (ns : Nat), v = .ref tu ∧ fz = [(tu, tupO [.ref cnt, .ref sy, .ref cd]), (cnt, tupO cvs), (sy, W.listOf svs.toArray ns), (cd, od)] ∧
    IntsAre cvs (cntsR r) ∧ IntsAre svs (symsOf b r.sum) ∧ od.IsDictOf (intKind Challenge.rw_ok0140_01.row.prog w) kvs ∧ PyProof.V.FlatPairs PyData.int kvs (codeD b r) ∧ (cd == sysModules) = false
end
end Mine
local macro_rules | `(tactic| walk_at "my t21") => `(tactic| (intro v9 o9 h9 tk9 mv9 F9 N9 S9; (obtain ⟨k9, t9, e9, hk9⟩ := menu_mem mv9); subst e9; (try dsimp only at N9); (try dsimp only); (try k_fold)))
local macro_rules | `(tactic| walk_at "my t22") => `(tactic| (intro h' o' F' N' hd' hf'; (try dsimp only at N'); (try k_sweep)))
namespace Mine
section

section head
theorem head_core {w : World} {mean : ExcName → Option Value} {mg mb : Str → Option Value} {news : List (Addr × Obj)} {src bx : Addr} {os : Obj} {b : Int} {tb : Tok} {nb : Nat}
   {dp un : Nat} {gd : Option (List Code)} {cn : Str} {cs : Scope} {a : Addr} {ccd : Value} {cl : List (Str × Addr)} {outer : List Env} {A₀ : Around} {base h₀ : Heap} {L : Addr} {m : Str → Option Value} {s : Shared} {Q E : Value → Shared → Prop}
    (B : Below A₀ base outer h₀) (F : Fr h₀ L s.heap m) (X : (Mine.hd.heap_39 w.params).In h₀) (N : News h₀ L s.heap ((src, os) :: (bx, W.listOf #[.int b tb] nb) :: news)) (T : Top Mine.hd.view_39 (looseW Mine.hd.view_39 []) mean mg mb h₀)
    (hk : cs.kind = .function) (hne : ∀ p ∈ news, p.1 ≠ src) (hne2 : ∀ p ∈ news, p.1 ≠ bx) (hbx : bx ≠ src) (hs : IsSrc os) (hb0 : 0 < b) (hb1 : b < 100)
    (hdp : dp + 4 < recursionLimit) (hun : un + 30 < cLine) 
    (hret : ∀ (r : List Nat) (o' : Obj) (v : Value) (fz : List (Addr × Obj)) (t' : Tok) (h' : Heap) (tk' : Nat), OkR r → r.length = 9 → IsSrc o' → HeadObjs w b r v fz → Above ((src, os) :: (bx, W.listOf #[.int b tb] nb) :: news) fz → Fr h₀ L h' m → News h₀ L h' ((src, o') :: (bx, W.listOf #[.int (b + 1) t'] nb) :: (fz ++ news)) → Q v { s with heap := h', toks := tk' }) :
      wpAny (model Challenge.rw_ok0140_01.row.prog w) (ktrTop dp un gd cn cs L a ccd cl outer) (call (.ref 280) [.ref src, .ref bx]) Q E s := by
  k_with_none
  k_with "my lt" => first | assumption | exact And.left (by assumption) | exact And.left (And.right (by assumption)) | exact And.right (by assumption) | exact And.left (And.right (And.right (by assumption))) | exact And.right (And.right (by assumption)) | exact And.left (And.right (And.right (And.right (by assumption)))) | exact And.right (And.right (And.right (by assumption))) | exact And.left (And.right (And.right (And.right (And.right (by assumption))))) | exact And.right (And.right (And.right (And.right (by assumption)))) | exact And.left (And.right (And.right (And.right (And.right (And.right (by assumption)))))) | exact And.right (And.right (And.right (And.right (And.right (by assumption))))) | exact And.left (And.right (And.right (And.right (And.right (And.right (And.right (by assumption))))))) | exact And.right (And.right (And.right (And.right (And.right (And.right (by assumption)))))) | exact And.left (And.right (And.right (And.right (And.right (And.right (And.right (And.right (by assumption)))))))) | exact And.right (And.right (And.right (And.right (And.right (And.right (And.right (by assumption))))))) | exact And.left (And.right (And.right (And.right (And.right (And.right (And.right (And.right (And.right (by assumption))))))))) | exact And.right (And.right (And.right (And.right (And.right (And.right (And.right (And.right (by assumption)))))))) | fail
  k_with "my kne" => first | assumption | (refine Ne.symm ?_; assumption) | (refine neN ?_; (try dsimp only); first | (refine Nat.ne_of_lt ?_; k_extra "my lt") | (refine Nat.ne_of_gt ?_; k_extra "my lt") | omega) | fail
  k_with "my room" => first | exact upR 0 (by assumption) rfl | exact upR 1 (by assumption) rfl | exact upR 2 (by assumption) rfl | exact upR 3 (by assumption) rfl | exact upR 4 (by assumption) rfl | exact upR 5 (by assumption) rfl | exact upR 6 (by assumption) rfl | exact upR 7 (by assumption) rfl | exact upR 8 (by assumption) rfl | fail
  k_with "my units" => first | exact upR 0 (by assumption) rfl | exact upR 1 (by assumption) rfl | exact upR 2 (by assumption) rfl | exact upR 3 (by assumption) rfl | exact upR 4 (by assumption) rfl | exact upR 5 (by assumption) rfl | exact upR 6 (by assumption) rfl | exact upR 7 (by assumption) rfl | exact upR 8 (by assumption) rfl | exact upR 9 (by assumption) rfl | exact upR 10 (by assumption) rfl | exact upR 11 (by assumption) rfl | exact upR 12 (by assumption) rfl | fail
  k_with "my sub" => first | exact List.forall_mem_nil _ | assumption | exact List.forall_mem_cons.mpr ⟨(by k_mem), (by k_extra "my sub")⟩ | (intro p9 hp9; repeat (first | exact hp9 | refine List.Mem.tail _ ?_))
  k_with "my ne" => first | exact List.forall_mem_nil _ | assumption | exact List.forall_mem_cons.mpr ⟨(by first | assumption | k_ne), (by k_extra "my ne")⟩
  k_with "my subA" => (intro p9 hp9; repeat' (first | exact hp9 | exact List.mem_append_left _ hp9 | exact List.mem_append_right _ hp9 | refine List.Mem.tail _ ?_))
  k_with "my memB" => first | assumption | exact List.Mem.head _ | (refine List.Mem.tail _ ?_; k_extra "my memB") | (refine List.mem_append_left _ ?_; k_extra "my memB") | (refine List.mem_append_right _ ?_; k_extra "my memB")
  k_with "my leafB" => first | assumption | (refine List.Mem.tail _ ?_; k_extra "my leafB") | (refine List.mem_append_left _ ?_; k_extra "my leafB") | (refine List.mem_append_right _ ?_; k_extra "my leafB")
  k_with "my subB" => first | exact List.forall_mem_nil _ | exact List.forall_mem_cons.mpr ⟨(by k_extra "my memB"), (by k_extra "my subB")⟩ | exact List.forall_mem_append.mpr ⟨(by k_extra "my subB"), (by k_extra "my subB")⟩ | (intro p9 hp9; k_extra "my leafB")
  k_with "pyIter ref" => (refine halt ?_)
  k_with "call ref" => (k_here; k_dflt (refine' one_c (by k_asm) (by k_asm) (by k_asm) (by k_asm) (by k_asm) (by first | exact rfl | assumption) (by k_updF) (by k_mem) (by k_ne) (by assumption) (by first | exact Nat.le_of_ble_eq_true rfl | omega) (by first | exact Nat.le_of_ble_eq_true rfl | omega) (by ktr_room) (by ktr_units) ?_); walk_at "my t21")
  k_with "call type:range" => walk_at "my m7"
  k_with "call builtin:bin" => (refine' bin_c (by exact pow_form) (by assumption) (by omega) ?_)
  k_with "subscriptTail Call" => ((with_reducible show wpAny _ _ (subscriptTail _ (Expr.Slice (some _) none none _) _ _) _ _ _); (refine slice_bin (s := ⟨_, _, _, _, _⟩) (by assumption) (by assumption) (by assumption) (by omega) ?_); walk_at "my t20")
  k_with "setItem ref int" => (k_here; k_dflt (refine' setItem_K PyProof.V.same_int (intKind_is _ _ _ _) ?v ?F ?N ?U ?d ?f ?_ ?z; (case F => k_asm); (case N => k_asm); (case U => k_updF); (case d => k_asm); (case f => k_asm); (case z => assumption); (case v => k_flat)); walk_at "my t22")
  k_with "newTuple" => (k_here; k_dflt (refine' kup_newTuple (by k_asm) (by k_asm) ?_ (by kmk_size)); walk_at "my t8")
  k_with "call type:tuple" => (k_here; k_dflt (refine' kde_tupleOf (by k_asm) (by k_asm) (by exact News.isList (by k_asm) (by k_mem)) (by (simp only [List.size_toArray]; omega)) (by exact rfl) ?_; k_whole); walk_at "my t8")
  k_with "execs cons" => (k_here; dsimp only; k_gentoks)
  k_with "execs nil" => (k_here; dsimp only; k_gentoks)
  k_with "my omega" => ((fail_if_success (fail_if_success omega (config := {}))); lia)
  replace hbx := neN hbx
  refine wpAny_call ?_
  k_dflt cell_enter
  k_steps
  rename_i tk0 l0 h1 al0 cnA h2 i1 n1 s1 e1 e2 e3 al1 sy h3 al2 cd h4 od lo hs1 fs1 hi1 fi1 al3 D h5 al4 h6 h7 h8 h9 h10 h11 tk2 t1 u1 v1 R1 F2 N2 hk2
  refine Halt.go ?_
  refine' range_S (σ := HS) (n := 9) (fun _ c => (src, c.os) :: (bx, W.listOf #[.int b tb] nb) :: (cnA, W.listOf c.cvs.toArray c.nc) :: (sy, W.listOf c.svs.toArray c.ns) :: (cd, c.od) :: news) (fun _ c => [(Str.ofString "free", .int (frR c.r) c.ft)]) (HFacts b w)
    [Str.ofString "size", Str.ofString "turn", Str.ofString "symbol", Str.ofString "free"] ⟨os, [], _, [], od, _, _, [], _⟩ rfl R1 (by decide) (by rfl) F2 (cb_drop N2 (by k_extra "my sub")) ⟨rfl, trivial, hs, i1, .nil, hi1, fi1⟩ (List.forall_mem_singleton.mpr rfl) ?_ ?_
  · clear R1 F2 N2 hk2
    intro i c t u I io h tk' hi hf hI F3 N3
    have hf0 := hf
    obtain ⟨hl, hok, hsrc, hcv, hsv, hd, hfp⟩ := hf
    simp only [List.forall_mem_cons] at hI
    obtain ⟨hI1, hI2, hI3, hI4, hI5, hI6⟩ := hI
    replace hI1 := neN hI1; replace hI2 := neN hI2; replace hI3 := neN hI3; replace hI4 := neN hI4; replace hI5 := neN hI5

    k_steps
    rename_i h12 l1 h13 F4 N4 al5 os1 h14 tk3 so1 k9 t9 hk9 hm9 h15 tk4 t2 u2 v2 R2 F5 N5 hk5
    refine Halt.go ?_
    clear hk5 hm9
    refine' range_S (σ := HS) (n := ((k9 : Int) - 0).toNat) (fun _ c => (I, io) :: (src, c.os) :: (bx, W.listOf #[.int b tb] nb) :: (cnA, W.listOf c.cvs.toArray c.nc) :: (sy, W.listOf c.svs.toArray c.ns) :: (cd, c.od) :: news) (fun _ c => [(Str.ofString "free", .int (frR c.r) c.ft)])
      (fun j c' => HFacts b w (i + 1) c' ∧ ∃ k, c'.r = k :: c.r ∧ k ≤ j)
      [Str.ofString "turn", Str.ofString "symbol", Str.ofString "free"] ⟨os1, 0 :: c.r, c.cvs, c.svs, c.od, c.nc, c.ns, c.kvs, _⟩ rfl R2 (small_one (by omega) (by omega) (by omega) (by omega)) (rangeSize_nat _ _) F5 (cb_drop N5 (by k_extra "my sub")) ⟨hf_zero hf0 hi so1, 0, rfl, Nat.le_refl _⟩ (List.forall_mem_singleton.mpr free_dbl) ?_ ?_
    · clear R2 F5 N5
      intro j c1 tj u1 J jo h16 tk5 hj hf2 hJ F6 N6
      obtain ⟨⟨hl1, hok1, hsrc1, hcv1, hsv1, hd1, hfp1⟩, kk, hkr, hkj⟩ := hf2
      simp only [List.forall_mem_cons] at hJ
      obtain ⟨hJ0, hJ1, hJ2, hJ3, hJ4, hJ5, hJ6⟩ := hJ
      have hc16 : (cntsR c1.r).length = 16 := cnts_len (by omega)
      have hsl : (symsOf b c1.r.sum).length = c1.r.sum := syms_len _ _
      have hsm := ok_sum hok1
      have hDl : (codeD b c1.r).length ≤ sizeLine := by
        rw [sizeLine_eq]; simp only [codeD, List.length_mapIdx, codes_len]; omega
      have hlt : frR c1.r < 2 ^ (i + 1) := by have := ok_lt hok1; rw [hl1] at this; omega
      replace hJ0 := neN hJ0; replace hJ1 := neN hJ1; replace hJ2 := neN hJ2; replace hJ3 := neN hJ3; replace hJ4 := neN hJ4; replace hJ5 := neN hJ5
      k_steps
      · refine' TurnPost.next ?F1 (cb_drop ?N1 ?sub1) ?hI1 ?J1
        case F1 => assumption
        case' J1 => refine' ⟨⟨c1.os, (kk + 1) :: c.r, _, _, _, _, _, _, _⟩, rfl, ⟨?hf1, kk + 1, rfl, by omega⟩, List.forall_mem_singleton.mpr (free_succ hkr), fun z hz => ?fr1⟩
        case' hf1 => refine' hf_succ ⟨hl1, hok1, hsrc1, hcv1, hsv1, hd1, hfp1⟩ hkr hi hkj hj hk9 (by assumption) (by assumption) rfl (by assumption) (by assumption)
        case N1 => assumption
        case sub1 => k_extra "my sub"
        case hI1 => k_extra "my ne"
        case fr1 =>
          dsimp only
          (repeat' (with_reducible (refine off_if (ne_of_stored hz ?_) ?_)))
          all_goals first | rfl | exact mkFr_off hz rfl rfl rfl
      · refine' TurnPost.next ?F2 (cb_drop ?N2 ?sub2) ?hI2 ?J2
        case F2 => assumption
        case J2 =>
          refine' ⟨⟨c1.os, c1.r, _, _, _, _, _, c1.kvs, _⟩, rfl, ⟨⟨hl1, hok1, hsrc1, hcv1, hsv1, hd1, hfp1⟩, kk, hkr, by omega⟩, List.forall_mem_singleton.mpr rfl, fun z hz => ?fr2⟩
          case fr2 =>
            dsimp only
            (repeat' (with_reducible (refine off_if (ne_of_stored hz ?_) ?_)))
            all_goals first | rfl | exact mkFr_off hz rfl rfl rfl
        case N2 => assumption
        case sub2 => k_extra "my sub"
        case hI2 => k_extra "my ne"
    · clear R2 F5 N5
      intro c1 u1 h16 tk5 hf2 F6 N6
      obtain ⟨hfa, kk, hkr, hkj⟩ := hf2
      k_steps
      refine' TurnPost.next ?F3 (cb_drop ?N3 ?sub3) ?hI3 ?J3
      case F3 => assumption
      case' J3 => refine' ⟨c1, rfl, hfa, List.forall_mem_singleton.mpr rfl, fun z hz => ?fr3⟩
      case N3 => assumption
      case sub3 => k_extra "my sub"
      case hI3 => k_extra "my ne"
      case J3 =>
        refine mkFr_off hz rfl rfl ?_
        dsimp only
        (repeat' (with_reducible (refine off_if (ne_of_stored hz ?_) ?_)))
        all_goals first | rfl | exact mkFr_off hz rfl rfl rfl
  · clear R1 F2 N2 hk2
    intro c u h tk' hf F3 N3
    obtain ⟨hl, hok, hsrc, hcv, hsv, hd, hfp⟩ := hf
    have hc16 : c.cvs.length = 16 := by have q1 := hcv.length; have q2 := cnts_len (r := c.r) (by omega); omega
    k_steps
    rename_i D1 h17 l1 D2 h18 F6 N6 l2 F7 N7 T7 X7
    exact hret c.r c.os _ [(D2, tupO [.ref D1, .ref sy, .ref cd]), (D1, tupO c.cvs), (sy, W.listOf c.svs.toArray c.ns), (cd, c.od)] _ _ _ hok hl hsrc ⟨D2, D1, sy, cd, c.cvs, c.svs, c.od, c.kvs, c.ns, rfl, rfl, hcv, hsv, hd, hfp, lo⟩
      (.cons ⟨by omega, by omega, l2.2.2.2.2.2.2⟩ (.cons ⟨by omega, by omega, l1.2.2.2.2.2⟩ (.cons ⟨by omega, by omega, al2.2.2.2.2⟩ (.cons ⟨by omega, by omega, al3.2.2.2.2.2⟩ .nil)))) F7 (cb_drop N7 (by k_extra "my sub"))
end head
end
end Mine
-- LB8
namespace Mine
section

theorem lia_LB8 : True := by
  k_with_none
  k_with "my omega" => ((fail_if_success (fail_if_success omega (config := {}))); lia)
  trivial
/-- a statement that only moves the heap: what holds behind it, once -/
noncomputable def CutPost (h₀ : Heap) (L : Addr) (m : Str → Option Value) (s : Shared) (R : Heap → Prop) (f : Flow) (s' : Shared) : Prop := f = .next ∧ ∃ h' tk', s' = { s with heap := h', toks := tk' } ∧ Fr h₀ L h' m ∧ R h'
theorem CutPost.intro {h₀ : Heap} {L : Addr} {m : Str → Option Value} {s : Shared} {R : Heap → Prop} {h' : Heap} {tk' : Nat} (F : Fr h₀ L h' m) (r : R h') : CutPost h₀ L m s R .next { s with heap := h', toks := tk' } := ⟨rfl, h', tk', rfl, F, r⟩
theorem execs_cut {prog : Program} {w : World} {A : Around} {E : Value → Shared → Prop} {s : Shared} {env : Env} {st : Stmt} {rest : List Stmt} {Q : Flow → Shared → Prop} {h₀ : Heap} {L : Addr} {m : Str → Option Value} (_ : Fr h₀ L s.heap m) (R : Heap → Prop)
    (h1 : wpAny (model prog w) A (exec st env) (CutPost h₀ L m s R) E s)
    (h2 : ∀ h' tk', Fr h₀ L h' m → R h' → wpAny (model prog w) A (execs rest env) Q E { s with heap := h', toks := tk' }) : wpAny (model prog w) A (execs (st :: rest) env) Q E s := by
  refine wpAny_execs_cons (wpAny_mono h1 ?_ fun _ _ e => e)
  rintro f s' ⟨rfl, h', tk', rfl, F, r⟩
  exact h2 h' tk' F r
end
end Mine
-- LP4
namespace Mine
section

theorem lia_LP4 : True := by
  k_with_none
  k_with "my omega" => ((fail_if_success (fail_if_success omega (config := {}))); lia)
  trivial
/-- the code of the p-th symbol, as text and as bits -/
noncomputable def codeB (r : List Nat) (p : Nat) : List Nat := match (codesR r)[p]? with
  | some (s, c) => bitsB s c
  | none => []
noncomputable def codeS (r : List Nat) (p : Nat) : Str := textB (codeB r p)
theorem codeD_get {b : Int} {r : List Nat} {p : Nat} (hp : p < r.sum) : (codeD b r)[p]? = some (PyData.int (symOf b p), PyData.str (codeS r p)) := by
  unfold codeD
  rw [List.getElem?_mapIdx]
  have hl : p < (codesR r).length := by rw [codes_len]; exact hp
  rw [List.getElem?_eq_getElem hl]
  unfold codeS codeB
  rw [List.getElem?_eq_getElem hl]
  simp only [Option.map_some]
  rw [← bitsS_text]
theorem look_at {k a v : PyData} : ∀ {l : List (PyData × PyData)} {p : Nat}, l[p]? = some (a, v) → PySem.Spec.same a k = true → (∀ j y, j < p → l[j]? = some y → PySem.Spec.same y.1 k = false) → PySem.Spec.lookup k l = some v
  | [], p, h, _, _ => by simp at h
  | (a0, v0) :: l, 0, h, hx, _ => by
    simp at h
    obtain ⟨rfl, rfl⟩ := h
    show (if PySem.Spec.same a0 k then some v0 else _) = _
    rw [hx]; rfl
  | (a0, v0) :: l, p + 1, h, hx, hn => by
    have h0 := hn 0 (a0, v0) (Nat.succ_pos _) rfl
    show (if PySem.Spec.same a0 k then some v0 else PySem.Spec.lookup k l) = _
    dsimp only at h0
    rw [h0]
    exact look_at (p := p) (by simpa using h) hx fun j y hj hy => hn (j + 1) y (by omega) (by simpa using hy)
theorem code_lookup {b : Int} {r : List Nat} {p : Nat} (hp : p < r.sum) (h80 : r.sum < 80) : PySem.Spec.lookup (PyData.int (symOf b p)) (codeD b r) = some (PyData.str (codeS r p)) := by
  refine look_at (codeD_get hp) (decide_eq_true rfl) fun j y hj hy => ?_
  rw [codeD_get (by omega)] at hy
  cases hy
  exact decide_eq_false fun e => by have := symOf_inj (by omega) (by omega) e; omega
theorem code_value {b : Int} {r : List Nat} {kvs : List (Int × Value)} {p : Nat} (hf : PyProof.V.FlatPairs PyData.int kvs (codeD b r)) (hp : p < r.sum) (h80 : r.sum < 80) : ∃ t, valueAt kvs (symOf b p) = some (.str (codeS r p) t) := by
  obtain ⟨v, h1, h2⟩ := PyProof.V.FlatPairs.of_lookup PyProof.V.same_int hf (code_lookup hp h80)
  obtain ⟨t, rfl⟩ := PyProof.V.Flat.str_inv h2
  exact ⟨t, h1⟩
theorem glue_fold : ∀ (l : List (List Nat)) (z : List Nat), (l.map textB).foldl (fun acc p => acc ++ (Str.ofString "").cps ++ p.cps) z.toArray = (z ++ l.flatten.map (48 + ·)).toArray
  | [], z => by simp
  | a :: l, z => by
    rw [List.map_cons, List.foldl_cons]
    have e : z.toArray ++ (Str.ofString "").cps ++ (textB a).cps = (z ++ a.map (48 + ·)).toArray := by
      have : (Str.ofString "").cps = #[] := rfl
      rw [this]; simp [textB]
    rw [e, glue_fold l]
    simp
theorem join_tB (l : List (List Nat)) : Txt.join (Str.ofString "") (l.map textB) = textB l.flatten := by
  unfold Txt.join PySem.Builtin.Str.glued
  cases l with
  | nil => rfl
  | cons a l =>
    have e : ((a :: l).map textB).headD Str.empty = textB a := rfl
    rw [e]
    have h := glue_fold l (a.map (48 + ·))
    have e2 : ((a :: l).map textB).drop 1 = l.map textB := rfl
    rw [e2]
    have e3 : (textB a).cps = (a.map (48 + ·)).toArray := rfl
    rw [e3, h]
    simp [textB]
theorem join_codes (r : List Nat) (ps : List Nat) : Txt.join (Str.ofString "") (ps.map (codeS r)) = textB (ps.map (codeB r)).flatten := by
  have : ps.map (codeS r) = (ps.map (codeB r)).map textB := by rw [List.map_map]; rfl
  rw [this, join_tB]
theorem codeB_lt (r : List Nat) (p b : Nat) (h : b ∈ codeB r p) : b < 2 := by
  unfold codeB at h
  split at h
  · exact bitsB_lt _ _ _ h
  · exact nomatch h
theorem flat_get : ∀ {ls : List (List Nat)} {j i : Nat} {l : List Nat}, ls[j]? = some l → i < l.length → ls.flatten.getD ((ls.take j).flatten.length + i) 0 = l.getD i 0
  | [], j, i, l, h, _ => by simp at h
  | a :: ls, 0, i, l, h, hi => by
    simp at h; subst h
    simp only [List.take_zero, List.flatten_nil, List.length_nil, Nat.zero_add, List.flatten_cons]
    rw [List.getD_eq_getElem?_getD, List.getD_eq_getElem?_getD, List.getElem?_append_left hi]
  | a :: ls, j + 1, i, l, h, hi => by
    have ih := flat_get (ls := ls) (j := j) (i := i) (l := l) (by simpa using h) hi
    rw [List.take_succ_cons, List.flatten_cons, List.flatten_cons, List.length_append]
    rw [List.getD_eq_getElem?_getD, List.getElem?_append_right (by omega)]
    rw [List.getD_eq_getElem?_getD] at ih
    rw [← ih]
    congr 2
    omega
end
end Mine
-- LP5
namespace Mine
section

theorem lia_LP5 : True := by
  k_with_none
  k_with "my omega" => ((fail_if_success (fail_if_success omega (config := {}))); lia)
  trivial
theorem codeB_is {r : List Nat} {p n c : Nat} (h : (codesR r)[p]? = some (n, c)) : codeB r p = bitsB n c := by
  unfold codeB; rw [h]
theorem codeB_len {r : List Nat} {p : Nat} (hr : OkR r) (h16 : r.length ≤ 16) (hp : p < r.sum) : (codeB r p).length ≤ 16 := by
  obtain ⟨n, c, h1, h2, h3, h4, _⟩ := decode hp hr h16
  rw [codeB_is h4, bitsB_len]; omega
theorem flat_len {r : List Nat} (hr : OkR r) (h16 : r.length ≤ 16) : ∀ {ps : List Nat}, (∀ p ∈ ps, p < r.sum) → ((ps.map (codeB r)).flatten).length ≤ 16 * ps.length
  | [], _ => by simp
  | p :: ps, h => by
    have h1 := codeB_len hr h16 (h p (.head _))
    have h2 := flat_len hr h16 (ps := ps) fun q hq => h q (.tail _ hq)
    rw [List.map_cons, List.flatten_cons, List.length_append, List.length_cons]
    omega
theorem strs_len {r : List Nat} (hr : OkR r) (h16 : r.length ≤ 16) : ∀ {ps : List Nat}, (∀ p ∈ ps, p < r.sum) → ((ps.map (codeS r)).map (·.length)).sum ≤ 16 * ps.length
  | [], _ => by simp
  | p :: ps, h => by
    have h1 := codeB_len hr h16 (h p (.head _))
    have h2 := strs_len hr h16 (ps := ps) fun q hq => h q (.tail _ hq)
    have h3 : (codeS r p).length = (codeB r p).length := textB_len _
    rw [List.map_cons, List.map_cons, List.sum_cons, List.length_cons, h3]
    omega
theorem join_ok {r ps : List Nat} (hr : OkR r) (h16 : r.length ≤ 16) (h : ∀ p ∈ ps, p < r.sum) (h3 : ps.length ≤ 3) : ((ps.map (codeS r)).map (·.length)).sum + (ps.map (codeS r)).length * (Str.ofString "").length ≤ 16777216 := by
  have h1 := strs_len hr h16 h
  have h2 : (Str.ofString "").length = 0 := rfl
  rw [h2, Nat.mul_zero]
  omega
theorem take_flat {f : Nat → List Nat} {ps : List Nat} {j p : Nat} (h : ps[j]? = some p) : ((ps.take (j + 1)).map f).flatten = ((ps.take j).map f).flatten ++ f p := by
  rw [List.take_add_one, h]
  simp
theorem take_flat_le {f : Nat → List Nat} (ps : List Nat) (j : Nat) : ((ps.take j).map f).flatten.length ≤ (ps.map f).flatten.length := by
  have e : ps.map f = (ps.take j).map f ++ (ps.drop j).map f := by rw [← List.map_append, List.take_append_drop]
  rw [e, List.flatten_append, List.length_append]
  omega
/-- the reader at the j-th code of a row -/
theorem row_read {r ps wl pad : List Nat} {nb j p : Nat} (hr : OkR r) (h16 : r.length ≤ 16) (hj : ps[j]? = some p) (hp : p < r.sum) (hwl : wl = (ps.map (codeB r)).flatten ++ pad) (hln : wl.length = 8 * nb) (hbt : ∀ b ∈ wl, b < 2) :
    ∃ n : Nat, n < 16 ∧ accB (octs wl nb) ((ps.take j).map (codeB r)).flatten.length (n + 1) - codeAt (cntsR r) n < (cntsR r).getD n 0 ∧
      (∀ i, i < n → ¬ accB (octs wl nb) ((ps.take j).map (codeB r)).flatten.length (i + 1) - codeAt (cntsR r) i < (cntsR r).getD i 0) ∧
      placeAt (cntsR r) n + accB (octs wl nb) ((ps.take j).map (codeB r)).flatten.length (n + 1) - codeAt (cntsR r) n = (p : Int) ∧
      ((((ps.take j).map (codeB r)).flatten.length : Nat) : Int) + n < 8 * (octs wl nb).length ∧ ((ps.take (j + 1)).map (codeB r)).flatten.length = ((ps.take j).map (codeB r)).flatten.length + n + 1 := by
  obtain ⟨n, c, h1, h2, h3, h4, h5⟩ := decode hp hr h16
  have e1 := codeB_is h4
  have e2 : (codeB r p).length = n + 1 := by rw [e1, bitsB_len]
  have e3 : ((ps.take (j + 1)).map (codeB r)).flatten.length = ((ps.take j).map (codeB r)).flatten.length + n + 1 := by
    rw [take_flat hj, List.length_append, e2]; omega
  have e4 := take_flat_le (f := codeB r) ps (j + 1)
  have e5 : (ps.map (codeB r)).flatten.length ≤ 8 * nb := by rw [← hln, hwl, List.length_append]; omega
  have e6 : ((ps.map (codeB r)).take j) = (ps.take j).map (codeB r) := by rw [List.map_take]
  have e7 : (ps.map (codeB r))[j]? = some (codeB r p) := by rw [List.getElem?_map, hj]; rfl
  obtain ⟨a1, a2, a3⟩ := h5 (octs wl nb) ((ps.take j).map (codeB r)).flatten.length fun i hi => by
    rw [bit_octs hbt hln (by omega)]
    have e8 := flat_get (i := i) e7 (by omega)
    rw [e6] at e8
    rw [← e1, ← e8, hwl, List.getD_eq_getElem?_getD, List.getD_eq_getElem?_getD, List.getElem?_append_left (by omega)]
  exact ⟨n, h1, a1, a2, a3, by rw [octs_len]; omega, e3⟩
theorem syms_get {b : Int} {n p : Nat} (h : p < n) : (symsOf b n).getD p 0 = symOf b p := by
  unfold symsOf
  rw [List.getD_eq_getElem?_getD, List.getElem?_map, List.getElem?_range h]; rfl
end
end Mine
-- L12
namespace Mine
section
open PyProof.Rows.LCg
noncomputable def RowAt (b : Int) (r : List Nat) (a : Addr) (tl : List (Addr × Obj)) : Prop := ∃ (vs : List Value) (ps : List Nat) (n : Nat), (a, W.listOf vs.toArray n) ∈ tl ∧ IntsAre vs (ps.map (symOf b)) ∧ (∀ p ∈ ps, p < r.sum) ∧ ps.length ≤ 3
noncomputable def RowsOk (b : Int) (r : List Nat) (ys : List Value) (tl : List (Addr × Obj)) : Prop := ∀ v ∈ ys, ∃ a, v = .ref a ∧ RowAt b r a tl
theorem RowAt.mono {b : Int} {r : List Nat} {a : Addr} {tl tl' : List (Addr × Obj)} (h : RowAt b r a tl) (hs : ∀ p ∈ tl, p ∈ tl') : RowAt b r a tl' := by
  obtain ⟨vs, ps, n, h1, h2⟩ := h
  exact ⟨vs, ps, n, hs _ h1, h2⟩
theorem RowsOk.mono {b : Int} {r : List Nat} {ys : List Value} {tl tl' : List (Addr × Obj)} (h : RowsOk b r ys tl) (hs : ∀ p ∈ tl, p ∈ tl') : RowsOk b r ys tl' := fun v hv =>
  let ⟨a, e, h1⟩ := h v hv; ⟨a, e, h1.mono hs⟩
theorem RowsOk.snoc {b : Int} {r : List Nat} {ys : List Value} {tl : List (Addr × Obj)} {a : Addr} (h : RowsOk b r ys tl) (h1 : RowAt b r a tl) : RowsOk b r (ys ++ [.ref a]) tl := fun v hv => by
  rcases List.mem_append.mp hv with hv | hv
  · exact h v hv
  · rw [List.mem_singleton.mp hv]; exact ⟨a, rfl, h1⟩
noncomputable def Led12 (L9 src tu cnt sy cd : Addr) (c1 c2 c3 c4 os od : Obj) (svs : List Value) (ns : Nat) (tl : List (Addr × Obj)) : List (Addr × Obj) :=
  (L9 + 1 + 1 + 1 + 1, c1) :: (L9 + 1 + 1 + 1, c2) :: (L9 + 1 + 1, c3) :: (L9 + 1, c4) :: (src, os) :: (tu, tupO [.ref cnt, .ref sy, .ref cd]) :: (sy, W.listOf svs.toArray ns) :: (cd, od) :: tl
noncomputable def Off12 (L9 src : Addr) (news tl : List (Addr × Obj)) : Prop := (∀ p ∈ news, p ∈ tl) ∧ (∀ p ∈ tl, p.1 ≠ src) ∧ (∀ p ∈ tl, p.1 ≠ L9 + 1 + 1 + 1 + 1)
noncomputable def Inv12 (L9 src tu cnt sy cd l2 D : Addr) (c1 c2 c3 c4 od : Obj) (svs ys : List Value) (ns : Nat) (tl : List (Addr × Obj)) (b : Int) (r : List Nat) (i : Nat) (zs : List Value) (nw : List (Addr × Obj)) : Prop :=
  ∃ (os' : Obj) (ps : List Nat), nw = (l2, W.listOf #[] 0) :: (D, lst ys) :: Led12 L9 src tu cnt sy cd c1 c2 c3 c4 os' od svs ns tl ∧ IsSrc os' ∧ zs.length = i ∧ ps.length = i ∧ (∀ p ∈ ps, p < r.sum) ∧ IntsAre zs (ps.map (symOf b))
theorem sym_mem {b : Int} {n : Nat} {svs : List Value} {v : Value} (h : IntsAre svs (symsOf b n)) (hv : v ∈ svs) : ∃ (p : Nat) (t : Tok), p < n ∧ v = .int (symOf b p) t := by
  obtain ⟨i, hi, e⟩ := List.getElem_of_mem hv
  have hl := h.length
  have hn := syms_len b n
  have hi2 : i < n := by rw [hl, hn] at hi; exact hi
  obtain ⟨t, ht⟩ := h.get i (symOf b i) (by simp [symsOf, hi2])
  rw [List.getElem?_eq_getElem hi] at ht
  exact ⟨i, t, by omega, by rw [← e]; exact Option.some.inj ht⟩
theorem off1_mem {D : Addr} : ∀ {l : List (Addr × Obj)}, Off1 D l → ∀ p ∈ l, p.1 ≠ D
  | [], _, _, h => nomatch h
  | _ :: _, x, p, h => by
    rcases List.mem_cons.mp h with rfl | h
    · exact x.1
    · exact off1_mem x.2 p h
theorem item_get {prog : Program} {w : World} {A : Around} {E : Value → Shared → Prop} {s : Shared} {h₀ : Heap} {L d : Addr} {news : List (Addr × Obj)} {o : Obj} {kvs : List (Int × Value)} {k : Int} {t : Tok} {v : Value} {Q : Value → Shared → Prop} (N : News h₀ L s.heap news) (hp : (d, o) ∈ news)
    (hd : o.IsDictOf (intKind prog w) kvs) (hl : valueAt kvs k = some v) (h : Q v { s with toks := s.toks + 1 }) : wpAny (model prog w) A (getItem (.ref d) (.int k t)) Q E s :=
  wpAny_getItem_of (intKind_is _ _ _ _) (kda_dict N hp hd).mapOf hl h
theorem ne_swap {d a : Addr} {o o' : Obj} {l1 l2 : List (Addr × Obj)} (h : ∀ p ∈ l1 ++ (a, o) :: l2, p.1 < d) : ∀ p ∈ l1 ++ (a, o') :: l2, p.1 ≠ d := fun p hp => by
  rcases List.mem_append.mp hp with hp | hp
  · exact Nat.ne_of_lt (h p (List.mem_append_left _ hp))
  rcases List.mem_cons.mp hp with rfl | hp
  · exact Nat.ne_of_lt (h (a, o) (List.mem_append_right _ (.head _)))
  · exact Nat.ne_of_lt (h p (List.mem_append_right _ (.tail _ hp)))
theorem ne_swapI {I a : Addr} {o o' : Obj} {l1 l2 : List (Addr × Obj)} (h : ∀ p ∈ l1 ++ (a, o) :: l2, p.1 ≠ I) : ∀ p ∈ l1 ++ (a, o') :: l2, p.1 ≠ I := fun p hp => by
  rcases List.mem_append.mp hp with hp | hp
  · exact h p (List.mem_append_left _ hp)
  rcases List.mem_cons.mp hp with rfl | hp
  · exact h (a, o) (List.mem_append_right _ (.head _))
  · exact h p (List.mem_append_right _ (.tail _ hp))
end
end Mine
local macro_rules | `(tactic| walk_at "my t23") => `(tactic| (intro v9 o9 h9 tk9 mv9 F9 N9 S9; (try dsimp only at N9); (try dsimp only); (try k_fold)))
local macro_rules | `(tactic| walk_at "my m24") => `(tactic| ((rename Fr _ _ _ _ => F'); (rename News _ _ _ _ => N'); (with_unfolding_all refine range1_rows F' N' ?_; intro _ _ _ _ _ _ _ _ _); clear F' N'))
local macro_rules | `(tactic| walk_at "my t25") => `(tactic| (intro wl9 nb9 b9 t9 h9 tk9 ew9 ln9 bt9 bi9 F9 N9; (try dsimp only); (try k_fold)))
local macro_rules | `(tactic| walk_at "my t26") => `(tactic| (intro x9 d9 ti9 ta9 tb9 h9 tk9 F9 N9 n9 l9; (try dsimp only); (try k_fold)))
namespace Mine
section
open PyProof.Rows.LCg
section reads
theorem reads_core {w : World} {mean : ExcName → Option Value} {mg mb : Str → Option Value} {news : List (Addr × Obj)} {src tu cnt sy cd : Addr} {os od : Obj} {svs : List Value} {ns : Nat} {tv : Value} {fz : List (Addr × Obj)} {b : Int} {r : List Nat} {kvs : List (Int × Value)}
   {dp un : Nat} {gd : Option (List Code)} {cn : Str} {cs : Scope} {a : Addr} {ccd : Value} {cl : List (Str × Addr)} {outer : List Env} {A₀ : Around} {base h₀ : Heap} {L : Addr} {m : Str → Option Value} {s : Shared} {Q E : Value → Shared → Prop}
    (B : Below A₀ base outer h₀) (F : Fr h₀ L s.heap m) (X : (Mine.hd.heap_39 w.params).In h₀) (N : News h₀ L s.heap ((src, os) :: (tu, tupO [.ref cnt, .ref sy, .ref cd]) :: (sy, W.listOf svs.toArray ns) :: (cd, od) :: news)) (T : Top Mine.hd.view_39 (looseW Mine.hd.view_39 []) mean mg mb h₀)
    (hk : cs.kind = .function) (hs : IsSrc os) (hne : ∀ p ∈ news, p.1 ≠ src) (e1 : tu ≠ src) (e2 : sy ≠ src) (e3 : cd ≠ src) (hsv : IntsAre svs (symsOf b r.sum)) (hd : od.IsDictOf (intKind Challenge.rw_ok0140_01.row.prog w) kvs) (hf : PyProof.V.FlatPairs PyData.int kvs (codeD b r)) (hcd : (cd == sysModules) = false)
    (hok : OkR r) (hr9 : r.length = 9) (hT : TableObjs w (cntsR r) (symsOf b r.sum) tv fz) (hfz : ∀ p ∈ fz, p ∈ news)
    (hdp : dp + 10 < recursionLimit) (hun : un + 100 < cLine)
    (hret : ∀ (o' : Obj) (h' : Heap) (tk' : Nat), IsSrc o' → Fr h₀ L h' m → News h₀ L h' ((src, o') :: (tu, tupO [.ref cnt, .ref sy, .ref cd]) :: (sy, W.listOf svs.toArray ns) :: (cd, od) :: news) → Q (.bool true) { s with heap := h', toks := tk' }) :
      wpAny (model Challenge.rw_ok0140_01.row.prog w) (ktrTop dp un gd cn cs L a ccd cl outer) (call (.ref 304) [.ref src, tv, .ref tu]) Q E s := by
  k_with_none
  k_with "my lt" => first | assumption | exact And.left (by assumption) | exact And.left (And.right (by assumption)) | exact And.right (by assumption) | exact And.left (And.right (And.right (by assumption))) | exact And.right (And.right (by assumption)) | exact And.left (And.right (And.right (And.right (by assumption)))) | exact And.right (And.right (And.right (by assumption))) | exact And.left (And.right (And.right (And.right (And.right (by assumption))))) | exact And.right (And.right (And.right (And.right (by assumption)))) | exact And.left (And.right (And.right (And.right (And.right (And.right (by assumption)))))) | exact And.right (And.right (And.right (And.right (And.right (by assumption))))) | exact And.left (And.right (And.right (And.right (And.right (And.right (And.right (by assumption))))))) | exact And.right (And.right (And.right (And.right (And.right (And.right (by assumption)))))) | exact And.left (And.right (And.right (And.right (And.right (And.right (And.right (And.right (by assumption)))))))) | exact And.right (And.right (And.right (And.right (And.right (And.right (And.right (by assumption))))))) | exact And.left (And.right (And.right (And.right (And.right (And.right (And.right (And.right (And.right (by assumption))))))))) | exact And.right (And.right (And.right (And.right (And.right (And.right (And.right (And.right (by assumption)))))))) | fail
  k_with "my kne" => first | assumption | (refine Ne.symm ?_; assumption) | (refine neN ?_; (try dsimp only); first | (refine Nat.ne_of_lt ?_; k_extra "my lt") | (refine Nat.ne_of_gt ?_; k_extra "my lt") | omega) | fail
  k_with "my room" => first | exact upR 0 (by assumption) rfl | exact upR 1 (by assumption) rfl | exact upR 2 (by assumption) rfl | exact upR 3 (by assumption) rfl | exact upR 4 (by assumption) rfl | exact upR 5 (by assumption) rfl | exact upR 6 (by assumption) rfl | exact upR 7 (by assumption) rfl | exact upR 8 (by assumption) rfl | fail
  k_with "my units" => first | exact upR 0 (by assumption) rfl | exact upR 1 (by assumption) rfl | exact upR 2 (by assumption) rfl | exact upR 3 (by assumption) rfl | exact upR 4 (by assumption) rfl | exact upR 5 (by assumption) rfl | exact upR 6 (by assumption) rfl | exact upR 7 (by assumption) rfl | exact upR 8 (by assumption) rfl | exact upR 9 (by assumption) rfl | exact upR 10 (by assumption) rfl | exact upR 11 (by assumption) rfl | exact upR 12 (by assumption) rfl | fail
  k_with "my sub" => first | exact List.forall_mem_nil _ | assumption | exact List.forall_mem_cons.mpr ⟨(by k_mem), (by k_extra "my sub")⟩ | (intro p9 hp9; repeat (first | exact hp9 | refine List.Mem.tail _ ?_))
  k_with "my ne" => first | exact List.forall_mem_nil _ | assumption | exact List.forall_mem_cons.mpr ⟨(by first | assumption | k_ne), (by k_extra "my ne")⟩
  k_with "my subA" => (intro p9 hp9; repeat' (first | exact hp9 | exact List.mem_append_left _ hp9 | exact List.mem_append_right _ hp9 | refine List.Mem.tail _ ?_))
  k_with "my memB" => first | assumption | exact List.Mem.head _ | (refine List.Mem.tail _ ?_; k_extra "my memB") | (refine List.mem_append_left _ ?_; k_extra "my memB") | (refine List.mem_append_right _ ?_; k_extra "my memB")
  k_with "my leafB" => first | assumption | (refine List.Mem.tail _ ?_; k_extra "my leafB") | (refine List.mem_append_left _ ?_; k_extra "my leafB") | (refine List.mem_append_right _ ?_; k_extra "my leafB")
  k_with "my subB" => first | exact List.forall_mem_nil _ | exact List.forall_mem_cons.mpr ⟨(by k_extra "my memB"), (by k_extra "my subB")⟩ | exact List.forall_mem_append.mpr ⟨(by k_extra "my subB"), (by k_extra "my subB")⟩ | (intro p9 hp9; k_extra "my leafB")
  k_with "eval ListComp" => (refine halt ?_)
  k_with "pyIter ref" => (refine halt ?_)
  k_with "execs cons" => (k_here; dsimp only; k_gentoks)
  k_with "execs nil" => (k_here; dsimp only; k_gentoks)
  k_with "my enter" => (refine' code_defC ?k1 ?k2 ?k3 ?k4 ?k5 ?kA ?kF ?kK ?k6 ?k7 ?k8 ?k9 ?kB ?kD ?_ ?c2 ?c3 ?c4; (case kA => exact rfl); (case kF => exact rfl); (case kK => assumption); (case k1 => k_asm); (case k2 => k_asm); (case k3 => k_asm); (case k4 => k_asm); (case k5 => k_asm); (case k6 => k_is); (case k7 => k_is); (case k8 => ktr_room); (case k9 => first | exact BindsTo.of_eq rfl | exact binds_K (by k_in) rfl (by k_is) rfl rfl rfl | fail "k_enter: no rule for these arguments"); (case kB => exact rfl); (case kD => decide +kernel); (case c2 => exact rfl); (case c3 => exact rfl); (case c4 => exact rfl); k_whole; walk_at "my t19")
  k_with "exec Assign cons ListComp" => (refine halt ?_)
  k_with "call ref" => (k_here; k_dflt (refine' one_c (by k_asm) (by k_asm) (by k_asm) (by k_asm) (by k_asm) (by first | exact rfl | assumption) (by k_updF) (by k_mem) (by k_ne) (by assumption) (by assumption) (by assumption) (by ktr_room) (by ktr_units) ?_); walk_at "my t23")
  k_with "call type:range" => walk_at "my m24"
  k_with "CompSrc" => (refine halt ?_)
  k_with "subscriptTail Subscript" => (k_here; (with_reducible show wpAny _ _ (subscriptTail _ _ (Value.ref _) (Value.int _ _)) _ _ _); (with_unfolding_all refine' kda_item (knd := PySem.intKind _ _) (by k_asm) (by k_mem) (by assumption) (intKind_is _ _ _ _) (by assumption) ?_))
  k_with "getItem ref int" => (k_here; k_dflt (refine' item_get (by k_asm) (by k_mem) (by assumption) (by assumption) ?_))
  k_with "call ref" => (k_here; k_dflt (refine' octets_core (by k_asm) (by k_asm) (by k_asm) (by k_asm) (by k_asm) (by first | exact rfl | assumption) (by assumption) (by assumption) (by ktr_room) (by ktr_units) ?_); walk_at "my t25")
  k_with "call ref" => (k_here; k_dflt (refine' reader_c (by k_asm) (by k_asm) (by k_asm) (by k_asm) (by k_asm) (by first | exact rfl | assumption) (by ktr_room) (by ktr_units) ?_); walk_at "my t26")
  k_with "call ref" => (k_here; (with_reducible show wpAny _ _ (call (Value.ref 119) _) _ _ _); refine halt ?_)
  k_with "my mem" => assumption
  k_with "compareOp NotEq ref ref" => (refine halt ?_)
  k_with "execs cons" => ((with_reducible show wpAny _ _ (execs (Stmt.If _ _ _ _ :: _ :: _) _) _ _ _); refine halt ?_)
  k_with "my omega" => ((fail_if_success (fail_if_success omega (config := {}))); lia)
  obtain ⟨xT, dxT, syT, rlT, cdT, tuT, syvT, vsT, nT, qT1, qT2, qT3, qT4, rfl, mT1, mT2, mT3, hsyT, mT4, hraT⟩ := id hT
  replace e1 := neN e1; replace e2 := neN e2; replace e3 := neN e3
  refine wpAny_call ?_
  k_dflt (walk_at "my enter")
  rename_i g9 L9 h9 tk9 FG9 F9 B9 X9 T9 lL c1 c2 c3 c4 dc1 dc2 dc3 dc4 N9
  k_steps
  refine Halt.go ?_
  have nL : ∀ p ∈ news, p.1 < L9 := fun p hp => allLt_iff.mp lL.2.2.2.2 p hp
  refine LCg.Assign_ListComp_U F9 (by rfl) (by with_unfolding_all rfl) (by rfl) (by decide) (by rfl) (by decide) (by rfl) (by rfl) (by rfl) ?_
  k_steps
  refine Halt.go ?_
  refine CompSrc.ledger (k := ns) rfl F9 N9 (.tail _ (.tail _ (.tail _ (.tail _ (.tail _ (.tail _ (.head _))))))) ?sz fun gg => rest_inv (n := svs.toArray.size) (fun i ys nw => ∃ tl, nw = Led12 L9 src tu cnt sy cd c1 c2 c3 c4 os od svs ns tl ∧ Off12 L9 src news tl ∧ ys.length = i ∧ RowsOk b r ys tl) ?_ ?_ _ 0 [] _ (by omega) ⟨news, rfl, ⟨fun _ hp => hp, hne, fun p hp => Nat.ne_of_lt (Nat.lt_add_right 4 (nL p hp))⟩, rfl, fun _ hv => nomatch hv⟩
  case sz => rw [sizeLine_eq]; have := hsv.length; have h2 := syms_len b r.sum; have h3 := ok_sum hok; simp; omega
  · rintro i ys _ v I oI C oC D m₂ h tk E' hi ⟨tl, rfl, ⟨ho1, ho2, ho3⟩, hyl, hro⟩ hv hC hx F3 N3 off ne
    unfold Led12 at N3 off
    have hi2 : i < r.sum := by have := hsv.length; have h2 := syms_len b r.sum; simp at hi; omega
    obtain ⟨tv9, htv⟩ := hsv.get i (symOf b i) (by simp [symsOf, hi2])
    have hv2 : v = .int (symOf b i) tv9 := by
      have : svs[i]? = some v := by simpa using hv
      rw [htv] at this; exact (Option.some.inj this).symm
    subst hv2
    k_steps
    rename_i D' h' F' N' l1
    refine CompEnd.intro F' N' (Led12 L9 src tu cnt sy cd c1 c2 c3 c4 os od svs ns ((D', W.listOf #[.int (symOf b i) tv9] 0) :: tl)) ?sub ?off (.inr ⟨_, .tail _ (.tail _ (.tail _ (.tail _ (.tail _ (.tail _ (.head _)))))), rfl, _, rfl⟩) ⟨_, rfl, ⟨fun p hp => .tail _ (ho1 p hp), ?o2, ?o3⟩, by simp [hyl], (hro.mono fun p hp => .tail _ hp).snoc ⟨[.int (symOf b i) tv9], [i], 0, .head _, .cons _ _ .nil, fun p hp => by rw [List.mem_singleton.mp hp]; exact hi2, by simp⟩⟩
    case sub =>
      dsimp only [Led12]
      k_extra "my subB"
    case off =>
      have hD : ∀ p ∈ (I, oI) :: (C, oC) :: (D, lst ys) :: [], p.1 ≠ D' := fun p hp => by
        simp only [List.mem_cons, List.not_mem_nil, or_false] at hp
        rcases hp with rfl | rfl | rfl
        · exact Nat.ne_of_lt l1.1
        · exact Nat.ne_of_lt l1.2.1
        · exact Nat.ne_of_lt l1.2.2.1
      refine ⟨off.1, off.2.1, off.2.2.1, off.2.2.2.1, off.2.2.2.2.1, off.2.2.2.2.2.1, off.2.2.2.2.2.2.1, off.2.2.2.2.2.2.2.1, ⟨Ne.symm (hD (I, oI) (.head _)), Ne.symm (hD (C, oC) (.tail _ (.head _))), Ne.symm (hD (D, lst ys) (.tail _ (.tail _ (.head _))))⟩, off.2.2.2.2.2.2.2.2⟩
    case o2 => exact List.forall_mem_cons.mpr ⟨Nat.ne_of_gt l1.2.2.2.2.2.2.2.1, ho2⟩
    case o3 => exact List.forall_mem_cons.mpr ⟨Nat.ne_of_gt l1.2.2.2.1, ho3⟩
  · rintro ys _ ⟨tl, rfl, ⟨ho1, ho2, ho3⟩, hyl, hro⟩ D h tk F3 N3 o3
    unfold Led12 at N3 o3
    have o4 := o3.2.2.2.2.2.2.2.2
    have hsvl : svs.length = r.sum := by have h5 := hsv.length; have h6 := syms_len b r.sum; omega
    have hr18 : r.sum ≤ 18 := by have h7 := ok_sum hok; omega
    have symm9 : ∀ v ∈ svs, ∃ (p : Nat) (t : Tok), p < r.sum ∧ v = .int (symOf b p) t := fun v hv => sym_mem hsv hv
    have cval : ∀ p, p < r.sum → ∃ t, valueAt kvs (symOf b p) = some (.str (codeS r p) t) := fun p hp => code_value hf hp (by omega)
    have hd9 := hd
    have w1 : L9 + 1 + 1 + 1 + 1 ≠ D := o3.1
    have w2 : L9 + 1 + 1 + 1 ≠ D := o3.2.1
    have w3 : L9 + 1 + 1 ≠ D := o3.2.2.1
    have w4 : L9 + 1 ≠ D := o3.2.2.2.1
    have w5 : src ≠ D := o3.2.2.2.2.1
    have w6 : tu ≠ D := o3.2.2.2.2.2.1
    have w7 : sy ≠ D := o3.2.2.2.2.2.2.1
    have w8 : cd ≠ D := o3.2.2.2.2.2.2.2.1
    have w9 : ∀ p ∈ tl, p.1 ≠ D := off1_mem o4
    k_steps
    refine Halt.go ?_
    refine execs_cut (by assumption) (fun h' => ∃ (ysX : List Value) (nX : Nat) (osX : Obj) (tlX : List (Addr × Obj)), News g9 L9 h' ((D, W.listOf ysX.toArray nX) :: Led12 L9 src tu cnt sy cd c1 c2 c3 c4 osX od svs ns tlX) ∧ RowsOk b r ysX tlX ∧ Off12 L9 src news tlX ∧ IsSrc osX) ?_ ?_
    · k_steps
      rename_i l2 h2 F2 N2 l2a
      refine Halt.go ?_
      refine ne_intsK (ns := symsOf b r.sum) (ms := []) (News.isList (items := svs.toArray) (n := ns) N2 (by k_mem)) hsv (us := []) (News.isList (items := #[]) (n := 0) N2 (by k_mem)) .nil ?ku0 ?_
      case ku0 => ktr_units
      by_cases hne2 : symsOf b r.sum = []
      · rw [decide_eq_true hne2]
        k_steps
        rename Fr g9 L9 _ _ => FY
        rename News g9 L9 _ _ => NY
        exact CutPost.intro FY ⟨ys, _, os, tl, cb_drop NY (by k_extra "my sub"), hro, ⟨ho1, ho2, ho3⟩, hs⟩
      rw [decide_eq_false hne2]
      k_steps
      have hs0 : 0 < svs.length := by
        have h7 := syms_len b r.sum
        have h8 := List.length_pos_iff.mpr hne2
        omega
      have hs1 : svs.length < 100 := by omega
      have y1 : l2 ≠ src := Nat.ne_of_gt l2a.2.2.2.2.2.1
      have y2 : D ≠ src := Ne.symm (o3.2.2.2.2.1)
      have y3 : L9 + 1 + 1 + 1 + 1 ≠ src := Nat.ne_of_gt (Nat.lt_add_right 4 lL.1)
      have y4 : L9 + 1 + 1 + 1 ≠ src := Nat.ne_of_gt (Nat.lt_add_right 3 lL.1)
      have y5 : L9 + 1 + 1 ≠ src := Nat.ne_of_gt (Nat.lt_add_right 2 lL.1)
      have y6 : L9 + 1 ≠ src := Nat.ne_of_gt (Nat.lt_add_right 1 lL.1)
      refine Halt.go ?_
      refine LCg.ListComp_U F2 (by rfl) (by decide) (by rfl) (by decide) (by rfl) ?_
      k_steps
      rename_i h4 tk4 t4 u4 v4 R4 F4 N4 hk4
      clear hk4
      refine Halt.go ?_
      refine CompSrc.range (n := 3) rfl F4 N4 R4 (by decide) (by rfl) (by rw [sizeLine_eq]; omega) fun gg => rest_inv (n := 3) (Inv12 L9 src tu cnt sy cd l2 D c1 c2 c3 c4 od svs ys ns tl b r) ?_ ?_ 3 0 [] _ (by omega) ⟨os, [], rfl, hs, rfl, rfl, fun p hp => absurd hp List.not_mem_nil, .nil⟩
      · clear R4 F4 N4
        rintro i zs _ v I oI C oC D2 m₂ h5 tk5 E' hi ⟨os', ps, rfl, hso, hzl, hpl, hpr, hzi⟩ ⟨tv9, rfl⟩ hC hx F5 N5 off ne
        unfold Led12 at N5 off
        have osr := Off3.mem off (src, os') (.tail _ (.tail _ (.tail _ (.tail _ (.tail _ (.tail _ (.head _)))))))
        have x1 : I ≠ src := Ne.symm osr.1
        have x2 : C ≠ src := Ne.symm osr.2.1
        have x3 : D2 ≠ src := Ne.symm osr.2.2
        clear osr
        k_steps
        rename_i v9 o9 h9a tk9a mv9 F9a N9a S9
        obtain ⟨p, t9, hp9, rfl⟩ := symm9 v9 mv9
        refine CompEnd.intro F9a N9a ((l2, W.listOf #[] 0) :: (D, lst ys) :: Led12 L9 src tu cnt sy cd c1 c2 c3 c4 o9 od svs ns tl) (fun p hp => hp) off trivial ⟨o9, ps ++ [p], rfl, S9, by simp [hzl], by simp [hpl], fun q hq => ?_, by rw [List.map_append]; exact hzi.append (.cons _ _ .nil)⟩
        rcases List.mem_append.mp hq with hq | hq
        · exact hpr q hq
        · rw [List.mem_singleton.mp hq]; exact hp9
      · rintro zs _ ⟨os', ps, rfl, hso, hzl, hpl, hpr, hzi⟩ D2 h5 tk5 F5 N5 o5
        unfold Led12 at N5 o5
        have z1 : D2 ≠ D := Ne.symm o5.2.1
        have z2 : l2 ≠ D := Nat.ne_of_gt l2a.1
        k_steps
        rename_i h7 F7 N7
        simp only [List.push_toArray] at N7
        have hzl9 : zs.length ≤ 3 := by omega
        have off9 : Off12 L9 src news ((D2, lst zs) :: tl) := ⟨fun p hp => .tail _ (ho1 p hp), List.forall_mem_cons.mpr ⟨Ne.symm o5.2.2.2.2.2.2.1, ho2⟩, List.forall_mem_cons.mpr ⟨Ne.symm o5.2.2.1, ho3⟩⟩
        have row9 : RowAt b r D2 ((D2, lst zs) :: tl) := ⟨zs, ps, zs.length, .head _, by assumption, hpr, by omega⟩
        have rows9 : RowsOk b r (ys ++ [.ref D2]) ((D2, lst zs) :: tl) := RowsOk.snoc (hro.mono fun p hp => .tail _ hp) row9
        refine CutPost.intro F7 ⟨ys ++ [.ref D2], ys.length + 1, os', (D2, lst zs) :: tl, cb_drop N7 ?_, rows9, off9, hso⟩
        dsimp only [Led12]
        k_extra "my subB"
    · rintro hX tkX FX ⟨ysX, nX, osX, tlX, NX, rowX, offX, hsX⟩
      clear F3 N3
      k_steps
      rename Fr g9 L9 _ _ => FX
      rename News g9 L9 _ _ => NX
      refine Halt.go ?_
      have hcb : ∃ v, c1.data = Data.cell v := ⟨_, dc1⟩
      refine' list_S (σ := Obj) (l := D) (ol := W.listOf ysX.toArray nX) (vs := ysX) (nl := nX) (fun _ cb => (D, W.listOf ysX.toArray nX) :: Led12 L9 src tu cnt sy cd cb c2 c3 c4 osX od svs ns tlX) (fun _ _ => []) (fun _ cb => ∃ v, cb.data = Data.cell v) [Str.ofString "row", Str.ofString "symbol"] c1 rfl (fun _ _ => .head _) rfl FX NX hcb (List.forall_mem_nil _) ?_ ?_
      · clear FX NX
        intro i v cb u I io h6 tk6 hv ⟨cv, hcv⟩ hI F6 N6
        obtain ⟨ra, rfl, rvs, ps9, rn, rmem, rints, rlt, rlen⟩ := rowX v (List.mem_of_getElem? hv)
        unfold Led12 at N6 hI
        k_steps
        refine Halt.go ?_
        refine LCg.ListComp_U F6 (by rfl) (by decide) (by rfl) (by decide) (by rfl) ?_
        k_steps
        refine Halt.go ?_
        refine CompSrc.ledger (k := rn) rfl F6 N6 (.tail _ (.tail _ (.tail _ (.tail _ (.tail _ (.tail _ (.tail _ (.tail _ (.tail _ (.tail _ rmem)))))))))) ?sz3 fun gg3 => rest_inv (n := rvs.toArray.size) (fun j zs nw => nw = (I, io) :: (D, W.listOf ysX.toArray nX) :: Led12 L9 src tu cnt sy cd cb c2 c3 c4 osX od svs ns tlX ∧ zs.length = j ∧ StrsAre zs ((ps9.take j).map (codeS r))) ?_ ?_ _ 0 [] _ (by omega) ⟨rfl, rfl, ?nil3⟩
        case sz3 => rw [sizeLine_eq]; have h5 := rints.length; rw [List.length_map] at h5; simp; omega
        case nil3 => exact .nil
        · rintro j zs _ v I3 oI3 C3 oC3 D3 m₃ h9 tk9' E' hj ⟨rfl, hzl3, hzs3⟩ hv3 hC3 hx3 F9' N9' off3 ne3
          unfold Led12 at N9' off3
          have hj2 : j < ps9.length := by have h5 := rints.length; rw [List.length_map] at h5; rw [← h5]; simpa using hj
          obtain ⟨t3, rfl⟩ : ∃ t, v = .int (symOf b ps9[j]) t := by
            obtain ⟨t, ht⟩ := rints.get j (symOf b ps9[j]) (by simp [hj2])
            have h6 : rvs[j]? = some v := by simpa using hv3
            rw [ht] at h6
            exact ⟨t, (Option.some.inj h6).symm⟩
          obtain ⟨t4, hval⟩ := cval ps9[j] (rlt _ (List.getElem_mem _))
          k_steps
          refine CompEnd.intro (by assumption) (by assumption) ((I, io) :: (D, W.listOf ysX.toArray nX) :: Led12 L9 src tu cnt sy cd cb c2 c3 c4 osX od svs ns tlX) (fun p hp => hp) off3 (.inr ⟨_, .tail _ (.tail _ (.tail _ (.tail _ (.tail _ (.tail _ (.tail _ (.tail _ (.tail _ (.tail _ rmem))))))))), rfl, _, rfl⟩) ⟨rfl, by simp [hzl3], ?stq⟩
          case stq =>
            have e : ps9.take (j + 1) = ps9.take j ++ [ps9[j]] := by simp
            rw [e, List.map_append]
            exact StrsAre.append' hzs3 (.cons _ _ .nil)
        · rintro zs _ ⟨rfl, hzl3, hzs3⟩ D3 h9 tk9' F9' N9' o9
          unfold Led12 at N9' o9
          k_steps
          have hstr : StrsAre zs (ps9.map (codeS r)) := by
            have h5 := rints.length
            rw [List.length_map] at h5
            have e : ps9.take rvs.toArray.size = ps9 := List.take_of_length_le (by simp; omega)
            rw [e] at hzs3
            exact hzs3
          have hflat : ((ps9.map (codeB r)).flatten).length < 1000 := by have h5 := flat_len hok (by omega) rlt; omega
          have hbits : ∀ b ∈ (ps9.map (codeB r)).flatten, b < 2 := by
            intro b hb
            obtain ⟨l, hl, hb⟩ := List.mem_flatten.mp hb
            obtain ⟨p, _, rfl⟩ := List.mem_map.mp hl
            exact codeB_lt r p b hb
          refine join_list (ys := ps9.map (codeS r)) ⟨_, (N9' _ (.head _)).1, rfl, _, rfl⟩ hstr ?hok9 ?_
          case hok9 => exact join_ok hok (by omega) rlt rlen
          intro tj kj
          rw [join_codes]
          k_steps
          rename_i wl9 nb9 b9 t9 h10 tk10 ew9 ln9 bt9 bi9 F10 N10 qk9 ek9 x9 d9 ti9 ta9 tb9 h11 tk11 F11 N11 n9 l9
          have m4 := n9 _ (.tail _ (.tail _ (.tail _ (.head _))))
          have v1 : x9 ≠ L9 + 1 + 1 + 1 + 1 := Nat.ne_of_gt (Nat.lt_trans m4 l9)
          have v2 : d9 ≠ L9 + 1 + 1 + 1 + 1 := Nat.ne_of_gt m4
          have v3 : D3 ≠ L9 + 1 + 1 + 1 + 1 := Ne.symm o9.2.2.1
          have v4 : I ≠ L9 + 1 + 1 + 1 + 1 := Ne.symm (hI _ (.tail _ (.head _)))
          have v5 : D ≠ L9 + 1 + 1 + 1 + 1 := Ne.symm w1
          have v6 : L9 + 1 + 1 + 1 ≠ L9 + 1 + 1 + 1 + 1 := Nat.ne_of_lt (Nat.lt_succ_self _)
          have v7 : L9 + 1 + 1 ≠ L9 + 1 + 1 + 1 + 1 := Nat.ne_of_lt (Nat.lt_add_of_pos_right (n := L9 + 1 + 1) (k := 2) (by decide))
          have v8 : L9 + 1 ≠ L9 + 1 + 1 + 1 + 1 := Nat.ne_of_lt (Nat.lt_add_of_pos_right (n := L9 + 1) (k := 3) (by decide))
          have v9 : src ≠ L9 + 1 + 1 + 1 + 1 := Nat.ne_of_lt (Nat.lt_add_right 4 lL.1)
          have v10 : tu ≠ L9 + 1 + 1 + 1 + 1 := Nat.ne_of_lt (Nat.lt_add_right 4 lL.2.1)
          have v11 : sy ≠ L9 + 1 + 1 + 1 + 1 := Nat.ne_of_lt (Nat.lt_add_right 4 lL.2.2.1)
          have v12 : cd ≠ L9 + 1 + 1 + 1 + 1 := Nat.ne_of_lt (Nat.lt_add_right 4 lL.2.2.2.1)
          have v13 := offX.2.2
          k_steps
          rename_i h12 cb2 F12 N12 dcb2
          refine Halt.go ?_
          refine LCg.ListComp_U F12 (by rfl) (by decide) (by rfl) (by decide) (by rfl) ?_
          k_steps
          refine Halt.go ?_
          refine CompSrc.ledger (k := rn) rfl F12 N12 (.tail _ (.tail _ (.tail _ (.tail _ (.tail _ (.tail _ (.tail _ (.tail _ (.tail _ (.tail _ (.tail _ (.tail _ (.tail _ rmem))))))))))))) ?sz4 fun gg4 => rest_inv (n := rvs.toArray.size) (fun j zz nw => ∃ ti, nw = (x9, instObj 213 d9) :: (d9, bitDict w b9 t9 ((((ps9.take j).map (codeB r)).flatten.length : Nat) : Int) ti ta9 tb9) :: (D3, lst zs) :: (I, io) :: (D, W.listOf ysX.toArray nX) :: Led12 L9 src tu cnt sy cd cb2 c2 c3 c4 osX od svs ns tlX ∧ zz.length = j ∧ IntsAre zz ((ps9.take j).map (symOf b))) ?_ ?_ _ 0 [] _ (by omega) ⟨ti9, rfl, rfl, ?nil4⟩
          case sz4 => rw [sizeLine_eq]; have h5 := rints.length; rw [List.length_map] at h5; simp; omega
          case nil4 => exact .nil
          · rintro j zz _ v I4 oI4 C4 oC4 D4 m₄ h13 tk13 E' hj ⟨ti, rfl, hzl4, hzs4⟩ hv4 hC4 hx4 F13 N13 off4 ne4
            unfold Led12 at N13 off4
            have tX : (xT, instObj 122 dxT) ∈ tlX := offX.1 _ (hfz _ mT1)
            have tX2 : (dxT, tabDict w tuT syT rlT cdT qT1 qT2 qT3 qT4) ∈ tlX := offX.1 _ (hfz _ mT2)
            have hj2 : j < ps9.length := by have h5 := rints.length; rw [List.length_map] at h5; rw [← h5]; simpa using hj
            obtain ⟨n, hn16, hhit, hmiss, hix, hlen, hoff⟩ := row_read hok (by omega) (List.getElem?_eq_getElem hj2) (rlt _ (List.getElem_mem hj2)) ew9 ln9 bt9
            have hpj := rlt _ (List.getElem_mem hj2)
            have hnd := ne_swap (o' := cb2) (l1 := [(D3, lst zs), (I, io), (D, W.listOf ysX.toArray nX)]) n9
            have hxd : x9 ≠ d9 := Nat.ne_of_gt l9
            have hln : (octs wl9 nb9).length < 1000 := by
              rw [octs_len]
              have h5 := hflat
              rw [ew9, List.length_append, List.length_replicate] at ln9
              have h6 : ((-(((ps9.map (codeB r)).flatten.length : Nat) : Int)).fmod 8).toNat < 8 := by have h1 := pad_lo (ps9.map (codeB r)).flatten.length; have h2 : (-(((ps9.map (codeB r)).flatten.length : Nat) : Int)).fmod 8 < 8 := fmod_hi _ (by decide); omega
              omega
            have od4 := Off3.mem off4 (d9, bitDict w b9 t9 ((((ps9.take j).map (codeB r)).flatten.length : Nat) : Int) ti ta9 tb9) (.tail _ (.head _))
            k_steps
            refine Halt.go ?_
            k_here
            k_dflt (refine' read_c (fz := fz) (n9 := n) (ks := octs wl9 nb9) (cs9 := cntsR r) (ss := symsOf b r.sum) ?k1 ?k2 ?k3 ?k4 ?k5 ?kK ?kin ?kU hxd ?kT ?kf ?kfd bi9 hln hn16 hhit hmiss ?kx0 ?kx1 ?kss hlen ?kd ?ku ?_; (case k1 => k_asm); (case k2 => k_asm); (case k3 => k_asm); (case k4 => k_asm); (case k5 => k_asm); (case kK => first | exact rfl | assumption); (case kin => exact .tail _ (.tail _ (.tail _ (.head _)))); (case kU => exact .tail (Ne.symm od4.1) (.tail (Ne.symm od4.2.1) (.tail (Ne.symm od4.2.2) (.tail hxd (.head hnd))))); (case kT => assumption); (case kd => ktr_room); (case ku => ktr_units))
            case kf => exact fun p hp => (.tail _ (.tail _ (.tail _ (.tail _ (.tail _ (.tail _ (.tail _ (.tail _ (.tail _ (.tail _ (.tail _ (.tail _ (.tail _ (.tail _ (.tail _ (.tail _ (offX.1 _ (hfz _ hp))))))))))))))))))
            case kfd => exact fun p hp => hnd p (.tail _ (.tail _ (.tail _ (.tail _ (.tail _ (.tail _ (.tail _ (.tail _ (.tail _ (.tail _ (.tail _ (offX.1 _ (hfz _ hp)))))))))))))
            case kx0 => rw [hix]; omega
            case kx1 => rw [hix, syms_len]; omega
            case kss => rw [syms_len]; omega
            intro t14 ti14 h14 tk14 F14 N14
            rw [← hoff] at N14
            rw [hix, Int.toNat_natCast, syms_get hpj]
            refine CompEnd.intro F14 N14 ((x9, instObj 213 d9) :: (d9, bitDict w b9 t9 ((((ps9.take (j + 1)).map (codeB r)).flatten.length : Nat) : Int) ti14 ta9 tb9) :: (D3, lst zs) :: (I, io) :: (D, W.listOf ysX.toArray nX) :: Led12 L9 src tu cnt sy cd cb2 c2 c3 c4 osX od svs ns tlX) (fun p hp => hp) off4 (.inr ⟨_, .tail _ (.tail _ (.tail _ (.tail _ (.tail _ (.tail _ (.tail _ (.tail _ (.tail _ (.tail _ (.tail _ (.tail _ (.tail _ rmem)))))))))))), rfl, _, rfl⟩) ⟨ti14, rfl, by simp [hzl4], ?stq4⟩
            case stq4 =>
              have e : ps9.take (j + 1) = ps9.take j ++ [ps9[j]] := by simp
              rw [e, List.map_append]
              exact hzs4.append (.cons _ _ .nil)
          · rintro zz _ ⟨ti, rfl, hzl4, hzs4⟩ D4 h13 tk13 F13 N13 o13
            unfold Led12 at N13 o13
            have e9 : ps9.take rvs.toArray.size = ps9 := List.take_of_length_le (by have h5 := rints.length; rw [List.length_map] at h5; simp; omega)
            rw [e9] at hzs4
            k_steps
            refine Halt.go ?_
            refine ne_intsK ⟨_, (N13 _ (.head _)).1, rfl, _, rfl⟩ hzs4 (News.isList N13 (.tail _ (.tail _ (.tail _ (.tail _ (.tail _ (.tail _ (.tail _ (.tail _ (.tail _ (.tail _ (.tail _ (.tail _ (.tail _ (.tail _ rmem))))))))))))))) rints ?ku5 ?_
            case ku5 => ktr_units
            rw [decide_eq_true rfl]
            k_steps
            rename Fr g9 L9 _ _ => FZ
            rename News g9 L9 _ _ => NZ
            refine' TurnPost.next FZ (nx := (D, W.listOf ysX.toArray nX) :: Led12 L9 src tu cnt sy cd cb2 c2 c3 c4 osX od svs ns tlX) (cb_drop NZ ?subz) (ne_swapI (o' := cb2) (l1 := [(D, W.listOf ysX.toArray nX)]) hI) ⟨cb2, rfl, ⟨_, dcb2⟩, List.forall_mem_nil _, fun z hz => ?frz⟩
            case subz =>
              dsimp only [Led12]
              k_extra "my subB"
            case frz =>
              dsimp only
              (repeat' (with_reducible (refine off_if (ne_of_stored hz ?_) ?_)))
              all_goals first | rfl | exact mkFr_off hz rfl rfl rfl
      · clear FX NX
        intro cb u h6 tk6 hcv F6 N6
        unfold Led12 at N6
        k_steps
        rename_i kF kN kT kX
        refine hret osX _ _ hsX kF fun p hp => kN p ?_
        simp only [List.mem_cons] at hp ⊢
        rcases hp with h | h | h | h | h
        · simp only [h, true_or, or_true]
        · simp only [h, true_or, or_true]
        · simp only [h, true_or, or_true]
        · simp only [h, true_or, or_true]
        · have := offX.1 p h
          simp only [this, or_true]
end reads
end
end Mine
-- L4
namespace Mine
section

/-- a spoilt head: counts and symbols, no codes -/
noncomputable def HeadBad (cnts syms : List Int) (v : Value) (fz : List (Addr × Obj)) : Prop :=
  ∃ (tu cnt sy : Addr) (cvs svs : List Value) (ns : Nat), v = .ref tu ∧ fz = [(tu, tupO [.ref cnt, .ref sy, .none]), (cnt, tupO cvs), (sy, W.listOf svs.toArray ns)] ∧ IntsAre cvs cnts ∧ IntsAre svs syms
end
end Mine
local macro_rules | `(tactic| walk_at "my t27") => `(tactic| (intro u9; (try simp only [List.getD_cons_zero, Int.toNat_zero])))
namespace Mine
section

section spoilt
theorem spoilt_core {w : World} {mean : ExcName → Option Value} {mg mb : Str → Option Value} {news : List (Addr × Obj)} {tu cnt sy : Addr} {cv : Value} {cvs svs : List Value} {c0 : Int} {cs0 syms : List Int} {ns : Nat}
   {dp un : Nat} {gd : Option (List Code)} {cn : Str} {cs : Scope} {a : Addr} {ccd : Value} {cl : List (Str × Addr)} {outer : List Env} {A₀ : Around} {base h₀ : Heap} {L : Addr} {m : Str → Option Value} {s : Shared} {Q E : Value → Shared → Prop}
    (B : Below A₀ base outer h₀) (F : Fr h₀ L s.heap m) (X : (Mine.hd.heap_39 w.params).In h₀) (N : News h₀ L s.heap ((tu, tupO [.ref cnt, .ref sy, cv]) :: (cnt, tupO cvs) :: (sy, W.listOf svs.toArray ns) :: news)) (T : Top Mine.hd.view_39 (looseW Mine.hd.view_39 []) mean mg mb h₀)
    (hk : cs.kind = .function) (hc : IntsAre cvs (c0 :: cs0)) (hs : IntsAre svs syms) (hl1 : (c0 :: cs0).length = 16) (hl2 : syms.length ≤ 40) (hc0 : 0 ≤ c0) (hc1 : c0 ≤ syms.length)
    (hdp : dp + 4 < recursionLimit) (hun : un + 30 < cLine)
    (hret : ∀ (v : Value) (fz : List (Addr × Obj)) (h' : Heap) (tk' : Nat), HeadBad (3 :: cs0) ([251, 252, 253] ++ syms.drop c0.toNat) v fz → Above ((tu, tupO [.ref cnt, .ref sy, cv]) :: (cnt, tupO cvs) :: (sy, W.listOf svs.toArray ns) :: news) fz → Fr h₀ L h' m →
      News h₀ L h' (fz ++ (tu, tupO [.ref cnt, .ref sy, cv]) :: (cnt, tupO cvs) :: (sy, W.listOf svs.toArray ns) :: news) → Q v { s with heap := h', toks := tk' }) :
      wpAny (model Challenge.rw_ok0140_01.row.prog w) (ktrTop dp un gd cn cs L a ccd cl outer) (call (.ref 287) [.ref tu]) Q E s := by
  k_with_none
  k_with "my lt" => first | assumption | exact And.left (by assumption) | exact And.left (And.right (by assumption)) | exact And.right (by assumption) | exact And.left (And.right (And.right (by assumption))) | exact And.right (And.right (by assumption)) | exact And.left (And.right (And.right (And.right (by assumption)))) | exact And.right (And.right (And.right (by assumption))) | exact And.left (And.right (And.right (And.right (And.right (by assumption))))) | exact And.right (And.right (And.right (And.right (by assumption)))) | exact And.left (And.right (And.right (And.right (And.right (And.right (by assumption)))))) | exact And.right (And.right (And.right (And.right (And.right (by assumption))))) | exact And.left (And.right (And.right (And.right (And.right (And.right (And.right (by assumption))))))) | exact And.right (And.right (And.right (And.right (And.right (And.right (by assumption)))))) | exact And.left (And.right (And.right (And.right (And.right (And.right (And.right (And.right (by assumption)))))))) | exact And.right (And.right (And.right (And.right (And.right (And.right (And.right (by assumption))))))) | exact And.left (And.right (And.right (And.right (And.right (And.right (And.right (And.right (And.right (by assumption))))))))) | exact And.right (And.right (And.right (And.right (And.right (And.right (And.right (And.right (by assumption)))))))) | fail
  k_with "my kne" => first | assumption | (refine Ne.symm ?_; assumption) | (refine neN ?_; (try dsimp only); first | (refine Nat.ne_of_lt ?_; k_extra "my lt") | (refine Nat.ne_of_gt ?_; k_extra "my lt") | omega) | fail
  k_with "my room" => first | exact upR 0 (by assumption) rfl | exact upR 1 (by assumption) rfl | exact upR 2 (by assumption) rfl | exact upR 3 (by assumption) rfl | exact upR 4 (by assumption) rfl | exact upR 5 (by assumption) rfl | exact upR 6 (by assumption) rfl | exact upR 7 (by assumption) rfl | exact upR 8 (by assumption) rfl | fail
  k_with "my units" => first | exact upR 0 (by assumption) rfl | exact upR 1 (by assumption) rfl | exact upR 2 (by assumption) rfl | exact upR 3 (by assumption) rfl | exact upR 4 (by assumption) rfl | exact upR 5 (by assumption) rfl | exact upR 6 (by assumption) rfl | exact upR 7 (by assumption) rfl | exact upR 8 (by assumption) rfl | exact upR 9 (by assumption) rfl | exact upR 10 (by assumption) rfl | exact upR 11 (by assumption) rfl | exact upR 12 (by assumption) rfl | fail
  k_with "my sub" => first | exact List.forall_mem_nil _ | assumption | exact List.forall_mem_cons.mpr ⟨(by k_mem), (by k_extra "my sub")⟩ | (intro p9 hp9; repeat (first | exact hp9 | refine List.Mem.tail _ ?_))
  k_with "my ne" => first | exact List.forall_mem_nil _ | assumption | exact List.forall_mem_cons.mpr ⟨(by first | assumption | k_ne), (by k_extra "my ne")⟩
  k_with "my subA" => (intro p9 hp9; repeat' (first | exact hp9 | exact List.mem_append_left _ hp9 | exact List.mem_append_right _ hp9 | refine List.Mem.tail _ ?_))
  k_with "my memB" => first | assumption | exact List.Mem.head _ | (refine List.Mem.tail _ ?_; k_extra "my memB") | (refine List.mem_append_left _ ?_; k_extra "my memB") | (refine List.mem_append_right _ ?_; k_extra "my memB")
  k_with "my leafB" => first | assumption | (refine List.Mem.tail _ ?_; k_extra "my leafB") | (refine List.mem_append_left _ ?_; k_extra "my leafB") | (refine List.mem_append_right _ ?_; k_extra "my leafB")
  k_with "my subB" => first | exact List.forall_mem_nil _ | exact List.forall_mem_cons.mpr ⟨(by k_extra "my memB"), (by k_extra "my subB")⟩ | exact List.forall_mem_append.mpr ⟨(by k_extra "my subB"), (by k_extra "my subB")⟩ | (intro p9 hp9; k_extra "my leafB")
  k_with "newTuple" => (k_here; k_dflt (refine' kup_newTuple (by k_asm) (by k_asm) ?_ (by kmk_size)); walk_at "my t8")
  k_with "call type:tuple" => (k_here; k_dflt (refine' kde_tupleOf (by k_asm) (by k_asm) (by exact News.isList (by k_asm) (by k_mem)) (by (simp only [List.size_toArray, List.length_set]; omega)) (by exact rfl) ?_; k_whole); walk_at "my t8")
  k_with "last subscriptTail" => (k_here; (with_reducible show wpAny _ _ (subscriptTail _ _ (Value.ref _) (Value.int _ _)) _ _ _); (with_unfolding_all refine' tup_ints (by exact News.isTup (by k_asm) (by k_mem)) (by l_ints) (by first | decide | omega | l_idx) (by first | omega | l_idx) (by first | omega | l_idx) ?_); walk_at "my t27")
  k_with "my omega" => ((fail_if_success (fail_if_success omega (config := {}))); lia)
  have hcl : cvs.length = 16 := by have := hc.length; omega
  cases hc with | cons _ t0 hc' =>
  rename_i cvs'
  have hc : IntsAre (Value.int c0 t0 :: cvs') (c0 :: cs0) := .cons _ _ hc'
  refine wpAny_call ?_
  k_dflt cell_enter
  k_steps
  rename_i g1 L1 h1 FG B1 X1 T1 D1 c1 h2 l1 h3 h4 hi1 hl3 hs1 D2 h6 l2 D3 h7 l3 u9 D4 ws1 h8 hI1 hC1 hL1 l4 D5 ws2 h9 hI2 l5 D6 h10 F6 N6 l6 kF kN kT kX

  exact hret (.ref D6) [(D6, tupO [.ref D2, .ref D5, .none]), (D2, tupO _), (D5, W.listOf ws2.toArray 0)] _ _ ⟨D6, D2, D5, _, ws2, 0, rfl, rfl, hi1, hI2⟩ (.cons ⟨by omega, by omega, by omega, l6.2.2.2.2.2.2.2.2⟩ (.cons ⟨by omega, by omega, by omega, l2.2.2.2.2⟩ (.cons ⟨by omega, by omega, by omega, l5.2.2.2.2.2.2.2⟩ .nil))) kF (cb_drop kN (by k_extra "my sub"))
end spoilt
end
end Mine
-- L5
namespace Mine
section

section pool
theorem pool_core {w : World} {mean : ExcName → Option Value} {mg mb : Str → Option Value} {news : List (Addr × Obj)} {l : Addr} {vs : List Value} {xs : List Int} {t0 : Tok}
   {dp un : Nat} {gd : Option (List Code)} {cn : Str} {cs : Scope} {a : Addr} {ccd : Value} {cl : List (Str × Addr)} {outer : List Env} {A₀ : Around} {base h₀ : Heap} {L : Addr} {m : Str → Option Value} {s : Shared} {Q E : Value → Shared → Prop}
    (B : Below A₀ base outer h₀) (F : Fr h₀ L s.heap m) (X : (Mine.hd.heap_39 w.params).In h₀) (N : News h₀ L s.heap news) (T : Top Mine.hd.view_39 (looseW Mine.hd.view_39 []) mean mg mb h₀)
    (hk : cs.kind = .function) (hl : base.IsList l vs.toArray) (hi : IntsAre vs xs) (hfit : xs.length < 2 ^ 62)
    (hdp : dp + 4 < recursionLimit) (hun : un + 30 < cLine)
    (hret : ∀ (D : Addr) (o : Obj) (h' : Heap) (tk' : Nat), IsSrc o → AllLt D news → Fr h₀ L h' m → News h₀ L h' ((D, o) :: news) → Q (.ref D) { s with heap := h', toks := tk' }) :
      wpAny (model Challenge.rw_ok0140_01.row.prog w) (ktrTop dp un gd cn cs L a ccd cl outer) (call (.ref 259) [.ref l, .int 0 t0]) Q E s := by
  k_with_none
  k_with "my lt" => first | assumption | exact And.left (by assumption) | exact And.left (And.right (by assumption)) | exact And.right (by assumption) | exact And.left (And.right (And.right (by assumption))) | exact And.right (And.right (by assumption)) | exact And.left (And.right (And.right (And.right (by assumption)))) | exact And.right (And.right (And.right (by assumption))) | exact And.left (And.right (And.right (And.right (And.right (by assumption))))) | exact And.right (And.right (And.right (And.right (by assumption)))) | exact And.left (And.right (And.right (And.right (And.right (And.right (by assumption)))))) | exact And.right (And.right (And.right (And.right (And.right (by assumption))))) | exact And.left (And.right (And.right (And.right (And.right (And.right (And.right (by assumption))))))) | exact And.right (And.right (And.right (And.right (And.right (And.right (by assumption)))))) | exact And.left (And.right (And.right (And.right (And.right (And.right (And.right (And.right (by assumption)))))))) | exact And.right (And.right (And.right (And.right (And.right (And.right (And.right (by assumption))))))) | exact And.left (And.right (And.right (And.right (And.right (And.right (And.right (And.right (And.right (by assumption))))))))) | exact And.right (And.right (And.right (And.right (And.right (And.right (And.right (And.right (by assumption)))))))) | fail
  k_with "my kne" => first | assumption | (refine Ne.symm ?_; assumption) | (refine neN ?_; (try dsimp only); first | (refine Nat.ne_of_lt ?_; k_extra "my lt") | (refine Nat.ne_of_gt ?_; k_extra "my lt") | omega) | fail
  k_with "my room" => first | exact upR 0 (by assumption) rfl | exact upR 1 (by assumption) rfl | exact upR 2 (by assumption) rfl | exact upR 3 (by assumption) rfl | exact upR 4 (by assumption) rfl | exact upR 5 (by assumption) rfl | exact upR 6 (by assumption) rfl | exact upR 7 (by assumption) rfl | exact upR 8 (by assumption) rfl | fail
  k_with "my units" => first | exact upR 0 (by assumption) rfl | exact upR 1 (by assumption) rfl | exact upR 2 (by assumption) rfl | exact upR 3 (by assumption) rfl | exact upR 4 (by assumption) rfl | exact upR 5 (by assumption) rfl | exact upR 6 (by assumption) rfl | exact upR 7 (by assumption) rfl | exact upR 8 (by assumption) rfl | exact upR 9 (by assumption) rfl | exact upR 10 (by assumption) rfl | exact upR 11 (by assumption) rfl | exact upR 12 (by assumption) rfl | fail
  k_with "my sub" => first | exact List.forall_mem_nil _ | assumption | exact List.forall_mem_cons.mpr ⟨(by k_mem), (by k_extra "my sub")⟩ | (intro p9 hp9; repeat (first | exact hp9 | refine List.Mem.tail _ ?_))
  k_with "my ne" => first | exact List.forall_mem_nil _ | assumption | exact List.forall_mem_cons.mpr ⟨(by first | assumption | k_ne), (by k_extra "my ne")⟩
  k_with "my subA" => (intro p9 hp9; repeat' (first | exact hp9 | exact List.mem_append_left _ hp9 | exact List.mem_append_right _ hp9 | refine List.Mem.tail _ ?_))
  k_with "my memB" => first | assumption | exact List.Mem.head _ | (refine List.Mem.tail _ ?_; k_extra "my memB") | (refine List.mem_append_left _ ?_; k_extra "my memB") | (refine List.mem_append_right _ ?_; k_extra "my memB")
  k_with "my leafB" => first | assumption | (refine List.Mem.tail _ ?_; k_extra "my leafB") | (refine List.mem_append_left _ ?_; k_extra "my leafB") | (refine List.mem_append_right _ ?_; k_extra "my leafB")
  k_with "my subB" => first | exact List.forall_mem_nil _ | exact List.forall_mem_cons.mpr ⟨(by k_extra "my memB"), (by k_extra "my subB")⟩ | exact List.forall_mem_append.mpr ⟨(by k_extra "my subB"), (by k_extra "my subB")⟩ | (intro p9 hp9; k_extra "my leafB")
  refine wpAny_call ?_
  k_dflt cell_enter
  k_steps
  all_goals
    refine hret _ _ _ _ ⟨_, _, _, _, _, rfl, ?_, mod_bound _⟩ (allLt_of (by assumption)) (by assumption) (by assumption)
    first | exact Int.mul_nonneg (by split <;> omega) (by split <;> omega)
end pool
end
end Mine
-- LS
namespace Mine
section

theorem lia_LS : True := by
  k_with_none
  k_with "my omega" => ((fail_if_success (fail_if_success omega (config := {}))); lia)
  trivial
/-- the sort's questions answered by a plain order -/
noncomputable def kRun {α : Type} (lt : Nat → Nat → Bool) : KasT α → α
  | .ret a => a
  | .ask i j k => kRun lt (k (lt i j))
noncomputable def kAll {α : Type} (n : Nat) (R : α → Prop) : KasT α → Prop
  | .ret a => R a
  | .ask i j k => i < n ∧ j < n ∧ ∀ b, kAll n R (k b)
theorem kAll_run {α : Type} {n : Nat} {R : α → Prop} {lt : Nat → Nat → Bool} : ∀ {t : KasT α}, kAll n R t → R (kRun lt t)
  | .ret _, h => h
  | .ask _ _ k, h => kAll_run (t := k _) (h.2.2 _)
theorem kAll_wp {α : Type} {n : Nat} {R : α → Prop} {lt : Nat → Nat → Bool} {cmp : Nat → Nat → (Bool → Shared → Prop) → Shared → Prop} {Q : α → Shared → Prop} {s : Shared}
    (hc : ∀ i j (C : Bool → Shared → Prop), i < n → j < n → C (lt i j) s → cmp i j C s) : ∀ {t : KasT α}, kAll n R t → Q (kRun lt t) s → t.kasWp cmp Q s
  | .ret _, _, q => q
  | .ask i j k, h, q => hc i j _ h.1 h.2.1 (kAll_wp hc (t := k _) (h.2.2 _) q)
theorem kAll_bind {α β : Type} {n : Nat} {R : α → Prop} {S : β → Prop} {f : α → KasT β} (hf : ∀ a, R a → kAll n S (f a)) : ∀ {t : KasT α}, kAll n R t → kAll n S (t.bind f)
  | .ret a, h => hf a h
  | .ask _ _ k, h => ⟨h.1, h.2.1, fun b => kAll_bind hf (t := k b) (h.2.2 b)⟩
theorem kAll_mono {α : Type} {n : Nat} {R S : α → Prop} (hf : ∀ a, R a → S a) : ∀ {t : KasT α}, kAll n R t → kAll n S t
  | .ret a, h => hf a h
  | .ask _ _ k, h => ⟨h.1, h.2.1, fun b => kAll_mono hf (t := k b) (h.2.2 b)⟩
/-- a new order of the places below n -/
noncomputable def PermN (n : Nat) (p : Array Nat) : Prop := p.toList.Perm (List.range n)
theorem PermN.lt {n : Nat} {p : Array Nat} (h : PermN n p) (hn : 0 < n) (i : Nat) : p.getD i 0 < n := by
  unfold Array.getD
  split
  · rename_i hi
    have : p[i] ∈ p.toList := Array.mem_toList_iff.mpr (Array.getElem_mem hi)
    exact List.mem_range.mp (h.mem_iff.mp this)
  · exact hn
theorem PermN.rev {n : Nat} {p : Array Nat} (h : PermN n p) (i j : Nat) : PermN n (kas_rev p i j) := (Array.perm_iff_toList_perm.mp (mirror_perm p i j _)).trans h
theorem PermN.bubble {n : Nat} {p : Array Nat} (h : PermN n p) (i j : Nat) : PermN n (bubble p i j) := (Array.perm_iff_toList_perm.mp (bubble_perm p i j)).trans h
theorem all_asc {n : Nat} {p : Array Nat} (h : PermN n p) (hn : 0 < n) : ∀ (f k : Nat), kAll n (fun _ => True) (kas_asc p f k)
  | 0, _ => trivial
  | f + 1, k => ⟨h.lt hn _, h.lt hn _, fun b => by
    cases b with
    | true => exact trivial
    | false => exact all_asc h hn f (k + 1)⟩
theorem all_desc {n : Nat} (hn : 0 < n) : ∀ (f : Nat) (p : Array Nat) (k q : Nat), PermN n p → kAll n (fun r => PermN n r.1) (kas_desc f p k q)
  | 0, p, _, _, h => h
  | f + 1, p, k, q, h => by
    refine ⟨h.lt hn _, h.lt hn _, fun b => ?_⟩
    cases b with
    | true =>
      show kAll n _ (if q > 0 then _ else _)
      split
      · exact all_desc hn f _ _ _ (h.rev _ _)
      · exact all_desc hn f _ _ _ h
    | false =>
      refine ⟨h.lt hn _, h.lt hn _, fun d => ?_⟩
      cases d with
      | true => exact h
      | false => exact all_desc hn f _ _ _ h
theorem all_tail3 {n : Nat} (hn : 0 < n) {p : Array Nat} (h : PermN n p) (k m : Nat) : kAll n (fun r => PermN n r.2) (kas_tail3 k m p) := by
  unfold kas_tail3
  refine kAll_bind (R := fun _ => True) (fun _ _ => ?_) (all_asc (h.rev _ _) hn _ _)
  exact h.rev _ _
theorem all_descPart {n : Nat} (hn : 0 < n) {p : Array Nat} (h : PermN n p) (k m : Nat) : kAll n (fun r => PermN n r.2) (kas_descPart k m p) := by
  unfold kas_descPart
  refine kAll_bind (R := fun r => PermN n r.1) (fun r hr => ?_) (all_desc hn _ _ _ _ h)
  split
  · exact all_tail3 hn (hr.rev _ _) _ _
  · exact all_tail3 hn hr _ _
theorem all_count {n : Nat} (hn : 0 < n) {p : Array Nat} (h : PermN n p) (m : Nat) : kAll n (fun r => PermN n r.2) (kas_count m p) := by
  unfold kas_count
  refine kAll_bind (R := fun _ => True) (fun k _ => ?_) (all_asc h hn _ _)
  split
  · exact h
  split
  · refine ⟨h.lt hn _, h.lt hn _, fun b => ?_⟩
    cases b with
    | true => exact h
    | false => exact all_descPart hn (h.rev _ _) _ _
  · exact all_descPart hn h _ _
theorem all_place {n : Nat} {p : Array Nat} (h : PermN n p) (hn : 0 < n) (k : Nat) : ∀ (f l r : Nat), kAll n (fun _ => True) (kas_place p k f l r)
  | 0, _, _ => trivial
  | f + 1, l, r => by
    unfold kas_place
    split
    · exact trivial
    · refine ⟨h.lt hn _, h.lt hn _, fun b => ?_⟩
      cases b with
      | true => exact all_place h hn k f _ _
      | false => exact all_place h hn k f _ _
theorem all_bin {n : Nat} (hn : 0 < n) : ∀ (f : Nat) (p : Array Nat) (k : Nat), PermN n p → kAll n (PermN n) (kas_bin f p k)
  | 0, _, _, h => h
  | f + 1, _, k, h => kAll_bind (R := fun _ => True) (fun _ _ => all_bin hn f _ (k + 1) (h.bubble _ _)) (all_place h hn k _ _ _)
theorem all_sort {n : Nat} (hn : 0 < n) : kAll n (PermN n) (kas_sort n) := by
  unfold kas_sort
  have h0 : PermN n (List.toArray (List.range n)) := by unfold PermN; simp
  refine kAll_bind (R := fun r => PermN n r.2) (fun r hr => ?_) (all_count hn h0 _)
  split
  · exact all_bin hn _ _ _ hr
  · exact hr
/-- two keys: tuples of ints, in their order -/
noncomputable def ltL : List Int → List Int → Bool
  | [], [] => false
  | [], _ :: _ => true
  | _ :: _, [] => false
  | a :: x, b :: y => if a = b then ltL x y else decide (a < b)
/-- the sort of a list of such keys -/
noncomputable def permK (K : List (List Int)) : List Nat := if K.length < 2 then List.range K.length else (kRun (fun i j => ltL (K.getD i []) (K.getD j [])) (kas_sort K.length)).toList
noncomputable def sortK (K : List (List Int)) : List (List Int) := (permK K).map fun i => K.getD i []
theorem permK_perm (K : List (List Int)) : (permK K).Perm (List.range K.length) := by
  unfold permK
  split
  · exact List.Perm.refl _
  · exact kAll_run (all_sort (by omega))
theorem sortK_perm (K : List (List Int)) : (sortK K).Perm K := by
  have h := (permK_perm K).map fun i => K.getD i []
  refine h.trans ?_
  have e : (List.range K.length).map (fun i => K.getD i []) = K := by
    refine List.ext_getElem (by simp) fun i h1 h2 => ?_
    simp [h2]
  rw [e]
end
end Mine
-- LT
namespace Mine
section

theorem lia_LT : True := by
  k_with_none
  k_with "my omega" => ((fail_if_success (fail_if_success omega (config := {}))); lia)
  trivial
/-- a key: a tuple of ints in the ledger -/
noncomputable def KeyAt (led : List (Addr × Obj)) (k : List Int) (v : Value) : Prop := ∃ (a : Addr) (vs : List Value), v = .ref a ∧ (a, tupO vs) ∈ led ∧ IntsAre vs k
inductive KeysAre (led : List (Addr × Obj)) : List Value → List (List Int) → Prop
  | nil : KeysAre led [] []
  | cons {k : List Int} {v : Value} {vs : List Value} {K : List (List Int)} : KeyAt led k v → KeysAre led vs K → KeysAre led (v :: vs) (k :: K)
theorem KeyAt.mono {led led' : List (Addr × Obj)} {k : List Int} {v : Value} (h : KeyAt led k v) (hs : ∀ p ∈ led, p ∈ led') : KeyAt led' k v :=
  let ⟨a, vs, e, hm, hi⟩ := h; ⟨a, vs, e, hs _ hm, hi⟩
theorem KeysAre.mono {led led' : List (Addr × Obj)} (hs : ∀ p ∈ led, p ∈ led') : ∀ {vs : List Value} {K : List (List Int)}, KeysAre led vs K → KeysAre led' vs K
  | _, _, .nil => .nil
  | _, _, .cons h r => .cons (h.mono hs) (r.mono hs)
theorem KeysAre.len {led : List (Addr × Obj)} : ∀ {vs : List Value} {K : List (List Int)}, KeysAre led vs K → vs.length = K.length
  | _, _, .nil => rfl
  | _, _, .cons _ r => by rw [List.length_cons, List.length_cons, r.len]
theorem KeysAre.snoc {led : List (Addr × Obj)} {k : List Int} {v : Value} (hk : KeyAt led k v) : ∀ {vs : List Value} {K : List (List Int)}, KeysAre led vs K → KeysAre led (vs ++ [v]) (K ++ [k])
  | _, _, .nil => .cons hk .nil
  | _, _, .cons h r => .cons h (r.snoc hk)
theorem KeysAre.get {led : List (Addr × Obj)} : ∀ {vs : List Value} {K : List (List Int)}, KeysAre led vs K → ∀ i, i < K.length → KeyAt led (K.getD i []) (vs.getD i Value.none)
  | _, _, .cons h _, 0, _ => h
  | _, _, .cons _ r, i + 1, hi => by simpa using r.get i (by simpa using hi)
theorem KeysAre.mem {led : List (Addr × Obj)} {v : Value} : ∀ {vs : List Value} {K : List (List Int)}, KeysAre led vs K → v ∈ vs → ∃ k ∈ K, KeyAt led k v
  | _, _, .cons h r, hv => by
    rcases List.mem_cons.mp hv with rfl | hv
    · exact ⟨_, .head _, h⟩
    · obtain ⟨k, hk, x⟩ := r.mem hv
      exact ⟨k, .tail _ hk, x⟩
theorem KeysAre.pick {led : List (Addr × Obj)} {vs : List Value} {K : List (List Int)} (h : KeysAre led vs K) : ∀ {p : List Nat}, (∀ i ∈ p, i < K.length) → KeysAre led (p.map fun i => vs.getD i Value.none) (p.map fun i => K.getD i [])
  | [], _ => .nil
  | i :: _, hp => .cons (h.get i (hp i (.head _))) (h.pick fun j hj => hp j (.tail _ hj))
theorem items_of {prog : Program} {w : World} : ∀ {vs : List Value} {k : List Int}, IntsAre vs k → ItemsAre (intKind prog w) k vs
  | _, _, .nil => .nil
  | _, _, .cons _ _ r => .cons (by simp [intKind, Value.isInt]) (items_of r)
section
variable {h₀ : Heap} {L : Addr} {led : List (Addr × Obj)} {h : Heap}
theorem KeyAt.isKey {prog : Program} {w : World} {k : List Int} {a : Addr} (N : News h₀ L h led) (x : KeyAt led k (.ref a)) : IsTupleKey (intKind prog w) h k a := by
  obtain ⟨b, vs, e, hm, hi⟩ := x
  cases e
  exact ⟨_, _, _, (N _ hm).1, rfl, rfl, by simpa using items_of hi⟩
theorem KeyAt.inj {k k' : List Int} {v : Value} (N : News h₀ L h led) (x : KeyAt led k v) (y : KeyAt led k' v) : k = k' := by
  obtain ⟨a, vs, rfl, hm, hi⟩ := x
  obtain ⟨b, us, e, hm', hi'⟩ := y
  cases e
  have h1 := (N _ hm).1
  have h2 := (N _ hm').1
  dsimp only at h1 h2
  rw [h1] at h2
  have e : vs = us := by
    have := Option.some.inj h2
    injection this with _ _ h3
    injection h3 with h4
    simpa using h4
  subst e
  rw [← hi.nums, ← hi'.nums]
end
section
variable {prog : Program} {w : World} {A : Around} {E : Value → Shared → Prop} {s : Shared} {h₀ : Heap} {L : Addr} {m : Str → Option Value} {led : List (Addr × Obj)} {vs us : List Value} {K K' : List (List Int)}
theorem key_eqAt {x y : List Int} {v u : Value} (N : News h₀ L s.heap led) (hu : A.units + 1 < cLine) (hx : KeyAt led x v) (hy : KeyAt led y u) : SeqAt.EqAt A.in1 s v u (decide (x = y)) := by
  intro prog w E Q hq
  obtain ⟨a, vs, rfl, _, _⟩ := id hx
  obtain ⟨b, us, rfl, _, _⟩ := id hy
  exact wpAny_eqBool_tuple (knd := intKind prog w) (by rw [units_in1]; exact hu) (hx.isKey N) (hy.isKey N) hq
/-- not in a list of keys -/
theorem notin_keys {l : Addr} {n : Nat} {k : List Int} {x : Value} {Q : Value → Shared → Prop} (N : News h₀ L s.heap led) (hl : (l, W.listOf vs.toArray n) ∈ led) (hk : KeysAre led vs K) (hx : KeyAt led k x) (hu : A.units + 1 < cLine) (h : Q (.bool (!decide (k ∈ K))) s) :
    wpAny (model prog w) A (compareOp .NotIn x (.ref l)) Q E s := by
  classical
  refine SeqAt.notIn_listAt (items := vs.toArray) (fun y => decide (KeyAt led k y)) ⟨_, (N _ hl).1, rfl, _, rfl⟩ (fun y hy => ?_) ?_
  · obtain ⟨k', hk', hy'⟩ := hk.mem (by simpa using hy)
    have := key_eqAt N hu hy' hx
    have e : decide (KeyAt led k y) = decide (k' = k) := by
      by_cases e : k' = k
      · subst e; rw [decide_eq_true hy', decide_eq_true rfl]
      · rw [decide_eq_false e, decide_eq_false fun q => e (hy'.inj N q)]
    rw [e]
    exact this
  · have e : vs.toArray.any (fun y => decide (KeyAt led k y)) = decide (k ∈ K) := by
      rw [List.any_toArray]
      clear h hl
      induction hk with
      | nil => simp
      | @cons k' v vs K h1 _ ih =>
        rw [List.any_cons, ih]
        by_cases e : k' = k
        · subst e; rw [decide_eq_true h1]; simp
        · rw [decide_eq_false fun q => e (h1.inj N q)]
          have e' : ¬ k = k' := fun q => e q.symm
          simp [e']
    rw [e]
    exact h
/-- two lists of the same keys -/
theorem ne_keys {l b : Addr} {n n' : Nat} {Q : Value → Shared → Prop} (N : News h₀ L s.heap led) (hl : (l, W.listOf vs.toArray n) ∈ led) (hk : KeysAre led vs K) (hb : (b, W.listOf us.toArray n') ∈ led) (hk' : KeysAre led us K) (hu : A.units + 1 < cLine) (h : Q (.bool false) s) :
    wpAny (model prog w) A (compareOp .NotEq (.ref l) (.ref b)) Q E s := by
  have hlen : vs.length = us.length := hk.len.trans hk'.len.symm
  have := SeqAt.RcNeAt.lists (A := A) (s := s) (e := fun _ => true) (items := vs.toArray) (items2 := us.toArray) ⟨_, (N _ hl).1, rfl, _, rfl⟩ ⟨_, (N _ hb).1, rfl, _, rfl⟩ (by simpa using hlen) (Nat.lt_of_succ_lt hu) (fun j h1 h2 => by
    have hj : j < K.length := by have := hk.len; simp at h1; omega
    have e := key_eqAt N hu (hk.get j hj) (hk'.get j hj)
    have h1' : j < vs.length := by simpa using h1
    have h2' : j < us.length := by simpa using h2
    rw [decide_eq_true rfl] at e
    simpa [List.getD_eq_getElem?_getD, h1', h2'] using e)
  have e : ((List.range vs.toArray.size).all fun _ => true) = true := List.all_eq_true.mpr fun _ _ => rfl
  rw [e] at this
  exact this prog w E Q h
/-- a list of no keys at all, or of some, against the empty list -/
theorem ne_nil {l b : Addr} {n n' : Nat} {Q : Value → Shared → Prop} (hl : s.heap.get? l = some (W.listOf vs.toArray n)) (hb : s.heap.get? b = some (W.listOf #[] n')) (hu : A.units < cLine) (h : Q (.bool (decide (vs ≠ []))) s) :
    wpAny (model prog w) A (compareOp .NotEq (.ref l) (.ref b)) Q E s := by
  by_cases e : vs = []
  · subst e
    have := SeqAt.RcNeAt.lists (A := A) (s := s) (e := fun _ => true) (items := #[]) (items2 := #[]) ⟨_, hl, rfl, _, rfl⟩ ⟨_, hb, rfl, _, rfl⟩ rfl hu (fun j h1 _ => absurd h1 (Nat.not_lt_zero _))
    exact this prog w E Q (by simpa using h)
  · have := SeqAt.RcNeAt.lists_lengths (A := A) (s := s) (items := vs.toArray) (items2 := #[]) ⟨_, hl, rfl, _, rfl⟩ ⟨_, hb, rfl, _, rfl⟩ (by simpa using e) hu
    exact this prog w E Q (by simpa [e] using h)
theorem eq_nil {l b : Addr} {n n' : Nat} {Q : Value → Shared → Prop} (hl : s.heap.get? l = some (W.listOf #[] n)) (hb : s.heap.get? b = some (W.listOf #[] n')) (hu : A.units < cLine) (h : Q (.bool true) s) :
    wpAny (model prog w) A (compareOp .Eq (.ref l) (.ref b)) Q E s :=
  SeqAt.eq_listAt (items := #[]) (items2 := #[]) (e := fun _ => true) ⟨_, hl, rfl, _, rfl⟩ ⟨_, hb, rfl, _, rfl⟩ rfl hu (fun j h1 _ => absurd h1 (Nat.not_lt_zero _)) (by simpa using h)
/-- the order of two keys -/
theorem lex_ints {b fin : Bool} (hb : b = true) {Q : Bool → Shared → Prop} : ∀ {xs : List Value} {x : List Int}, IntsAre xs x → ∀ {ys : List Value} {y : List Int}, IntsAre ys y → ∀ (i : Nat), fin = decide (xs.length < ys.length) → Q (ltL x y) s → KatLex prog w A b fin Q (xs.zip ys) i s := by
  intro xs x hx
  induction hx with
  | nil =>
    intro ys y hy i hf hq
    cases hy with
    | nil => exact kat_nil (by rw [hf]; exact hq)
    | cons _ _ _ => exact kat_nil (by rw [hf]; exact hq)
  | cons n t r ih =>
    intro ys y hy i hf hq
    cases hy with
    | nil => exact kat_nil (by rw [hf]; exact hq)
    | @cons k u q qs r' =>
      refine kat_cons (wpAny_eqBool_int ?_)
      by_cases e : n = k
      · subst e
        rw [beq_self_eq_true]
        refine kat_yes (ih r' (i + 1) (by simpa using hf) ?_)
        rw [ltL, if_pos rfl] at hq
        exact hq
      · have e2 : (n == k) = false := by simpa using e
        rw [e2]
        refine kat_no ?_
        rw [ltL, if_neg e] at hq
        subst hb
        cases hi : (i == 0) with
        | true => exact oneLt_int hq
        | false => exact kat_one _ _ (lt_int hq)
end
end
end Mine
-- LD
namespace Mine
section

theorem lia_LD : True := by
  k_with_none
  k_with "my omega" => ((fail_if_success (fail_if_success omega (config := {}))); lia)
  trivial
abbrev TKd (prog : Program) (w : World) := tupleKind (intKind prog w)
/-- a dict object with tuples of ints as its keys -/
noncomputable def IsTD (prog : Program) (w : World) (o : Obj) (xs : List (List Int × Addr × Value)) : Prop :=
  o.ExactDict ∧ (∃ es ep, o.data = .dict es ep ∧ es.toList = xs.map (entryOfKey (TKd prog w))) ∧ (xs.map (·.1)).Nodup
noncomputable def TDKeys (led : List (Addr × Obj)) (xs : List (List Int × Addr × Value)) : Prop := ∀ x ∈ xs, KeyAt led x.1 (.ref x.2.1)
theorem TDKeys.mono {led led' : List (Addr × Obj)} {xs : List (List Int × Addr × Value)} (h : TDKeys led xs) (hs : ∀ p ∈ led, p ∈ led') : TDKeys led' xs := fun x hx => (h x hx).mono hs
theorem TDKeys.keys {led : List (Addr × Obj)} : ∀ {xs : List (List Int × Addr × Value)}, TDKeys led xs → KeysAre led (xs.map fun x => Value.ref x.2.1) (xs.map (·.1))
  | [], _ => .nil
  | x :: xs, h => .cons (h x (.head _)) (TDKeys.keys fun y hy => h y (.tail _ hy))
theorem IsTD.empty (prog : Program) (w : World) : IsTD prog w { cls := .type "dict", data := .dict #[] } [] := ⟨⟨rfl, rfl, rfl⟩, ⟨#[], 0, rfl, rfl⟩, List.nodup_nil⟩
theorem IsTD.ofInt {prog : Program} {w : World} {o : Obj} (h : o.IsDictOf (intKind prog w) []) : IsTD prog w o [] := by
  obtain ⟨es, ep, hc, hdat, _, hp, _⟩ := h
  exact ⟨hc, ⟨es, ep, hdat, List.length_eq_zero_iff.mp hp.length⟩, List.nodup_nil⟩
section
variable {prog : Program} {w : World} {A : Around} {E : Value → Shared → Prop} {s : Shared} {h₀ : Heap} {L d : Addr} {m : Str → Option Value} {led : List (Addr × Obj)} {o : Obj} {xs : List (List Int × Addr × Value)} {k : List Int} {a : Addr} {g : Obj → List (Addr × Obj)}
theorem IsTD.at {h : Heap} (hd : IsTD prog w o xs) (hk : TDKeys led xs) (N : News h₀ L h led) (hm : (d, o) ∈ led) : h.DictOfH (TKd prog w) d xs :=
  let ⟨hc, ⟨es, ep, hdat, he⟩, hn⟩ := hd
  ⟨o, es, ep, (N _ hm).1, hc, hdat, he, fun x hx => (hk x hx).isKey N, hn⟩
theorem TDKeys.off {h : Heap} (hd : IsTD prog w o xs) (N : News h₀ L h led) (hm : (d, o) ∈ led) {k : List Int} {v : Value} (x : KeyAt led k v) : ∃ b vs, v = .ref b ∧ b ≠ d ∧ (b, tupO vs) ∈ led ∧ IntsAre vs k := by
  obtain ⟨b, vs, e, hb, hi⟩ := x
  refine ⟨b, vs, e, ?_, hb, hi⟩
  rintro rfl
  have h1 := (N _ hm).1
  have h2 := (N _ hb).1
  dsimp only at h1 h2
  rw [h1] at h2
  have h3 : o = tupO vs := Option.some.inj h2
  obtain ⟨es, ep, hdat, _⟩ := hd.2.1
  rw [h3] at hdat
  cases hdat
/-- a key stands in the ledger behind the store too -/
theorem KeyAt.swap {h : Heap} {o' : Obj} (hd : IsTD prog w o xs) (N : News h₀ L h led) (U : UpdF d o led g) {k : List Int} {v : Value} (x : KeyAt led k v) : KeyAt (g o') k v := by
  obtain ⟨pre, post, rfl, hg, _, _⟩ := U.split
  obtain ⟨b, vs, rfl, hne, hb, hi⟩ := TDKeys.off hd N (List.mem_append_right _ (.head _)) x
  refine ⟨b, vs, rfl, ?_, hi⟩
  rw [hg]
  rcases List.mem_append.mp hb with hb | hb
  · exact List.mem_append_left _ hb
  · rcases List.mem_cons.mp hb with e | hb
    · cases e; exact absurd rfl hne
    · exact List.mem_append_right _ (.tail _ hb)
theorem td_set {v : Value} {x : Value} {Q : Unit → Shared → Prop} (F : Fr h₀ L s.heap m) (N : News h₀ L s.heap led) (U : UpdF d o led g) (hd : IsTD prog w o xs) (hk : TDKeys led xs) (hx : KeyAt led k x) (hu : A.units + 1 < cLine) (hsz : xs.length ≤ 1000)
    (h : ∀ h' o' a tk, x = .ref a → Fr h₀ L h' m → News h₀ L h' (g o') → IsTD prog w o' (storedH xs k a v) → TDKeys (g o') (storedH xs k a v) → Q () { s with heap := h', toks := tk }) :
    wpAny (model prog w) A (setItem (.ref d) x v) Q E s := by
  obtain ⟨pre, post, e0, hg, x1, x2⟩ := id U.split
  have hm : (d, o) ∈ led := by rw [e0]; exact List.mem_append_right _ (.head _)
  obtain ⟨a, vs, rfl, hb, hi⟩ := id hx
  refine wpAny_setItem_heap (hsz := by rw [sizeLine_eq]; omega) (knd := TKd prog w) (tupleKind_room_in1 hu) (hx.isKey N) (hd.at hk N hm) fun h' hm' hs => ?_
  obtain ⟨o', es', ep', ho', hc', hd', he', _, hn'⟩ := hm'
  have nd := N _ hm
  refine h h' o' a _ rfl (F.change hs nd.2.1 nd.2.2) ?_ ⟨hc', ⟨es', ep', hd', he'⟩, hn'⟩ fun y hy => ?_
  · rw [hg]
    rw [e0] at N
    exact N.setIn x1 x2 hs ho'
  · rcases mem_storedH hy with ⟨z, hz, e1, e2⟩ | ⟨e1, e2⟩
    · rw [e1, e2]; exact KeyAt.swap hd N U (hk z hz)
    · rw [e1, e2]; exact KeyAt.swap hd N U hx
theorem td_item {x : Value} {p : Addr × Value} {Q : Value → Shared → Prop} (N : News h₀ L s.heap led) (hm : (d, o) ∈ led) (hd : IsTD prog w o xs) (hk : TDKeys led xs) (hx : KeyAt led k x) (hu : A.units + 1 < cLine) (hp : atKey xs k = some p)
    (h : ∀ tk, Q p.2 { s with toks := tk }) : wpAny (model prog w) A (getItem (.ref d) x) Q E s := by
  obtain ⟨a, vs, rfl, hb, hi⟩ := id hx
  exact wpAny_getItem_heap (knd := TKd prog w) (tupleKind_room_in1 hu) (hx.isKey N) (hd.at hk N hm) hp (h _)
theorem td_tail {x : Value} {p : Addr × Value} {value slice : Expr} {Q : Value → Shared → Prop} (N : News h₀ L s.heap led) (hm : (d, o) ∈ led) (hd : IsTD prog w o xs) (hk : TDKeys led xs) (hx : KeyAt led k x) (hu : A.units + 1 < cLine) (hp : atKey xs k = some p)
    (h : ∀ tk, Q p.2 { s with toks := tk })
    (hs : subscripted slice false (.ref d) x = operate [.ref d, x] (getItem (.ref d) x)) :
    wpAny (model prog w) A (subscriptTail value slice (.ref d) x) Q E s :=
  tail_any (hd.at hk N hm).typeIs slot_dict_getitem.lookup (td_item N hm hd hk hx hu hp h) hs
theorem td_notin {x : Value} {Q : Value → Shared → Prop} (N : News h₀ L s.heap led) (hm : (d, o) ∈ led) (lo : (d == sysModules) = false) (hd : IsTD prog w o xs) (hk : TDKeys led xs) (hx : KeyAt led k x) (hu : A.units + 1 < cLine)
    (h : ∀ tk, Q (.bool (!(atKey xs k).isSome)) { s with toks := tk }) : wpAny (model prog w) A (compareOp .NotIn x (.ref d)) Q E s := by
  obtain ⟨a, vs, rfl, hb, hi⟩ := id hx
  exact wpAny_notIn_heap (knd := TKd prog w) (tupleKind_room_in1 hu) (hx.isKey N) lo (hd.at hk N hm) (h _)
theorem eqBool_refl {v : Value} {a : Addr} {Q : Bool → Shared → Prop} (e : v = .ref a) (h : Q true s) : wpAny (model prog w) A (eqBool v v) Q E s := by
  subst e
  unfold eqBool
  try with_reducible refine wpAny_holding ?_
  show wpAny _ _ (if (Value.ref a == Value.ref a) = true then _ else _) Q E s
  rw [if_pos (by simp)]
  exact wpAny_bind (wpAny_rule (wpAny_pure h))
end
end
end Mine
-- LD2
namespace Mine
section

theorem lia_LD2 : True := by
  k_with_none
  k_with "my omega" => ((fail_if_success (fail_if_success omega (config := {}))); lia)
  trivial
section
variable {prog : Program} {w : World} {A : Around} {E : Value → Shared → Prop} {s : Shared} {d o : Addr}
theorem filter_one {es : List DictEntry} (h : (es.map (·.hash)).Nodup) (x : Int) : (es.filter fun e => e.hash == x).length ≤ 1 := by
  induction es with
  | nil => simp
  | cons e es ih =>
    rw [List.map_cons, List.nodup_cons] at h
    rw [List.filter_cons]
    split
    · rename_i he
      have he' : e.hash = x := by simpa using he
      have : es.filter (fun e => e.hash == x) = [] := List.filter_eq_nil_iff.mpr fun y hy q => h.1 (by
        have : y.hash = x := by simpa using q
        rw [he', ← this]
        exact List.mem_map.mpr ⟨y, hy, rfl⟩)
      rw [this]; simp
    · exact ih h.2
theorem quiet_eq {a : Addr} {Q : Bool → Shared → Prop} (hT : s.TypeIs (.ref a) "tuple") (h : Q false s) : wpAny (model prog w) A (Builtin.Dict.quietEq (.ref a)) Q E s := by
  unfold Builtin.Dict.quietEq
  refine wpAny_bind (wpAny_specialOf hT F.slot_tuple_eq.lookup ?_)
  refine wpAny_pure ?_
  have e : (some (Value.builtin "tuple.__eq__") == some (Value.builtin "object.__eq__")) = false := by decide
  rw [e]; exact h
theorem td_entries {nm : String} {oo : Obj} {es : Array DictEntry} {ep : Nat} {Q : Array DictEntry → Shared → Prop} (hoo : s.heap.get? o = some oo) (hdo : oo.data = .dict es ep) (hkeys : ∀ e ∈ es.toList, ∃ a, e.key = .ref a ∧ s.TypeIs (.ref a) "tuple") (hdis : (es.toList.map (·.hash)).Nodup)
    (h : Q es s) : wpAny (model prog w) A (Builtin.Dict.entriesForEmpty nm o) Q E s := by
  unfold Builtin.Dict.entriesForEmpty
  refine wpAny_bind (wpAny_dictEntries hoo hdo ?_)
  refine wpAny_bind ?_
  rw [← Array.forIn_toList]
  refine wpAny_forIn_list _ (fun rest _ s' => s' = s ∧ ∀ e ∈ rest, e ∈ es.toList) _ ?_ ?_ _ _ ⟨rfl, fun _ hx => hx⟩
  · rintro e rest b s' ⟨rfl, hr⟩
    obtain ⟨a, ea, ht⟩ := hkeys e (hr e (.head _))
    rw [ea]
    refine wpAny_bind (quiet_eq ht ?_)
    simp only [Bool.not_false, if_true]
    have hf : ¬ (es.filter fun e' => e'.hash == e.hash).size > 1 := by
      have := filter_one hdis e.hash
      have e2 : (es.filter fun e' => e'.hash == e.hash).size = (es.toList.filter fun e' => e'.hash == e.hash).length := by
        rw [← Array.length_toList, Array.toList_filter]
      omega
    rw [if_neg hf]
    exact wpAny_pure ⟨rfl, fun x hx => hr x (.tail _ hx)⟩
  · rintro b s' ⟨rfl, _⟩
    exact wpAny_pure h
theorem td_merge {nm : String} {od oo : Obj} {es : Array DictEntry} {ep epd : Nat} {Q : Unit → Shared → Prop} (hdo : d ≠ o) (hoS : (o == sysModules) = false) (hod : s.heap.get? d = some od) (hdd : od.data = .dict #[] epd) (hoo : s.heap.get? o = some oo) (hdo' : oo.data = .dict es ep)
    (hkeys : ∀ e ∈ es.toList, ∃ a, e.key = .ref a ∧ s.TypeIs (.ref a) "tuple") (hdis : (es.toList.map (·.hash)).Nodup) (hsz : es.size ≤ 1000)
    (h0 : es = #[] → Q () s) (h1 : Q () { s with heap := s.heap.update d (Obj.mapDictKeys fun _ => es) }) : wpAny (model prog w) A (Builtin.Dict.mergeDict nm d o) Q E s := by
  unfold Builtin.Dict.mergeDict
  rw [if_neg (by simpa using hdo)]
  unfold Builtin.Dict.showsAll
  rw [if_neg (by rw [hoS]; exact Bool.false_ne_true)]
  refine wpAny_bind (wpAny_pure ?_)
  refine wpAny_bind (wpAny_dictEntries hoo hdo' ?_)
  by_cases he : es = #[]
  · subst he
    dsimp only
    rw [if_neg (by simp)]
    refine wpAny_bind (wpAny_dictEpoch hoo hdo' ?_)
    refine wpAny_bind (wpAny_dictEntries hoo hdo' ?_)
    rw [Std.Legacy.Range.forIn_eq_forIn_range']
    simp only [Std.Legacy.Range.size, Nat.sub_zero, Nat.add_sub_cancel, Nat.div_one]
    exact wpAny_bind (wpAny_pure (wpAny_pure (h0 rfl)))
  · have hne : ¬ (es.all fun e => (keyPart e.key).isSome) = true := by
      intro q
      obtain ⟨e, rest, hl⟩ : ∃ e rest, es.toList = e :: rest := by
        cases hl : es.toList with
        | nil => exact absurd (Array.toList_eq_nil_iff.mp hl) he
        | cons e r => exact ⟨e, r, rfl⟩
      obtain ⟨a, ea, _⟩ := hkeys e (by rw [hl]; exact .head _)
      rw [← Array.all_toList, hl, List.all_cons, ea] at q
      simp [keyPart] at q
    have hfew : (decide (es.size ≤ 8) && es.all fun e => (keyPart e.key).isSome) = false := by
      rw [Bool.and_eq_false_iff]; exact .inr (by simpa using hne)
    dsimp only
    rw [hfew]
    simp only [Bool.not_false, if_true]
    refine wpAny_bind (wpAny_dictEntries hod hdd ?_)
    simp only [Array.isEmpty_empty, if_true]
    refine wpAny_bind (td_entries hoo hdo' hkeys hdis ?_)
    have hemp : es.isEmpty = false := by simpa using he
    rw [hemp]
    simp only [Bool.not_false, if_true]
    exact wpAny_bind (wpAny_updateDictKeysTo hod hdd (wpAny_pure h1) (by rw [sizeLine_eq]; omega))
end
end
end Mine
-- LD3
namespace Mine
section

theorem lia_LD3 : True := by
  k_with_none
  k_with "my omega" => ((fail_if_success (fail_if_success omega (config := {}))); lia)
  trivial
/-- a dict as it lies, whatever its keys -/
noncomputable def RawD (h : Heap) (d : Addr) (es : Array DictEntry) (ep : Nat) : Prop := ∃ o, h.get? d = some o ∧ o.ExactDict ∧ o.data = .dict es ep
theorem RawD.type {s : Shared} {d : Addr} {es : Array DictEntry} {ep : Nat} (x : RawD s.heap d es ep) : s.TypeIs (.ref d) "dict" := let ⟨o, ho, hc, _⟩ := x; ⟨o, ho, hc.1⟩
theorem RawD.lt {h : Heap} {d : Addr} {es : Array DictEntry} {ep : Nat} (x : RawD h d es ep) : d < h.objs.size := let ⟨_, ho, _⟩ := x; Heap.lt_size ho
theorem RawD.at {h h' : Heap} {d : Addr} {es : Array DictEntry} {ep : Nat} (x : RawD h d es ep) (e : ∀ o, h.get? d = some o → h'.get? d = some o) : RawD h' d es ep := let ⟨o, ho, r⟩ := x; ⟨o, e _ ho, r⟩
section
variable {prog : Program} {w : World} {A : Around} {E : Value → Shared → Prop} {s : Shared}
theorem raw_iter {d : Addr} {es : Array DictEntry} {ep : Nat} {Q : Value → Shared → Prop} (lo : (d == sysModules) = false) (hm : RawD s.heap d es ep)
    (hQ : Q (.ref s.heap.objs.size) { s with heap := s.heap.push { cls := .type "dict_keyiterator", data := .fields #[.ref d, .int 0 0, .int es.size 0, .int ep 0] } }) : wpAny (model prog w) A (pyIter (.ref d)) Q E s := by
  have hT := hm.type
  obtain ⟨o, ho, hc, hdat⟩ := id hm
  refine wpAny_pyIter_slot hT F.slot_dict_iter (wpAny_call_entry F.slot_dict_iter hT F.entry_dict_iter ?_ (F.args_dict_iter_1 _))
  unfold Builtin.«dict.__iter__»
  refine wpAny_bind ?_
  unfold Builtin.Dict.dictSlotNone
  refine wpAny_bind (wpAny_notOrdered_dict hT ?_)
  show wpAny _ _ (pure (Value.ref d)) _ _ s
  refine wpAny_pure ?_
  show wpAny _ _ (Builtin.Dict.showsAll d >>= _) _ _ s
  unfold Builtin.Dict.showsAll
  rw [if_neg (by rw [lo]; exact Bool.false_ne_true)]
  refine wpAny_bind (wpAny_pure (wpAny_bind (wpAny_dictEntries ho hdat (wpAny_bind (wpAny_dictEpoch ho hdat ?_)))))
  refine wpAny_bind (wpAny_newObj_type (wpAny_pure ⟨_, rfl, "dict_keyiterator", _, ⟨_, Heap.get?_push_size _ rfl, rfl⟩, F.slot_dict_keyiterator_next.lookup, ?_⟩))
  simpa [rawInt] using hQ
theorem raw_item {it d : Addr} {i ep : Nat} {es : Array DictEntry} {Q : Option Value → Shared → Prop} (hit : s.heap.IsKeyIter it d i es.size ep) (hm : RawD s.heap d es ep) (hlt : i < es.size)
    (hQ : ∀ h', h'.IsKeyIter it d (i + 1) es.size ep → Heap.SameBut it s.heap h' → Q (some es[i].key) { s with heap := h' }) : wpAny (model prog w) A (pyNext (.ref it)) Q E s := by
  obtain ⟨o, ho, hc, hd⟩ := id hit
  obtain ⟨od, hod, hcd, hdd⟩ := id hm
  unfold pyNext
  refine wpAny_bind (wpAny_attempt (wpAny_callSpecial?_slot (name := Str.ofString "__next__") hit.typeIs F.slot_dict_keyiterator_next
    (wpAny_call_entry F.slot_dict_keyiterator_next hit.typeIs F.entry_dict_keyiterator_next ?_ (F.args_dict_keyiterator_next_1 _))))
  refine wpAny_bind (wpAny_pure (wpAny_bind (wpAny_bind ?_)))
  first | refine wpAny_bind (wpAny_typeNameOfWhole_keyiter hit.typeIs (wpAny_pure ?_)) | refine wpAny_bind (wpAny_typeNameOf_keyiter hit.typeIs (wpAny_pure ?_))
  refine wpAny_bind (wpAny_fieldsOf ho hd ?_)
  have hown : Builtin.Dict_items.ownsTuple "dict_keyiterator" = false := by decide
  simp only [hown, Bool.false_eq_true, if_false]
  show wpAny _ _ (if (Value.ref d == Value.none) = true then _ else _) _ _ s
  rw [if_neg (show ¬ ((Value.ref d == Value.none) = true) from Bool.false_ne_true)]
  refine wpAny_bind (wpAny_pure (wpAny_bind (wpAny_dictEntries hod hdd ?_)))
  rw [if_neg (by simp)]
  refine wpAny_bind (wpAny_pure (wpAny_bind (wpAny_dictEpoch hod hdd ?_)))
  rw [if_neg (by simp)]
  refine wpAny_pure ?_
  simp only [show ¬ ((i : Int) < 0) from by omega, if_false, Int.toNat_natCast, Array.getElem?_eq_getElem hlt]
  refine wpAny_bind ?_
  first | refine wpAny_bind (wpAny_typeNameOfWhole_keyiter hit.typeIs (wpAny_pure ?_)) | refine wpAny_bind (wpAny_typeNameOf_keyiter hit.typeIs (wpAny_pure ?_))
  refine wpAny_bind (wpAny_isOneOf_keyiter hit.typeIs ?_)
  show wpAny _ _ (setField (.ref it) 1 (rawInt ((i : Int) + 1)) >>= _) _ _ s
  refine wpAny_bind (wpAny_setField ho hd (by simp) ?_)
  have hit' : (s.heap.update it (Obj.mapFields (·.setIfInBounds 1 (rawInt ((i : Int) + 1))))).IsKeyIter it d (i + 1) es.size ep :=
    ⟨_, Heap.get?_update_self _ ho (Obj.isFreed_of_fields (Obj.data_mapFields hd _)), (Obj.cls_mapFields ..).trans hc, by rw [Obj.data_mapFields hd]; simp [rawInt]⟩
  refine wpAny_bind (wpAny_holding ?_)
  refine wpAny_bind (wpAny_isOneOf_keyiter (s := { s with heap := s.heap.update it (Obj.mapFields (·.setIfInBounds 1 (rawInt ((i : Int) + 1)))) }) hit'.typeIs ?_)
  show wpAny _ _ (pure es[i].key) _ _ _
  exact wpAny_pure (wpAny_pure ⟨_, rfl, wpAny_pure (hQ _ hit' (Heap.SameBut.update ..))⟩)
theorem raw_end {it d : Addr} {ep : Nat} {es : Array DictEntry} {Q : Option Value → Shared → Prop} (hh : A.handled = none) (hit : s.heap.IsKeyIter it d es.size es.size ep) (hm : RawD s.heap d es ep)
    (hQ : ∀ h', Heap.ExtBut it s.heap h' → Q none { s with heap := h' }) : wpAny (model prog w) A (pyNext (.ref it)) Q E s := by
  obtain ⟨o, ho, hc, hd⟩ := id hit
  obtain ⟨od, hod, hcd, hdd⟩ := id hm
  unfold pyNext
  refine wpAny_bind (wpAny_attempt (wpAny_callSpecial?_slot (name := Str.ofString "__next__") hit.typeIs F.slot_dict_keyiterator_next
    (wpAny_call_entry F.slot_dict_keyiterator_next hit.typeIs F.entry_dict_keyiterator_next ?_ (F.args_dict_keyiterator_next_1 _))))
  refine wpAny_bind (wpAny_pure (wpAny_bind (wpAny_bind ?_)))
  first | refine wpAny_bind (wpAny_typeNameOfWhole_keyiter hit.typeIs (wpAny_pure ?_)) | refine wpAny_bind (wpAny_typeNameOf_keyiter hit.typeIs (wpAny_pure ?_))
  refine wpAny_bind (wpAny_fieldsOf ho hd ?_)
  have hown : Builtin.Dict_items.ownsTuple "dict_keyiterator" = false := by decide
  simp only [hown, Bool.false_eq_true, if_false]
  show wpAny _ _ (if (Value.ref d == Value.none) = true then _ else _) _ _ s
  rw [if_neg (show ¬ ((Value.ref d == Value.none) = true) from Bool.false_ne_true)]
  refine wpAny_bind (wpAny_pure (wpAny_bind (wpAny_dictEntries hod hdd ?_)))
  rw [if_neg (by simp)]
  refine wpAny_bind (wpAny_pure (wpAny_bind (wpAny_dictEpoch hod hdd ?_)))
  rw [if_neg (by simp)]
  refine wpAny_pure ?_
  simp only [show ¬ ((es.size : Int) < 0) from by omega, if_false, Int.toNat_natCast, Array.getElem?_eq_none (Nat.le_refl es.size)]
  refine wpAny_bind ?_
  first | refine wpAny_bind (wpAny_typeNameOfWhole_keyiter hit.typeIs (wpAny_pure ?_)) | refine wpAny_bind (wpAny_typeNameOf_keyiter hit.typeIs (wpAny_pure ?_))
  show wpAny _ _ (setField (.ref it) 0 .none >>= _) _ _ s
  refine wpAny_bind (wpAny_setField ho hd (by simp) ?_)
  show wpAny _ _ (newExc (.type "StopIteration") [] >>= _) _ _ _
  refine wpAny_bind ?_
  simp only [newExc, newTuple]
  refine wpAny_bind (wpAny_newObj_type ?_ (by size_fits))
  refine wpAny_bind (m := firstArgMember _ _) (wpAny_of_eq (a := Value.none) (by first | rfl | (simp only [firstArgMember]; rfl)) ?_)
  refine wpAny_newObj_type ?_ (by size_fits)
  simp only [raiseNew]
  refine wpAny_bind (wpAny_handled ?_)
  rw [show A.in1.handled = none from hh]
  refine wpAny_bind (wpAny_pure (wpAny_throw ?_))
  refine wpAny_bind (wpAny_isInstance (T := "StopIteration") (b := true) ⟨_, Heap.get?_push_size _ rfl, rfl⟩ isSubtype_stop ?_)
  exact wpAny_pure (hQ _ (((Heap.SameBut.update ..).extBut.push _).push _))
end
section
variable {prog : Program} {w : World} {A : Around}
theorem raw_walks (hh : A.handled = none) (I d : Addr) (hne : d ≠ I) (es : Array DictEntry) (ep : Nat) :
    Walks prog w A I [I, d] [I] es.size (fun i v => ∃ e, es[i]? = some e ∧ v = e.key) (fun i h => h.IsKeyIter I d i es.size ep ∧ RawD h d es ep) where
  sub := fun b hb => by simp at hb; simp [hb]
  frame := fun _ _ _ st hk => ⟨st.1.at fun o e => hk I (by simp) o e, st.2.at fun o e => hk d (by simp) o e⟩
  item := fun i s Q E hi st hQ => by
    refine raw_item st.1 st.2 hi fun h' hit' hs' => ?_
    exact hQ es[i].key h' s.toks ⟨es[i], by simp [hi], rfl⟩ ⟨hit', st.2.at fun o e => hs'.extBut d o hne e⟩ fun b o hb e => hs'.extBut b o (fun h => hb (by simp [h])) e
  done := fun s Q E st hQ => raw_end hh st.1 st.2 fun h' he' => hQ h' s.toks fun b o hb e => he' b o (fun h => hb (by simp [h])) e
  self := fun _ _ _ _ st hQ => wpAny_pyIter_keyiter st.1 hQ
theorem raw_src {d : Addr} (es : Array DictEntry) (ep : Nat) (lo : (d == sysModules) = false) : KdlSrc prog w "dict" d d es.size (fun i v => ∃ e, es[i]? = some e ∧ v = e.key) (fun h => RawD h d es ep) where
  type := fun _ hm => hm.type
  there := fun _ hm => ⟨hm.lt, hm.lt⟩
  keep := fun _ _ hm hk => hm.at fun o e => hk d (.inl rfl) o e
  notList := by decide
  notTuple := by decide
  hint := fun _ _ _ _ hm hq => kdl_hint_dict hm.type hq
  iter := fun _ _ hh hm => ⟨_, _, (fun _ _ hq => raw_iter lo hm hq), raw_walks hh _ d (Nat.ne_of_lt hm.lt) es ep, ⟨⟨_, Heap.get?_push_size _ rfl, rfl, rfl⟩, hm.at fun _ e => Heap.get?_push_of_some _ e⟩⟩
end
end
end Mine
-- LD4
namespace Mine
section

theorem lia_LD4 : True := by
  k_with_none
  k_with "my omega" => ((fail_if_success (fail_if_success omega (config := {}))); lia)
  trivial
section
variable {prog : Program} {w : World} {A : Around} {E : Value → Shared → Prop} {s : Shared} {h₀ : Heap} {L : Addr} {m : Str → Option Value} {news : List (Addr × Obj)} {vs : List Value} {K : List (List Int)}
theorem short_tree {D : Addr} {n : Nat} {P : PySem.Fin → Shared → Prop} (ho : s.heap.get? D = some (seqObj "list" vs.toArray n)) (hlt : vs.length < 2) (h : P (.done (.ret .none)) { s with heap := sortedHeap s.heap D vs vs.toArray }) :
    wpAny (model prog w) A (Builtin.«list.sort» ⟨[.ref D], []⟩) P E s := by
  rw [list_sort_plain]
  have ha : D < s.heap.objs.size := Heap.lt_size ho
  have hz : vs.length ≤ sizeLine := by rw [sizeLine_eq]; omega
  refine wpAny_bind (listItems_at ho rfl ?_)
  refine wpAny_bind (listUpdate_at ho rfl ?_ (by simpa using hz) (Nat.zero_le _))
  obtain ⟨e1, ho1⟩ : ∃ e1, (s.heap.update D (Obj.mapSeq fun _ => #[])).get? D = some (seqObj "list" #[] e1) := ⟨_, get?_update_seq ho (fun _ => #[])⟩
  refine wpAny_bind (seqEpoch_at ho1 rfl ?_)
  refine wpAny_bind (wpAny_newTuple ?_ (by simpa using hz))
  refine wpAny_bind (wpAny_newList ?_ (Nat.zero_le _))
  refine wpAny_holding ?_
  have ho6 : (((s.heap.update D (Obj.mapSeq fun _ => #[])).push (seqObj "tuple" vs.toArray 0)).push (seqObj "list" #[] 0)).get? D = some (seqObj "list" #[] e1) := by
    rw [Heap.get?_push_ne _ _ _ (by rw [size_push', Heap.size_update]; exact Nat.ne_of_lt (Nat.lt_succ_of_lt ha)), Heap.get?_push_ne _ _ _ (by rw [Heap.size_update]; exact Nat.ne_of_lt ha)]
    exact ho1
  show wpAny (model prog w) A _ P E { s with heap := ((s.heap.update D (Obj.mapSeq fun _ => #[])).push (seqObj "tuple" vs.toArray 0)).push (seqObj "list" #[] 0) }
  dsimp only
  have h2 : vs.toArray.size < 2 := by simpa using hlt
  rw [if_pos h2, if_pos h2]
  refine wpAny_bind (wpAny_pure ?_)
  rw [StateT.run_pure]
  refine wpAny_bind (wpAny_pure ?_)
  dsimp only
  have e : (arrOf (SortSt.mk' general' (vs.toArray.zip vs.toArray) #[] 7 none)).map (·.2) = vs.toArray := by
    show ((vs.toArray.zip vs.toArray).map (·.2)) = vs.toArray
    apply Array.toList_inj.mp
    simp [List.map_snd_zip]
  rw [e]
  refine wpAny_bind (seqEpoch_at ho6 rfl ?_)
  refine wpAny_bind (listUpdate_at ho6 rfl ?_ (Nat.zero_le _) (by rw [List.size_toArray]; omega))
  simp only [bne_self_eq_false, Bool.false_eq_true, if_false]
  exact wpAny_pure h
theorem lsort_short {D : Addr} {n : Nat} {Q : Value → Shared → Prop} (F : Fr h₀ L s.heap m) (N : News h₀ L s.heap ((D, W.listOf vs.toArray n) :: news)) (hD : ∀ p ∈ news, p.1 ≠ D) (hlt : vs.length < 2)
    (h : ∀ h' c, Fr h₀ L h' m → News h₀ L h' ((D, W.listOf vs.toArray c) :: news) → Q .none { s with heap := h' }) : wpAny (model prog w) A (call (.builtin "list.sort") [.ref D]) Q E s := by
  have nd := N _ (.head _)
  refine wpAny_call_entry slot_list_sort ⟨_, nd.1, rfl⟩ entry_list_sort (short_tree (vs := vs) (n := n) nd.1 hlt ⟨_, rfl, ?_⟩) (args_list_sort _)
  obtain ⟨c, hc⟩ := sortedHeap_at (vs := vs) (out := vs.toArray) nd.1
  refine h _ c ?_ fun p hp => ?_
  · obtain ⟨oL, a1, a2, hL, a3⟩ := F.ns
    refine ⟨⟨oL, a1, a2, (sortedHeap_old (Ne.symm nd.2.1) (Heap.lt_size hL)).trans hL, a3⟩, fun b o e => (sortedHeap_old ?_ (Heap.lt_size (F.keep b o e))).trans (F.keep b o e), F.above⟩
    rintro rfl
    have := nd.2.2
    rw [this] at e; cases e
  · rcases List.mem_cons.mp hp with rfl | hp
    · exact ⟨hc, nd.2⟩
    · have np := N p (.tail _ hp)
      exact ⟨(sortedHeap_old (hD p hp) (Heap.lt_size np.1)).trans np.1, np.2⟩
theorem tups_of {h : Heap} {led : List (Addr × Obj)} (N : News h₀ L h led) : ∀ {vs : List Value} {K : List (List Int)}, KeysAre led vs K → (∀ k ∈ K, k ≠ []) → ∃ fs : List Value, KatTups h vs fs ∧ fs.length = K.length ∧ ∀ f ∈ fs, ∃ n t, f = .int n t
  | _, _, .nil, _ => ⟨[], KatTups.nil, rfl, fun _ hf => nomatch hf⟩
  | _, _, .cons (k := k) hx r, hne => by
    obtain ⟨fs, h1, h2, h3⟩ := tups_of N r fun q hq => hne q (.tail _ hq)
    obtain ⟨a, us, rfl, hm, hi⟩ := hx
    cases hi with
    | nil => exact absurd rfl (hne [] (.head _))
    | cons n t r' =>
      refine ⟨.int n t :: fs, KatTups.cons (N _ hm).1 rfl rfl (by simp) h1, by simp [h2], fun f hf => ?_⟩
      rcases List.mem_cons.mp hf with rfl | hf
      · exact ⟨n, t, rfl⟩
      · exact h3 f hf
theorem lsort_keys {D : Addr} {n : Nat} {Q : Value → Shared → Prop} (F : Fr h₀ L s.heap m) (N : News h₀ L s.heap ((D, W.listOf vs.toArray n) :: news)) (hD : ∀ p ∈ news, p.1 ≠ D) {kl : List (Addr × Obj)} (hsub : ∀ p ∈ kl, p ∈ news) (hk : KeysAre kl vs K) (hne : ∀ k ∈ K, k ≠ []) (h64 : K.length < 64)
    (h : ∀ h' vs' c, Fr h₀ L h' m → News h₀ L h' ((D, W.listOf vs'.toArray c) :: news) → KeysAre kl vs' (sortK K) → Q .none { s with heap := h' }) : wpAny (model prog w) A (call (.builtin "list.sort") [.ref D]) Q E s := by
  have hl := hk.len
  by_cases h2 : K.length < 2
  · refine lsort_short F N hD (by omega) fun h' c F' N' => h h' vs c F' N' ?_
    have e : sortK K = K := by
      unfold sortK permK
      rw [if_pos h2]
      refine List.ext_getElem (by simp) fun i h1 h2 => ?_
      simp [h2]
    rw [e]; exact hk
  · refine kat_lsort (vs := vs) F N (UpdF.head hD) (by simp) (by omega) (by omega) fun e1 h' F' N' => ?_
    have N2 : News h₀ L h' news := fun p hp => N' p (.tail _ hp)
    obtain ⟨fs, t1, t2, t3⟩ := tups_of (fun p hp => N2 p (hsub p hp)) hk hne
    refine kat_kind (s := { s with heap := h' }) (T := .type "int") t1 (by omega) (fun v hv => ?_) (by decide) ?_
    · obtain ⟨x, t, rfl⟩ := t3 v hv
      exact Looks.of_pure rfl
    · have hb : (Value.type "int" != Value.type "tuple") = true := by decide
      refine kAll_wp (n := vs.length) (R := PermN vs.length) (lt := fun i j => ltL (K.getD i []) (K.getD j [])) (fun i j C hi hj hC => ?_) (all_sort (by omega)) ?_
      · obtain ⟨x, xs, ex, mx, ix⟩ := hk.get i (by omega)
        obtain ⟨y, ys, ey, my, iy⟩ := hk.get j (by omega)
        unfold kas_ask
        rw [ex, ey]
        exact kat_lt (s := { s with heap := h' }) (N2 _ (hsub _ mx)).1 rfl (N2 _ (hsub _ my)).1 rfl (lex_ints hb ix iy 0 (by simp) hC)
      · refine KasFin.intro F' N' (UpdF.head hD) fun h'' c F'' N'' => h h'' _ c F'' N'' ?_
        have e : permK K = (kRun (fun i j => ltL (K.getD i []) (K.getD j [])) (kas_sort vs.length)).toList := by
          unfold permK
          rw [if_neg h2, hl]
        unfold sortK
        rw [e]
        refine hk.pick fun i hi => ?_
        have := (kAll_run (lt := fun i j => ltL (K.getD i []) (K.getD j [])) (all_sort (n := vs.length) (by omega))).mem_iff.mp hi
        have := List.mem_range.mp this
        omega
end
end
end Mine
-- LD5
namespace Mine
section

theorem lia_LD5 : True := by
  k_with_none
  k_with "my omega" => ((fail_if_success (fail_if_success omega (config := {}))); lia)
  trivial
section
variable {prog : Program} {w : World} {A : Around} {E : Value → Shared → Prop} {s : Shared} {h₀ : Heap} {L : Addr} {m : Str → Option Value} {news : List (Addr × Obj)} {vs : List Value} {K : List (List Int)} {xs : List (List Int × Addr × Value)}
theorem sorted_list {l : Addr} {n : Nat} {Q : Value → Shared → Prop} (F : Fr h₀ L s.heap m) (N : News h₀ L s.heap news) (hl : (l, W.listOf vs.toArray n) ∈ news) {kl : List (Addr × Obj)} (hsub : ∀ p ∈ kl, p ∈ news) (hk : KeysAre kl vs K) (hne : ∀ k ∈ K, k ≠ []) (h64 : K.length < 64)
    (h : ∀ D h' vs' c, Fr h₀ L h' m → News h₀ L h' ((D, W.listOf vs'.toArray c) :: news) → (∀ p ∈ news, p.1 < D) → KeysAre kl vs' (sortK K) → Q (.ref D) { s with heap := h' }) :
    wpAny (model prog w) A (call (.builtin "sorted") [.ref l]) Q E s := by
  have hlen := hk.len
  have hz : vs.length ≤ sizeLine := by rw [sizeLine_eq]; omega
  refine call_function_entry kind_sorted plain_sorted entry_sorted (args_sorted1 _) ?_
  unfold Builtin.«sorted»
  refine wpAny_bind (m := checkCount "sorted" 1 1 _) (wpAny_pure ?_)
  refine wpAny_bind (collect_list (l := l) (vs := vs) ⟨_, (N _ hl).1, rfl, _, rfl⟩ ?_ hz)
  refine wpAny_bind (wpAny_newList ?_ hz)
  have hk1 : ∀ b o, s.heap.get? b = some o → ((s.heap.push (seqObj "list" #[] 0)).update s.heap.objs.size (Obj.mapSeq (· ++ vs.toArray))).get? b = some o := fun b o e => by
    have hlt := Heap.lt_size e
    rw [Heap.get?_update_ne _ _ _ _ (Nat.ne_of_lt hlt), Heap.get?_push_ne _ _ _ (Nat.ne_of_lt hlt)]
    exact e
  generalize hH : (s.heap.push (seqObj "list" #[] 0)).update s.heap.objs.size (Obj.mapSeq (· ++ vs.toArray)) = H at *
  have F1 := F.keeps hk1
  have N1 : News h₀ L H news := fun p hp => ⟨hk1 _ _ (N p hp).1, (N p hp).2⟩
  have lt1 : ∀ p ∈ news, p.1 < H.objs.size := fun p hp => Heap.lt_size (N1 p hp).1
  refine wpAny_bind (wpAny_holding (wpAny_mono (lsort_keys (s := { s with heap := H.push (seqObj "list" vs.toArray 0) }) (n := 0) (Q := fun _ s' => Q (.ref H.objs.size) s') (F1.push _) (News.push F1 N1 _ rfl) (fun p hp => Nat.ne_of_lt (lt1 p hp)) hsub hk hne h64 fun h' vs' c F' N' k' => h _ h' vs' c F' N' lt1 k') (fun _ s' x => ?_) fun _ _ e => e))
  exact wpAny_pure ⟨_, rfl, x⟩
theorem sorted_dict {d : Addr} {o : Obj} {Q : Value → Shared → Prop} (hh : A.handled = none) (F : Fr h₀ L s.heap m) (N : News h₀ L s.heap news) (hm : (d, o) ∈ news) (lo : (d == sysModules) = false) (hd : IsTD prog w o xs) (hk : TDKeys news xs) (hne : ∀ x ∈ xs, x.1 ≠ []) (h64 : xs.length < 64)
    (h : ∀ D h' vs' c tk, Fr h₀ L h' m → News h₀ L h' ((D, W.listOf vs'.toArray c) :: news) → (∀ p ∈ news, p.1 < D) → KeysAre news vs' (sortK (xs.map (·.1))) → Q (.ref D) { s with heap := h', toks := tk }) :
    wpAny (model prog w) A (call (.builtin "sorted") [.ref d]) Q E s := by
  obtain ⟨hc, ⟨es, ep, hdat, he⟩, hn⟩ := hd
  have hsz : es.size = xs.length := by rw [← Array.length_toList, he, List.length_map]
  refine kdu_sorted (raw_src es ep lo) hh F N ⟨o, (N _ hm).1, hc, hdat⟩ (by rw [sizeLine_eq]; omega) fun D h' tk vs F' N' lt hl hv => ?_
  have hvs : vs = xs.map fun x => Value.ref x.2.1 := by
    refine List.ext_getElem (by rw [List.length_map]; omega) fun i h1 h2 => ?_
    obtain ⟨e, he1, he2⟩ := hv i vs[i] (List.getElem?_eq_getElem h1)
    rw [List.length_map] at h2
    have : es.toList[i]? = some (entryOfKey (TKd prog w) xs[i]) := by rw [he, List.getElem?_map, List.getElem?_eq_getElem h2]; rfl
    rw [Array.getElem?_toList, he1] at this
    rw [he2, Option.some.inj this, List.getElem_map]
    rfl
  subst hvs
  exact lsort_keys (s := { s with heap := h', toks := tk }) F' N' (fun p hp => Nat.ne_of_lt (lt p hp)) (fun _ hp => hp) hk.keys (fun k hk' => by obtain ⟨x, hx, rfl⟩ := List.mem_map.mp hk'; exact hne x hx) (by simpa using h64) fun h'' vs' c F'' N'' k'' => h D h'' vs' c tk F'' N'' lt k''
theorem td_copy {d : Addr} {o : Obj} {Q : Value → Shared → Prop} (F : Fr h₀ L s.heap m) (N : News h₀ L s.heap news) (hbig : sysModules < h₀.objs.size) (hm : (d, o) ∈ news) (lo : (d == sysModules) = false) (hd : IsTD prog w o xs) (hk : TDKeys news xs) (hdis : (xs.map fun x => (TKd prog w).hash x.1).Nodup) (h64 : xs.length < 64)
    (h : ∀ D o' h', Fr h₀ L h' m → News h₀ L h' ((D, o') :: news) → (∀ p ∈ news, p.1 < D) → (D == sysModules) = false → IsTD prog w o' xs → Q (.ref D) { s with heap := h' }) :
    wpAny (model prog w) A (call (.type "dict") [.ref d]) Q E s := by
  obtain ⟨hc, ⟨es, ep, hdat, he⟩, hn⟩ := id hd
  have hsz : es.size = xs.length := by rw [← Array.length_toList, he, List.length_map]
  refine callType_codes (Q₁ := fun obj s₁ => obj = .ref s.heap.objs.size ∧ s₁ = { s with heap := s.heap.push { cls := .type "dict", data := .dict #[] } }) PySem.F.kt_called_dict (PySem.F.kt_typeCall_dict_1 _) PySem.F.entry_dict_init (kt_code_dict_new _ ⟨rfl, rfl⟩) ?_
  rintro obj s₁ ⟨rfl, rfl⟩
  have hnew : (s.heap.push { cls := .type "dict", data := .dict #[] }).get? s.heap.objs.size = some { cls := .type "dict", data := .dict #[] } := Heap.get?_push_size _ rfl
  have ho1 : (s.heap.push { cls := .type "dict", data := .dict #[] }).get? d = some o := Heap.get?_push_of_some _ (N _ hm).1
  have hT1 : Shared.TypeIs { s with heap := s.heap.push { cls := .type "dict", data := .dict #[] } } (.ref s.heap.objs.size) "dict" := ⟨_, hnew, rfl⟩
  have hT2 : Shared.TypeIs { s with heap := s.heap.push { cls := .type "dict", data := .dict #[] } } (.ref d) "dict" := ⟨_, ho1, hc.1⟩
  have hdo : s.heap.objs.size ≠ d := fun e => absurd (Heap.lt_size (N _ hm).1) (by dsimp only; rw [← e]; exact Nat.lt_irrefl _)
  have lt1 : ∀ p ∈ news, p.1 < s.heap.objs.size := fun p hp => Heap.lt_size (N p hp).1
  have lo1 := F.notModules hbig
  refine ⟨hT1, PySem.F.args_dict_init_2 _ _, ?_⟩
  unfold Builtin.«dict.__init__»
  refine wpAny_bind ?_
  unfold Builtin.Dict.selfAndRest
  refine wpAny_bind (wpAny_notOrdered_dict hT1 ?_)
  show wpAny _ _ (pure (s.heap.objs.size, [Value.ref d])) _ _ _
  refine wpAny_pure ?_
  show wpAny _ _ (Builtin.Dict.updateFrom "dict.__init__" s.heap.objs.size (.ref d) [] .none) _ _ _
  unfold Builtin.Dict.updateFrom
  refine wpAny_bind (wpAny_typeOf hT2 ?_)
  rw [if_neg (by decide)]
  refine wpAny_bind ?_
  unfold Builtin.Dict.merge
  refine wpAny_bind ?_
  unfold Builtin.Dict.readDirectly
  refine wpAny_bind (wpAny_isInstance hT2 isSubtype_dict_dict ?_)
  simp only [Bool.not_true, Bool.false_eq_true, if_false]
  refine wpAny_bind (wpAny_specialOf hT2 PySem.F.slot_dict_iter.lookup (wpAny_pure ?_))
  simp only [beq_self_eq_true, if_true]
  refine wpAny_bind (wpAny_pure ?_)
  have N1 := News.push F N { cls := .type "dict", data := .dict #[] } rfl
  refine td_merge (s := { s with heap := s.heap.push { cls := .type "dict", data := .dict #[] } }) hdo lo hnew rfl ho1 hdat (fun e hin => ?_) ?_ (by omega) (fun e0 => ?_) ?_
  · rw [he] at hin
    obtain ⟨x, hx, rfl⟩ := List.mem_map.mp hin
    obtain ⟨a, us, ea, hma, _⟩ := hk x hx
    exact ⟨x.2.1, rfl, by rw [ea]; exact ⟨_, Heap.get?_push_of_some _ (N _ hma).1, rfl⟩⟩
  · rw [he, List.map_map]; exact hdis
  · subst e0
    have hx0 : xs = [] := List.length_eq_zero_iff.mp (by simpa using hsz.symm)
    subst hx0
    show wpAny _ _ (Builtin.Dict.addKeywords s.heap.objs.size [] >>= _) _ _ _
    exact wpAny_bind (wpAny_pure (wpAny_pure ⟨rfl, h _ _ _ (F.push _) N1 lt1 lo1 (IsTD.empty prog w)⟩))
  · have hs := Heap.SameBut.update (s.heap.push { cls := .type "dict", data := .dict #[] }) s.heap.objs.size (Obj.mapDictKeys fun _ => es)
    have ho' : ((s.heap.push { cls := .type "dict", data := .dict #[] }).update s.heap.objs.size (Obj.mapDictKeys fun _ => es)).get? s.heap.objs.size = some (Obj.mapDictKeys (fun _ => es) { cls := .type "dict", data := .dict #[] }) :=
      Heap.get?_update_self _ hnew (Obj.isFreed_of_dict (Obj.data_mapDictKeys rfl _))
    show wpAny _ _ (Builtin.Dict.addKeywords s.heap.objs.size [] >>= _) _ _ _
    refine wpAny_bind (wpAny_pure (wpAny_pure ⟨rfl, h _ _ _ ((F.push _).change hs (N1 _ (.head _)).2.1 (N1 _ (.head _)).2.2) (N1.setHead (fun p hp => Nat.ne_of_lt (lt1 p hp)) hs ho') lt1 lo1 ⟨Obj.ExactDict.mapDictKeys ⟨rfl, rfl, rfl⟩ _, ⟨es, _, Obj.data_mapDictKeys rfl _, he⟩, hn⟩⟩))
end
section
variable {prog : Program} {w : World} {A : Around} {E : Value → Shared → Prop} {s : Shared} {h₀ : Heap} {L : Addr} {m : Str → Option Value} {news : List (Addr × Obj)} {xs : List (List Int × Addr × Value)}
theorem same_td {nm : String} {a b : Addr} {oa ob : Obj} {Q : Bool → Shared → Prop} (N : News h₀ L s.heap news) (ha : (a == sysModules) = false) (hb : (b == sysModules) = false) (ma : (a, oa) ∈ news) (mb : (b, ob) ∈ news) (da : IsTD prog w oa xs) (db : IsTD prog w ob xs) (hk : TDKeys news xs) (hv : ∀ x ∈ xs, ∃ c, x.2.2 = .ref c) (hu : A.units < cLine)
    (h : Q true s) : wpAny (model prog w) A (Builtin.Dict.samePairs nm a b) Q E s := by
  obtain ⟨_, ⟨es, ep, hda, he⟩, hn⟩ := id da
  obtain ⟨_, ⟨es', ep', hdb, he'⟩, _⟩ := id db
  have ees : es' = es := Array.toList_inj.mp (he'.trans he.symm)
  subst ees
  have hoa := (N _ ma).1
  have hob := (N _ mb).1
  have hsz : es'.size = xs.length := by rw [← Array.length_toList, he, List.length_map]
  unfold Builtin.Dict.samePairs Builtin.Dict.showsAll
  rw [if_neg (show ¬ (a == sysModules) = true by rw [ha]; exact Bool.false_ne_true), if_neg (show ¬ (b == sysModules) = true by rw [hb]; exact Bool.false_ne_true)]
  refine wpAny_bind (wpAny_pure (wpAny_bind (wpAny_pure ?_)))
  refine wpAny_bind (wpAny_dictEntries hoa hda ?_)
  dsimp only
  refine wpAny_bind (wpAny_dictEntries hob hdb ?_)
  rw [if_neg (by simp)]
  refine wpAny_bind (wpAny_dictEpoch hoa hda ?_)
  refine wpAny_bind ?_
  rw [Std.Legacy.Range.forIn_eq_forIn_range']
  simp only [Std.Legacy.Range.size, Nat.sub_zero, Nat.add_sub_cancel, Nat.div_one]
  refine wpAny_forIn_list _ (fun rest q s' => s' = s ∧ q = (none, ()) ∧ ∃ i, rest = List.range' i (es'.size - i) ∧ i ≤ es'.size) _ ?_ ?_ _ _ ⟨rfl, rfl, 0, by simp, Nat.zero_le _⟩
  · rintro x rest q s' ⟨rfl, rfl, i, hr, hi⟩
    have hlt : i < es'.size := by
      rcases Nat.lt_or_ge i es'.size with h | h
      · exact h
      · rw [Nat.sub_eq_zero_of_le h] at hr; simp at hr
    obtain ⟨rfl, hrest⟩ : x = i ∧ rest = List.range' (i + 1) (es'.size - (i + 1)) := by
      have e : es'.size - i = (es'.size - (i + 1)) + 1 := by omega
      rw [e, List.range'_succ] at hr
      injection hr with h1 h2
      exact ⟨h1, h2⟩
    refine wpAny_bind (wpAny_dictEntries hoa hda ?_)
    rw [Array.getElem?_eq_getElem hlt]
    have hx : x < xs.length := by rw [← hsz]; exact hlt
    have hent : es'[x] = entryOfKey (TKd prog w) xs[x] := by
      have : es'.toList[x]? = some (entryOfKey (TKd prog w) xs[x]) := by rw [he, List.getElem?_map, List.getElem?_eq_getElem hx]; rfl
      rw [Array.getElem?_toList, Array.getElem?_eq_getElem hlt] at this
      exact Option.some.inj this
    have hkx := (hk xs[x] (List.getElem_mem hx)).isKey (prog := prog) (w := w) N
    have hxx : xs[x]? = some (xs[x].1, xs[x].2) := List.getElem?_eq_getElem hx
    show wpAny _ _ (holding [es'[x].key, es'[x].val] _ >>= _) _ _ _
    refine wpAny_bind (wpAny_holding (wpAny_bind ?_))
    rw [hent]
    refine wpAny_dictFind_heap (knd := TKd prog w) hu hkx hob hdb he (fun y hy => (hk y hy).isKey N) hn (fun q => absurd hxx (q x _)) fun j p hj => ?_
    obtain rfl : j = x := idxH_unique hn hj hxx
    refine wpAny_bind (wpAny_dictEntries hob hdb ?_)
    rw [Array.getElem?_eq_getElem hlt]
    show wpAny _ _ (holding [es'[j].val] _) _ _ _
    rw [hent]
    obtain ⟨c, hc⟩ := hv xs[j] (List.getElem_mem hx)
    refine wpAny_holding (eqBool_refl (a := c) hc ?_)
    show wpAny _ _ (if (!true) = true then _ else _) _ _ _
    rw [if_neg (by decide)]
    refine wpAny_bind (wpAny_dictEpoch hoa hda ?_)
    rw [if_neg (by simp)]
    exact wpAny_pure ⟨rfl, rfl, j + 1, hrest, hlt⟩
  · rintro q s' ⟨rfl, rfl, i, hr, hi⟩
    exact wpAny_pure h
theorem td_eq {a b : Addr} {oa ob : Obj} {Q : Value → Shared → Prop} (N : News h₀ L s.heap news) (ha : (a == sysModules) = false) (hb : (b == sysModules) = false) (ma : (a, oa) ∈ news) (mb : (b, ob) ∈ news) (da : IsTD prog w oa xs) (db : IsTD prog w ob xs) (hk : TDKeys news xs) (hv : ∀ x ∈ xs, ∃ c, x.2.2 = .ref c) (hu : A.units + 1 < cLine)
    (h : Q (.bool true) s) : wpAny (model prog w) A (compareOp .Eq (.ref a) (.ref b)) Q E s := by
  have hTa : s.TypeIs (.ref a) "dict" := ⟨_, (N _ ma).1, da.1.1⟩
  have hTb : s.TypeIs (.ref b) "dict" := ⟨_, (N _ mb).1, db.1.1⟩
  refine wpAny_richCompare_same_room (op := .Eq) hTa hTb PySem.F.slot_dict_eq (wpAny_call_entry PySem.F.slot_dict_eq hTa PySem.F.entry_dict_eq ?_ (PySem.F.args_dict_eq_2 _ _)) (Nat.lt_of_succ_lt hu)
  show wpAny _ _ (Builtin.Dict.dictSlotArgs "__eq__" ⟨[.ref a, .ref b], []⟩ >>= _) _ _ s
  refine wpAny_bind ?_
  unfold Builtin.Dict.dictSlotArgs
  refine wpAny_bind (wpAny_notOrdered_dict hTa ?_)
  show wpAny _ _ (pure (Value.ref a, Value.ref b)) _ _ s
  refine wpAny_pure ?_
  refine wpAny_bind (wpAny_isInstance (T := "dict") hTb PySem.F.sub_dict_dict ?_)
  simp only [Bool.not_true, Bool.false_eq_true, if_false]
  refine wpAny_bind (wpAny_pure (wpAny_bind (wpAny_pure ?_)))
  refine wpAny_bind (same_td N ha hb ma mb da db hk hv (by rw [units_in1]; exact hu) ?_)
  exact wpAny_pure ⟨_, rfl, (fun x => nomatch x), h⟩
theorem td_ne {a b : Addr} {oa ob : Obj} {Q : Value → Shared → Prop} (N : News h₀ L s.heap news) (ha : (a == sysModules) = false) (hb : (b == sysModules) = false) (ma : (a, oa) ∈ news) (mb : (b, ob) ∈ news) (da : IsTD prog w oa xs) (db : IsTD prog w ob xs) (hk : TDKeys news xs) (hv : ∀ x ∈ xs, ∃ c, x.2.2 = .ref c) (hu : A.units + 1 < cLine)
    (h : Q (.bool false) s) : wpAny (model prog w) A (compareOp .NotEq (.ref a) (.ref b)) Q E s := by
  have hTa : s.TypeIs (.ref a) "dict" := ⟨_, (N _ ma).1, da.1.1⟩
  have hTb : s.TypeIs (.ref b) "dict" := ⟨_, (N _ mb).1, db.1.1⟩
  refine wpAny_richCompare_same_room (op := .NotEq) hTa hTb PySem.F.slot_dict_ne (wpAny_call_entry PySem.F.slot_dict_ne hTa PySem.F.entry_dict_ne ?_ (PySem.F.args_dict_ne_2 _ _)) (Nat.lt_of_succ_lt hu)
  show wpAny _ _ (Builtin.Dict.dictSlotArgs "__ne__" ⟨[.ref a, .ref b], []⟩ >>= _) _ _ s
  refine wpAny_bind ?_
  unfold Builtin.Dict.dictSlotArgs
  refine wpAny_bind (wpAny_notOrdered_dict hTa ?_)
  show wpAny _ _ (pure (Value.ref a, Value.ref b)) _ _ s
  refine wpAny_pure ?_
  refine wpAny_bind (wpAny_isInstance (T := "dict") hTb PySem.F.sub_dict_dict ?_)
  simp only [Bool.not_true, Bool.false_eq_true, if_false]
  refine wpAny_bind (wpAny_pure (wpAny_bind (wpAny_pure ?_)))
  refine wpAny_bind (same_td N ha hb ma mb da db hk hv (by rw [units_in1]; exact hu) ?_)
  exact wpAny_pure ⟨_, rfl, (fun x => nomatch x), h⟩
end
end
end Mine
-- LU
namespace Mine
section

theorem lia_LU : True := by
  k_with_none
  k_with "my omega" => ((fail_if_success (fail_if_success omega (config := {}))); lia)
  trivial
/-- the keys that a scan wants, in the order of its components -/
noncomputable def addK (K : List (List Int)) (k : List Int) : List (List Int) := if k ∈ K then K else K ++ [k]
noncomputable def stepK (p q : Prop) [Decidable p] [Decidable q] (dc ac : Int) (K : List (List Int)) : List (List Int) :=
  let K1 := if p then addK K [0, dc] else K
  if q then addK K1 [1, ac] else K1
noncomputable def keysN (st en hi : Int) (dcs acs : List Int) : Nat → List (List Int)
  | 0 => []
  | n + 1 => stepK (st = 0 ∧ hi = 0) (en > 0) (dcs.getD n 0) (acs.getD n 0) (keysN st en hi dcs acs n)
theorem KeysAre.push {led : List (Addr × Obj)} {arr : Array Value} {K : List (List Int)} {k : List Int} {v : Value} (h : KeysAre led arr.toList K) (hk : KeyAt led k v) : KeysAre led (arr.push v).toList (K ++ [k]) := by
  rw [Array.toList_push]; exact h.snoc hk
theorem notin_keysA {prog : Program} {w : World} {A : Around} {E : Value → Shared → Prop} {s : Shared} {h₀ : Heap} {L : Addr} {led : List (Addr × Obj)} {K : List (List Int)} {l : Addr} {n : Nat} {arr : Array Value} {k : List Int} {x : Value} {Q : Value → Shared → Prop}
    (N : News h₀ L s.heap led) (hl : (l, W.listOf arr n) ∈ led) (hk : KeysAre led arr.toList K) (hx : KeyAt led k x) (hu : A.units + 1 < cLine) (h : Q (.bool (!decide (k ∈ K))) s) :
    wpAny (model prog w) A (compareOp .NotIn x (.ref l)) Q E s := by
  have e : arr = arr.toList.toArray := by simp
  rw [e] at hl
  exact notin_keys N hl hk hx hu h
theorem addK_len (K : List (List Int)) (k : List Int) : (addK K k).length ≤ K.length + 1 := by unfold addK; split <;> simp
theorem stepK_len (p q : Prop) [Decidable p] [Decidable q] (dc ac : Int) (K : List (List Int)) : (stepK p q dc ac K).length ≤ K.length + 2 := by
  unfold stepK
  have h1 := addK_len K [0, dc]
  have h2 := addK_len K [1, ac]
  have h3 := addK_len (addK K [0, dc]) [1, ac]
  dsimp only
  split <;> split <;> omega
theorem keysN_len (st en hi : Int) (dcs acs : List Int) : ∀ n, (keysN st en hi dcs acs n).length ≤ 2 * n
  | 0 => Nat.le_refl _
  | n + 1 => by
    have h1 := keysN_len st en hi dcs acs n
    have h2 := stepK_len (st = 0 ∧ hi = 0) (en > 0) (dcs.getD n 0) (acs.getD n 0) (keysN st en hi dcs acs n)
    show (stepK _ _ _ _ _).length ≤ _
    omega
theorem addK_nd {K : List (List Int)} {k : List Int} (h : K.Nodup) : (addK K k).Nodup := by
  unfold addK
  split
  · exact h
  · rename_i hk
    rw [List.nodup_append]
    exact ⟨h, by simp, fun x hx y hy => by rw [List.mem_singleton.mp hy]; exact fun e => hk (e ▸ hx)⟩
theorem keysN_nd (st en hi : Int) (dcs acs : List Int) : ∀ n, (keysN st en hi dcs acs n).Nodup
  | 0 => List.nodup_nil
  | n + 1 => by
    have h1 := keysN_nd st en hi dcs acs n
    show (stepK _ _ _ _ _).Nodup
    unfold stepK
    dsimp only
    split <;> split <;> first | exact h1 | exact addK_nd h1 | exact addK_nd (addK_nd h1)
theorem addK_mem {K : List (List Int)} {k x : List Int} (h : x ∈ addK K k) : x ∈ K ∨ x = k := by
  unfold addK at h
  split at h
  · exact .inl h
  · rcases List.mem_append.mp h with h | h
    · exact .inl h
    · exact .inr (List.mem_singleton.mp h)
theorem keysN_mem {st en hi : Int} {dcs acs : List Int} {b : Int} (hd : ∀ x ∈ dcs, 0 ≤ x ∧ x < b) (ha : ∀ x ∈ acs, 0 ≤ x ∧ x < b) : ∀ {n : Nat}, n ≤ dcs.length → n ≤ acs.length → ∀ k ∈ keysN st en hi dcs acs n, ∃ c v : Int, k = [c, v] ∧ (c = 0 ∨ c = 1) ∧ 0 ≤ v ∧ v < b
  | 0, _, _, k, hk => nomatch hk
  | n + 1, h1, h2, k, hk => by
    have ih := keysN_mem (st := st) (en := en) (hi := hi) hd ha (n := n) (by omega) (by omega)
    have d1 : dcs.getD n 0 ∈ dcs := by
      rw [List.getD_eq_getElem?_getD, List.getElem?_eq_getElem (by omega)]; exact List.getElem_mem _
    have a1 : acs.getD n 0 ∈ acs := by
      rw [List.getD_eq_getElem?_getD, List.getElem?_eq_getElem (by omega)]; exact List.getElem_mem _
    have kd : ∃ c v : Int, ([0, dcs.getD n 0] : List Int) = [c, v] ∧ (c = 0 ∨ c = 1) ∧ 0 ≤ v ∧ v < b := ⟨0, _, rfl, .inl rfl, hd _ d1⟩
    have ka : ∃ c v : Int, ([1, acs.getD n 0] : List Int) = [c, v] ∧ (c = 0 ∨ c = 1) ∧ 0 ≤ v ∧ v < b := ⟨1, _, rfl, .inr rfl, ha _ a1⟩
    have hk' : k ∈ stepK (st = 0 ∧ hi = 0) (en > 0) (dcs.getD n 0) (acs.getD n 0) (keysN st en hi dcs acs n) := hk
    unfold stepK at hk'
    dsimp only at hk'
    split at hk' <;> split at hk'
    · rcases addK_mem hk' with h | rfl
      · rcases addK_mem h with h | rfl
        · exact ih k h
        · exact kd
      · exact ka
    · rcases addK_mem hk' with h | rfl
      · exact ih k h
      · exact ka
    · rcases addK_mem hk' with h | rfl
      · exact ih k h
      · exact kd
    · exact ih k hk'
end
end Mine
-- LU2
namespace Mine
section
open PyProof.Rows.LCg
abbrev scanDict (w : World) (pl dcl acl : Addr) (st en hi lo : Int) (t1 t2 t3 t4 t5 t6 t7 t8 t9 t10 t11 : Tok) : Obj := dictOf [⟨PyData.keyHash w.params (Str.ofString "places"), .str (Str.ofString "places") t1, .ref pl⟩, ⟨PyData.keyHash w.params (Str.ofString "dc_slots"), .str (Str.ofString "dc_slots") t2, .ref dcl⟩,
  ⟨PyData.keyHash w.params (Str.ofString "ac_slots"), .str (Str.ofString "ac_slots") t3, .ref acl⟩, ⟨PyData.keyHash w.params (Str.ofString "start"), .str (Str.ofString "start") t4, .int st t5⟩, ⟨PyData.keyHash w.params (Str.ofString "end"), .str (Str.ofString "end") t6, .int en t7⟩,
  ⟨PyData.keyHash w.params (Str.ofString "high"), .str (Str.ofString "high") t8, .int hi t9⟩, ⟨PyData.keyHash w.params (Str.ofString "low"), .str (Str.ofString "low") t10, .int lo t11⟩] 7
structure US where
  arr : Array Value
  n : Nat
  fz : List (Addr × Obj)
noncomputable def UFacts (st en hi : Int) (dcs acs : List Int) (D : Addr) (news : List (Addr × Obj)) (i : Nat) (c : US) : Prop :=
  KeysAre c.fz c.arr.toList (keysN st en hi dcs acs i) ∧ ∀ p ∈ c.fz, D < p.1 ∧ ∀ q ∈ news, q.1 < p.1
theorem list_ints {prog : Program} {w : World} {A : Around} {E : Value → Shared → Prop} {s : Shared} {h₀ : Heap} {L : Addr} {led : List (Addr × Obj)} {l : Addr} {vs : List Value} {ns : List Int} {n : Nat} {value slice : Expr} {k : Int} {u : Tok} {Q : Value → Shared → Prop} (N : News h₀ L s.heap led) (hl : (l, W.listOf vs.toArray n) ∈ led) (hi : IntsAre vs ns)
    (h0 : 0 ≤ k) (hk : k < (ns.length : Int)) (hfit : ns.length < 2 ^ 62) (h : ∀ u', Q (.int (ns.getD k.toNat 0) u') s)
    (hs : subscripted slice false (.ref l) (.int k u) = operate [.ref l, .int k u] (getItem (.ref l) (.int k u)) := by with_unfolding_all rfl) :
    wpAny (model prog w) A (subscriptTail value slice (.ref l) (.int k u)) Q E s := by
  have e := hi.length
  refine item_any (N.isList hl) h0 (by omega) (by omega) (fun v hv _ => ?_) hs
  obtain ⟨t, rfl⟩ := hi.int_at _ _ hv
  exact h t
theorem step_fold {p q : Prop} [Decidable p] [Decidable q] {dc ac : Int} {K : List (List Int)} : stepK p q dc ac K = ((if p then [[0, dc]] else []) ++ (if q then [[1, ac]] else [])).foldl addK K := by
  unfold stepK
  by_cases h1 : p <;> by_cases h2 : q <;> simp [h1, h2]
theorem fold_len : ∀ (wk K : List (List Int)), (wk.foldl addK K).length ≤ K.length + wk.length
  | [], K => Nat.le_refl _
  | k :: wk, K => by
    have h1 := fold_len wk (addK K k)
    have h2 := addK_len K k
    rw [List.foldl_cons, List.length_cons]
    omega
theorem one_len {p : Prop} [Decidable p] {k : List Int} : (if p then [k] else [] : List (List Int)).length ≤ 1 := by split <;> simp
theorem news_rot {h₀ h : Heap} {L : Addr} {t a b c : Addr × Obj} {r : List (Addr × Obj)} (N : News h₀ L h (t :: a :: b :: c :: r)) : News h₀ L h (a :: b :: c :: t :: r) := fun p hp => N p (by
  simp only [List.mem_cons] at hp ⊢
  rcases hp with h | h | h | h | h <;> simp [h])
end
end Mine
local macro_rules | `(tactic| walk_at "my keys") => `(tactic| first | (refine' KeysAre.push ?y1 ?y2; (case y1 => walk_at "my keys"); (case y2 => walk_at "my key")) | (refine' KeysAre.mono ?y3 ?y4; (case y4 => assumption); (case y3 => k_extra "my subA")))
local macro_rules | `(tactic| walk_at "my m28") => `(tactic| (k_here; k_dflt (refine' notin_keysA ?k1 ?k2 ?k3 ?k4 ?k5 ?_; (case k1 => k_asm); (case k2 => k_mem); (case k3 => walk_at "my keys"); (case k4 => walk_at "my key"); (case k5 => ktr_units))))
local macro_rules | `(tactic| walk_at "my t29") => `(tactic| (intro h' F' N'; (try k_sweep)))
namespace Mine
section
open PyProof.Rows.LCg
section used
theorem used_core {w : World} {mean : ExcName → Option Value} {mg mb : Str → Option Value} {news : List (Addr × Obj)} {sc ds pl dcl acl : Addr} {st en hi lo : Int} {q1 q2 q3 q4 q5 q6 q7 q8 q9 q10 q11 : Tok} {vsp vdc vac : List Value} {np nd na n : Nat} {dcs acs : List Int}
   {dp un : Nat} {gd : Option (List Code)} {cn : Str} {cs : Scope} {a : Addr} {ccd : Value} {cl : List (Str × Addr)} {outer : List Env} {A₀ : Around} {base h₀ : Heap} {L : Addr} {m : Str → Option Value} {s : Shared} {Q E : Value → Shared → Prop}
    (B : Below A₀ base outer h₀) (F : Fr h₀ L s.heap m) (X : (Mine.hd.heap_39 w.params).In h₀) (N : News h₀ L s.heap news) (T : Top Mine.hd.view_39 (looseW Mine.hd.view_39 []) mean mg mb h₀)
    (hk : cs.kind = .function) (m1 : (sc, instObj 248 ds) ∈ news) (m2 : (ds, scanDict w pl dcl acl st en hi lo q1 q2 q3 q4 q5 q6 q7 q8 q9 q10 q11) ∈ news) (m3 : (pl, W.listOf vsp.toArray np) ∈ news) (m4 : (dcl, W.listOf vdc.toArray nd) ∈ news) (m5 : (acl, W.listOf vac.toArray na) ∈ news)
    (hdc : IntsAre vdc dcs) (hac : IntsAre vac acs) (l1 : vsp.length = n) (l2 : dcs.length = n) (l3 : acs.length = n) (hn : n ≤ 3)
    (hdp : dp + 4 < recursionLimit) (hun : un + 30 < cLine)
    (hret : ∀ (D : Addr) (vs : List Value) (c : Nat) (fz : List (Addr × Obj)) (h' : Heap) (tk' : Nat), Fr h₀ L h' m → News h₀ L h' ((D, W.listOf vs.toArray c) :: (fz ++ news)) → KeysAre fz vs (keysN st en hi dcs acs n) → (∀ p ∈ (D, W.listOf vs.toArray c) :: fz, ∀ q ∈ news, q.1 < p.1) → (∀ p ∈ fz, D < p.1) → Q (.ref D) { s with heap := h', toks := tk' }) :
      wpAny (model Challenge.rw_ok0140_01.row.prog w) (ktrTop dp un gd cn cs L a ccd cl outer) (call (.ref 168) [.ref sc]) Q E s := by
  k_with_none
  k_with "my lt" => first | assumption | exact And.left (by assumption) | exact And.left (And.right (by assumption)) | exact And.right (by assumption) | exact And.left (And.right (And.right (by assumption))) | exact And.right (And.right (by assumption)) | exact And.left (And.right (And.right (And.right (by assumption)))) | exact And.right (And.right (And.right (by assumption))) | exact And.left (And.right (And.right (And.right (And.right (by assumption))))) | exact And.right (And.right (And.right (And.right (by assumption)))) | exact And.left (And.right (And.right (And.right (And.right (And.right (by assumption)))))) | exact And.right (And.right (And.right (And.right (And.right (by assumption))))) | exact And.left (And.right (And.right (And.right (And.right (And.right (And.right (by assumption))))))) | exact And.right (And.right (And.right (And.right (And.right (And.right (by assumption)))))) | exact And.left (And.right (And.right (And.right (And.right (And.right (And.right (And.right (by assumption)))))))) | exact And.right (And.right (And.right (And.right (And.right (And.right (And.right (by assumption))))))) | exact And.left (And.right (And.right (And.right (And.right (And.right (And.right (And.right (And.right (by assumption))))))))) | exact And.right (And.right (And.right (And.right (And.right (And.right (And.right (And.right (by assumption)))))))) | fail
  k_with "my kne" => first | assumption | (refine Ne.symm ?_; assumption) | (refine neN ?_; (try dsimp only); first | (refine Nat.ne_of_lt ?_; k_extra "my lt") | (refine Nat.ne_of_gt ?_; k_extra "my lt") | omega) | fail
  k_with "my room" => first | exact upR 0 (by assumption) rfl | exact upR 1 (by assumption) rfl | exact upR 2 (by assumption) rfl | exact upR 3 (by assumption) rfl | exact upR 4 (by assumption) rfl | exact upR 5 (by assumption) rfl | exact upR 6 (by assumption) rfl | exact upR 7 (by assumption) rfl | exact upR 8 (by assumption) rfl | fail
  k_with "my units" => first | exact upR 0 (by assumption) rfl | exact upR 1 (by assumption) rfl | exact upR 2 (by assumption) rfl | exact upR 3 (by assumption) rfl | exact upR 4 (by assumption) rfl | exact upR 5 (by assumption) rfl | exact upR 6 (by assumption) rfl | exact upR 7 (by assumption) rfl | exact upR 8 (by assumption) rfl | exact upR 9 (by assumption) rfl | exact upR 10 (by assumption) rfl | exact upR 11 (by assumption) rfl | exact upR 12 (by assumption) rfl | fail
  k_with "my sub" => first | exact List.forall_mem_nil _ | assumption | exact List.forall_mem_cons.mpr ⟨(by k_mem), (by k_extra "my sub")⟩ | (intro p9 hp9; repeat (first | exact hp9 | refine List.Mem.tail _ ?_))
  k_with "my ne" => first | exact List.forall_mem_nil _ | assumption | exact List.forall_mem_cons.mpr ⟨(by first | assumption | k_ne), (by k_extra "my ne")⟩
  k_with "my subA" => (intro p9 hp9; repeat' (first | exact hp9 | exact List.mem_append_left _ hp9 | exact List.mem_append_right _ hp9 | refine List.Mem.tail _ ?_))
  k_with "my memB" => first | assumption | exact List.Mem.head _ | (refine List.Mem.tail _ ?_; k_extra "my memB") | (refine List.mem_append_left _ ?_; k_extra "my memB") | (refine List.mem_append_right _ ?_; k_extra "my memB")
  k_with "my leafB" => first | assumption | (refine List.Mem.tail _ ?_; k_extra "my leafB") | (refine List.mem_append_left _ ?_; k_extra "my leafB") | (refine List.mem_append_right _ ?_; k_extra "my leafB")
  k_with "my subB" => first | exact List.forall_mem_nil _ | exact List.forall_mem_cons.mpr ⟨(by k_extra "my memB"), (by k_extra "my subB")⟩ | exact List.forall_mem_append.mpr ⟨(by k_extra "my subB"), (by k_extra "my subB")⟩ | (intro p9 hp9; k_extra "my leafB")
  k_with "my mem" => first | assumption | exact List.Mem.head _ | (refine' List.Mem.tail _ ?_; k_mem)
  k_with "pyIter ref" => (refine halt ?_)
  k_with "execs cons" => (k_here; dsimp only; k_gentoks)
  k_with "execs nil" => (k_here; dsimp only; k_gentoks)
  k_with "call type:range" => walk_at "my m7"
  k_with "call builtin:len" => (k_here; k_dflt (refine' len_any (by exact News.isList (by k_asm) (by k_mem)) (by omega) ?_; k_whole))
  k_with "newTuple" => (k_here; k_dflt (refine' kup_newTuple (by k_asm) (by k_asm) ?_ (by kmk_size)); walk_at "my t8")
  k_with "subscriptTail" => (k_here; (with_reducible show wpAny _ _ (subscriptTail _ _ (Value.ref _) (Value.int _ _)) _ _ _); (with_unfolding_all refine' list_ints (by k_asm) (by k_mem) (by assumption) (by omega) (by omega) (by omega) ?_); walk_at "my t9")
  k_with "my key" => (first | (refine' KeyAt.mono (by assumption) (by k_extra "my subA")) | exact ⟨_, _, rfl, by k_mem, .cons _ _ (.cons _ _ .nil)⟩)
  k_with "compareOp NotIn ref ref" => walk_at "my m28"
  k_with "execs cons" => ((with_reducible show wpAny _ _ (execs (Stmt.If _ _ _ _ :: _ :: _) _) _ _ _); refine halt ?_)
  k_with "call builtin:list.append" => (k_here; (with_reducible show wpAny _ _ (call (Value.builtin _) [Value.ref _, _]) _ _ _); k_dflt (refine' append_K (by k_asm) (by k_asm) (by k_upd) ?_ (by first | size_fits | (rw [sizeLine_eq]; omega)); k_whole); walk_at "my t29")
  k_with "my omega" => ((fail_if_success (fail_if_success omega (config := {}))); lia)
  refine wpAny_call ?_
  k_dflt cell_enter
  k_steps
  rename_i g9 L9 h9 FG9 B9 X9 T9 D h8 lD h7 h6 tk8 t1 u1 v1 R1 F1 N1 hk1
  refine Halt.go ?_
  clear hk1
  have nD : ∀ p ∈ news, p.1 ≠ D := fun p hp => Nat.ne_of_lt (lD p hp)
  refine' range_S (σ := US) (n := n) (fun _ c => (D, W.listOf c.arr c.n) :: (c.fz ++ news)) (fun _ _ => []) (UFacts st en hi dcs acs D news) [Str.ofString "at", Str.ofString "wanted", Str.ofString "key"] ⟨#[], 0, []⟩ rfl R1 (small_one (by omega) (by omega) (by omega) (by omega)) (by rw [rangeSize_nat]; omega) F1 N1 ⟨.nil, fun p hp => nomatch hp⟩ (List.forall_mem_nil _) ?_ ?_
  · clear R1 F1 N1
    intro i c t u I io h tk' hi2 hf hI F3 N3
    obtain ⟨hkeys, hfz⟩ := hf
    have n1 : (sc, instObj 248 ds) ∈ c.fz ++ news := List.mem_append_right _ m1
    have n2 : (ds, scanDict w pl dcl acl st en hi lo q1 q2 q3 q4 q5 q6 q7 q8 q9 q10 q11) ∈ c.fz ++ news := List.mem_append_right _ m2
    have n4 : (dcl, W.listOf vdc.toArray nd) ∈ c.fz ++ news := List.mem_append_right _ m4
    have n5 : (acl, W.listOf vac.toArray na) ∈ c.fz ++ news := List.mem_append_right _ m5
    have offD : ∀ p ∈ c.fz ++ news, p.1 ≠ D := fun p hp => (List.mem_append.mp hp).elim (fun q => Nat.ne_of_gt (hfz p q).1) (nD p)
    simp only [List.forall_mem_cons] at hI
    obtain ⟨hI1, hI2⟩ := hI
    replace hI1 := neN hI1
    k_steps
    rename_i Wl h2 F4 N4 l4 h5 F5 N5
    refine Halt.go ?_
    have ei : (0 + (i : Int)).toNat = i := by omega
    have offW : ∀ p ∈ c.fz ++ news, p.1 ≠ Wl := fun p hp => Nat.ne_of_lt (allLt_iff.mp l4.2.2 p hp)
    have offWn : ∀ p ∈ news, p.1 ≠ Wl := fun p hp => offW p (List.mem_append_right _ hp)
    have offIn : ∀ p ∈ news, p.1 ≠ I := fun p hp => hI2 p (List.mem_append_right _ hp)
    have wI : Wl ≠ I := Nat.ne_of_gt l4.1
    have wD : Wl ≠ D := Nat.ne_of_gt l4.2.1
    refine execs_cut (by assumption) (fun h' => ∃ (arr : Array Value) (wn : Nat) (fz : List (Addr × Obj)), News g9 L9 h' ((Wl, W.listOf arr wn) :: (I, io) :: (D, W.listOf c.arr c.n) :: (fz ++ news)) ∧ KeysAre fz arr.toList (if st = 0 ∧ hi = 0 then [[0, dcs.getD i 0]] else []) ∧ KeysAre fz c.arr.toList (keysN st en hi dcs acs i) ∧ ∀ p ∈ fz, D < p.1 ∧ p.1 ≠ I ∧ p.1 ≠ Wl ∧ ∀ q ∈ news, q.1 < p.1) ?_ ?_
    · have hfz0 : ∀ p ∈ c.fz, D < p.1 ∧ p.1 ≠ I ∧ p.1 ≠ Wl ∧ ∀ q ∈ news, q.1 < p.1 := fun p hp => ⟨(hfz p hp).1, hI2 p (List.mem_append_left _ hp), offW p (List.mem_append_left _ hp), (hfz p hp).2⟩
      k_steps
      · rename Fr g9 L9 _ _ => FY
        rename News g9 L9 _ _ => NY
        rename Wl < _ ∧ I < _ ∧ _ => lT
        rw [ei] at NY
        refine CutPost.intro FY ⟨_, _, (_, _) :: c.fz, news_rot NY, ?_, hkeys.mono fun p hp => .tail _ hp, List.forall_mem_cons.mpr ⟨⟨lT.2.2.1, Nat.ne_of_gt lT.2.1, Nat.ne_of_gt lT.1, fun q hq => allLt_iff.mp lT.2.2.2 q (List.mem_append_right _ hq)⟩, hfz0⟩⟩
        rw [if_pos (by omega)]
        refine KeysAre.push (arr := #[]) (K := []) .nil ?_
        exact ⟨_, _, rfl, .head _, .cons _ _ (.cons _ _ .nil)⟩
      all_goals
        rename Fr g9 L9 _ _ => FY
        rename News g9 L9 _ _ => NY
        refine CutPost.intro FY ⟨_, _, c.fz, NY, ?_, hkeys, hfz0⟩
        rw [if_neg (by omega)]
        exact .nil
    · (try clear F3); (try clear N3); (try clear F4); (try clear N4); (try clear F5); (try clear N5)
      clear n1 n2 n4 n5 offD offW hkeys hfz hI2
      rintro hX tkX FX ⟨arr, wn, fz, NX, k1, k2, hfz⟩
      have z1 : arr.size ≤ 2 := by
        have e := k1.len
        rw [Array.length_toList] at e
        have e2 := one_len (p := st = 0 ∧ hi = 0) (k := [0, dcs.getD i 0])
        omega
      have n1 : (sc, instObj 248 ds) ∈ fz ++ news := List.mem_append_right _ m1
      have n2 : (ds, scanDict w pl dcl acl st en hi lo q1 q2 q3 q4 q5 q6 q7 q8 q9 q10 q11) ∈ fz ++ news := List.mem_append_right _ m2
      have n5 : (acl, W.listOf vac.toArray na) ∈ fz ++ news := List.mem_append_right _ m5
      have offD : ∀ p ∈ fz ++ news, p.1 ≠ D := fun p hp => (List.mem_append.mp hp).elim (fun q => Nat.ne_of_gt (hfz p q).1) (nD p)
      have offW : ∀ p ∈ fz ++ news, p.1 ≠ Wl := fun p hp => (List.mem_append.mp hp).elim (fun q => (hfz p q).2.2.1) (offWn p)
      k_steps
      refine Halt.go ?_
      refine execs_cut (by assumption) (fun h' => ∃ (arr : Array Value) (wn : Nat) (fz : List (Addr × Obj)), News g9 L9 h' ((Wl, W.listOf arr wn) :: (I, io) :: (D, W.listOf c.arr c.n) :: (fz ++ news)) ∧ KeysAre fz arr.toList ((if st = 0 ∧ hi = 0 then [[0, dcs.getD i 0]] else []) ++ (if en > 0 then [[1, acs.getD i 0]] else [])) ∧ KeysAre fz c.arr.toList (keysN st en hi dcs acs i) ∧ ∀ p ∈ fz, D < p.1 ∧ p.1 ≠ I ∧ p.1 ≠ Wl ∧ ∀ q ∈ news, q.1 < p.1) ?_ ?_
      · k_steps
        · rename Fr g9 L9 _ _ => FY
          rename News g9 L9 _ _ => NY
          rename Wl < _ ∧ I < _ ∧ _ => lT
          rw [ei] at NY
          refine CutPost.intro FY ⟨_, _, (_, _) :: fz, news_rot NY, ?_, k2.mono fun p hp => .tail _ hp, List.forall_mem_cons.mpr ⟨⟨lT.2.2.1, Nat.ne_of_gt lT.2.1, Nat.ne_of_gt lT.1, fun q hq => allLt_iff.mp lT.2.2.2 q (List.mem_append_right _ hq)⟩, hfz⟩⟩
          rw [if_pos (show en > 0 by omega)]
          refine KeysAre.push (k1.mono fun p hp => .tail _ hp) ?_
          exact ⟨_, _, rfl, .head _, .cons _ _ (.cons _ _ .nil)⟩
        · rename Fr g9 L9 _ _ => FY
          rename News g9 L9 _ _ => NY
          refine CutPost.intro FY ⟨_, _, fz, NY, ?_, k2, hfz⟩
          rw [if_neg (show ¬ en > 0 by omega), List.append_nil]
          exact k1
      · (try clear FX); (try clear NX)
        clear n1 n2 n5 offD offW k1 k2 hfz
        rintro hX2 tkX2 FX ⟨arr2, wn2, fz2, NX, k1, k2, hfz⟩
        have hstep : stepK (st = 0 ∧ hi = 0) (en > 0) (dcs.getD i 0) (acs.getD i 0) (keysN st en hi dcs acs i) = _ := step_fold
        have hw2 : ((if st = 0 ∧ hi = 0 then [[0, dcs.getD i 0]] else []) ++ (if en > 0 then [[1, acs.getD i 0]] else [])).length ≤ 2 := by
          have e1 := one_len (p := st = 0 ∧ hi = 0) (k := [0, dcs.getD i 0])
          have e2 := one_len (p := en > 0) (k := [1, acs.getD i 0])
          rw [List.length_append]; omega
        generalize ((if st = 0 ∧ hi = 0 then [[0, dcs.getD i 0]] else []) ++ (if en > 0 then [[1, acs.getD i 0]] else [])) = wkL at k1 hstep hw2
        have offD : ∀ p ∈ fz2 ++ news, p.1 ≠ D := fun p hp => (List.mem_append.mp hp).elim (fun q => Nat.ne_of_gt (hfz p q).1) (nD p)
        have offI : ∀ p ∈ fz2 ++ news, p.1 ≠ I := fun p hp => (List.mem_append.mp hp).elim (fun q => (hfz p q).2.1) (offIn p)
        k_steps
        refine Halt.go ?_
        rename Fr g9 L9 _ _ => FW
        rename News g9 L9 _ _ => NW
        have hwl : arr2.toList.length = _ := k1.len
        refine' list_S (σ := Array Value × Nat) (l := Wl) (ol := W.listOf arr2 wn2) (vs := arr2.toList) (nl := wn2) (fun _ c' => (Wl, W.listOf arr2 wn2) :: (I, io) :: (D, W.listOf c'.1 c'.2) :: (fz2 ++ news)) (fun _ _ => []) (fun j c' => KeysAre fz2 c'.1.toList ((wkL.take j).foldl addK (keysN st en hi dcs acs i))) [Str.ofString "key"] (c.arr, c.n) (by simp) (fun _ _ => .head _) rfl FW NW k2 (List.forall_mem_nil _) ?_ ?_
        · (try clear FW); (try clear NW); (try clear FX); (try clear NX)
          intro j v c' u2 J jo h13 tk13 hv hf2 hJ F6 N6
          have hjl : j < wkL.length := by rw [← hwl]; exact (List.getElem?_eq_some_iff.mp hv).1
          have hkey := k1.get j hjl
          have e1 : arr2.toList.getD j Value.none = v := by rw [List.getD_eq_getElem?_getD, hv]; rfl
          have e2 : wkL.getD j [] = wkL[j] := by rw [List.getD_eq_getElem?_getD, List.getElem?_eq_getElem hjl]; rfl
          rw [e1, e2] at hkey
          have etk : wkL.take (j + 1) = wkL.take j ++ [wkL[j]] := by simp
          generalize wkL[j] = k at *
          obtain ⟨a9, us9, rfl, hm9, hi9⟩ := id hkey
          simp only [List.forall_mem_cons] at hJ
          obtain ⟨hJ1, hJ2, hJ3, hJ4⟩ := hJ
          have zc : c'.1.size ≤ 100 := by
            have e := hf2.len
            rw [Array.length_toList] at e
            have e3 := fold_len (wkL.take j) (keysN st en hi dcs acs i)
            have e4 := keysN_len st en hi dcs acs i
            have e5 : (wkL.take j).length ≤ wkL.length := by rw [List.length_take]; omega
            omega
          replace hJ1 := neN hJ1; replace hJ2 := neN hJ2; replace hJ3 := neN hJ3
          k_steps
          · rename_i hmem
            refine' TurnPost.next F6 (nx := (Wl, W.listOf arr2 wn2) :: (I, io) :: (D, W.listOf c'.1 c'.2) :: (fz2 ++ news)) (cb_drop N6 (by k_extra "my sub")) (List.forall_mem_cons.mpr ⟨hJ1, List.forall_mem_cons.mpr ⟨hJ2, List.forall_mem_cons.mpr ⟨hJ3, hJ4⟩⟩⟩) ⟨c', rfl, ?fk, List.forall_mem_nil _, fun z hz => ?frz⟩
            case fk =>
              rw [etk, List.foldl_append]
              show KeysAre fz2 _ (addK _ k)
              rw [addK, if_pos hmem]; exact hf2
            case frz =>
              dsimp only
              (repeat' (with_reducible (refine off_if (ne_of_stored hz ?_) ?_)))
              all_goals first | rfl | exact mkFr_off hz rfl rfl rfl
          · rename_i hmem hA FA NA
            refine' TurnPost.next FA (nx := (Wl, W.listOf arr2 wn2) :: (I, io) :: (D, W.listOf (c'.1.push (.ref a9)) (c'.2 + 1)) :: (fz2 ++ news)) (cb_drop NA (by k_extra "my sub")) (List.forall_mem_cons.mpr ⟨hJ1, List.forall_mem_cons.mpr ⟨hJ2, List.forall_mem_cons.mpr ⟨hJ3, hJ4⟩⟩⟩) ⟨(c'.1.push (.ref a9), c'.2 + 1), rfl, ?fk, List.forall_mem_nil _, fun z hz => ?frz⟩
            case fk =>
              rw [etk, List.foldl_append]
              show KeysAre fz2 _ (addK _ k)
              rw [addK, if_neg hmem]; exact hf2.push hkey
            case frz =>
              dsimp only
              (repeat' (with_reducible (refine off_if (ne_of_stored hz ?_) ?_)))
              all_goals first | rfl | exact mkFr_off hz rfl rfl rfl
        · intro c' u2 h13 tk13 hf2 F6 N6
          rw [hwl, List.take_length, ← hstep] at hf2
          k_steps
          rename Fr g9 L9 _ _ => FZ
          rename News g9 L9 _ _ => NZ
          refine' TurnPost.next FZ (nx := (D, W.listOf c'.1 c'.2) :: (fz2 ++ news)) (cb_drop NZ (by k_extra "my sub")) (List.forall_mem_cons.mpr ⟨hI1, offI⟩) ⟨⟨c'.1, c'.2, fz2⟩, rfl, ⟨hf2, fun p hp => ⟨(hfz p hp).1, (hfz p hp).2.2.2⟩⟩, List.forall_mem_nil _, fun z hz => ?frz⟩
          case frz =>
            refine mkFr_off hz rfl rfl ?_
            dsimp only
            (repeat' (with_reducible (refine off_if (ne_of_stored hz ?_) ?_)))
            all_goals first | rfl | exact mkFr_off hz rfl rfl rfl
  · clear R1 F1 N1
    intro c u h tk' hf F3 N3
    obtain ⟨hkeys, hfz⟩ := hf
    k_steps
    rename_i kF kN kT kX
    exact hret D c.arr.toList c.n c.fz _ _ kF (by simpa using kN) hkeys (List.forall_mem_cons.mpr ⟨lD, fun p hp => (hfz p hp).2⟩) fun p hp => (hfz p hp).1
end used
end
end Mine
-- LM
namespace Mine
section
open PyProof.Rows.LCg
abbrev tabsDict (w : World) (qd cd xd : Addr) (t1 t2 t3 : Tok) : Obj := dictOf [⟨PyData.keyHash w.params (Str.ofString "quant"), .str (Str.ofString "quant") t1, .ref qd⟩, ⟨PyData.keyHash w.params (Str.ofString "codes"), .str (Str.ofString "codes") t2, .ref cd⟩,
  ⟨PyData.keyHash w.params (Str.ofString "conditioning"), .str (Str.ofString "conditioning") t3, .ref xd⟩] 3
theorem str_key {prog : Program} {w : World} {A : Around} {E : Value → Shared → Prop} {s : Shared} {h₀ : Heap} {L : Addr} {m : Str → Option Value} {news : List (Addr × Obj)} {ka : Addr} {c0 v0 : Int} {Q : Value → Shared → Prop} (F : Fr h₀ L s.heap m) (N : News h₀ L s.heap news) (hx : KeyAt news [c0, v0] (.ref ka)) (hc : c0 = 0 ∨ c0 = 1) (hv0 : 0 ≤ v0) (hv1 : v0 < 3)
    (hg : A.guards = some []) (hu : A.units + 10 < cLine) (hQ : ∀ (x : Str) (h' : Heap) (u : Tok) (tk : Nat), x.length ≤ 20 → Fr h₀ L h' m → News h₀ L h' news → Q (.str x u) { s with heap := h', toks := tk }) :
    wpAny (model prog w) A (call (.type "str") [.ref ka]) Q E s := by
  obtain ⟨a, vs, e, hm, hi⟩ := hx
  cases e
  have r : Reads s.heap (.ref ka) (.tuple ([c0, v0].map PyData.int)) [] := reads_tuple_at (N _ hm).1 rfl rfl (by simpa using readsAll_of_ints hi)
  have hv : v0 = 0 ∨ v0 = 1 ∨ v0 = 2 := by omega
  have key : (PyData.tuple ([c0, v0].map PyData.int)).showable = true ∧ (PyData.tuple ([c0, v0].map PyData.int)).depth ≤ 2 ∧ (PyData.tuple ([c0, v0].map PyData.int)).shown.length ≤ 20 ∧ (PyData.tuple ([c0, v0].map PyData.int)).hasDict = false := by
    rcases hc with rfl | rfl <;> rcases hv with rfl | rfl | rfl <;> exact ⟨by decide +kernel, by decide +kernel, by decide +kernel, by decide +kernel⟩
  obtain ⟨k1, k2, k3, k4⟩ := key
  exact str_of_reads r k1 (PyData.noDict_hsm k4) hg (by omega) (fun _ _ e => e) (fun h' u tk hk => hQ _ h' u tk k3 (F.keptAll hk) (N.grown hk)) (by rw [sizeLine_eq]; omega)
end
end Mine
local macro_rules | `(tactic| walk_at "my t30") => `(tactic| (intro tk9))
namespace Mine
section
open PyProof.Rows.LCg
section code
theorem code_core {w : World} {mean : ExcName → Option Value} {mg mb : Str → Option Value} {news : List (Addr × Obj)} {tb dt qd cd xd ka : Addr} {oC : Obj} {xs : List (List Int × Addr × Value)} {k : List Int} {q1 q2 q3 : Tok} {c0 v0 : Int}
   {dp un : Nat} {gd : Option (List Code)} {cn : Str} {cs : Scope} {a : Addr} {ccd : Value} {cl : List (Str × Addr)} {outer : List Env} {A₀ : Around} {base h₀ : Heap} {L : Addr} {m : Str → Option Value} {s : Shared} {Q E : Value → Shared → Prop}
    (B : Below A₀ base outer h₀) (F : Fr h₀ L s.heap m) (X : (Mine.hd.heap_39 w.params).In h₀) (N : News h₀ L s.heap news) (T : Top Mine.hd.view_39 (looseW Mine.hd.view_39 []) mean mg mb h₀)
    (hk : cs.kind = .function) (hgd : gd = some []) (m1 : (tb, instObj 157 dt) ∈ news) (m2 : (dt, tabsDict w qd cd xd q1 q2 q3) ∈ news) (m3 : (cd, oC) ∈ news) (lo : (cd == sysModules) = false) (hd : IsTD Challenge.rw_ok0140_01.row.prog w oC xs) (hkeys : TDKeys news xs) (hx : KeyAt news k (.ref ka)) (hkv : k = [c0, v0]) (hc : c0 = 0 ∨ c0 = 1) (hv0 : 0 ≤ v0) (hv1 : v0 < 3)
    (hdp : dp + 6 < recursionLimit) (hun : un + 40 < cLine)
    (hret : ∀ (p : Addr × Value) (h' : Heap) (tk' : Nat), atKey xs k = some p → Fr h₀ L h' m → News h₀ L h' news → Q p.2 { s with heap := h', toks := tk' })
    (hraise : ∀ (e : Addr) (g₂ h' : Heap) (tk' : Nat), atKey xs k = none → Fr h₀ L g₂ m → RaisedN base (envX cn cs L a ccd cl :: outer) e (.ref 51) news h' → g₂.UpToSlots h' → E (.ref e) { s with heap := h', toks := tk' }) :
      wpAny (model Challenge.rw_ok0140_01.row.prog w) (ktrTop dp un gd cn cs L a ccd cl outer) (call (.ref 154) [.ref tb, .ref ka]) Q E s := by
  k_with_none
  k_with "my lt" => first | assumption | exact And.left (by assumption) | exact And.left (And.right (by assumption)) | exact And.right (by assumption) | exact And.left (And.right (And.right (by assumption))) | exact And.right (And.right (by assumption)) | exact And.left (And.right (And.right (And.right (by assumption)))) | exact And.right (And.right (And.right (by assumption))) | exact And.left (And.right (And.right (And.right (And.right (by assumption))))) | exact And.right (And.right (And.right (And.right (by assumption)))) | exact And.left (And.right (And.right (And.right (And.right (And.right (by assumption)))))) | exact And.right (And.right (And.right (And.right (And.right (by assumption))))) | exact And.left (And.right (And.right (And.right (And.right (And.right (And.right (by assumption))))))) | exact And.right (And.right (And.right (And.right (And.right (And.right (by assumption)))))) | exact And.left (And.right (And.right (And.right (And.right (And.right (And.right (And.right (by assumption)))))))) | exact And.right (And.right (And.right (And.right (And.right (And.right (And.right (by assumption))))))) | exact And.left (And.right (And.right (And.right (And.right (And.right (And.right (And.right (And.right (by assumption))))))))) | exact And.right (And.right (And.right (And.right (And.right (And.right (And.right (And.right (by assumption)))))))) | fail
  k_with "my kne" => first | assumption | (refine Ne.symm ?_; assumption) | (refine neN ?_; (try dsimp only); first | (refine Nat.ne_of_lt ?_; k_extra "my lt") | (refine Nat.ne_of_gt ?_; k_extra "my lt") | omega) | fail
  k_with "my room" => first | exact upR 0 (by assumption) rfl | exact upR 1 (by assumption) rfl | exact upR 2 (by assumption) rfl | exact upR 3 (by assumption) rfl | exact upR 4 (by assumption) rfl | exact upR 5 (by assumption) rfl | exact upR 6 (by assumption) rfl | exact upR 7 (by assumption) rfl | exact upR 8 (by assumption) rfl | fail
  k_with "my units" => first | exact upR 0 (by assumption) rfl | exact upR 1 (by assumption) rfl | exact upR 2 (by assumption) rfl | exact upR 3 (by assumption) rfl | exact upR 4 (by assumption) rfl | exact upR 5 (by assumption) rfl | exact upR 6 (by assumption) rfl | exact upR 7 (by assumption) rfl | exact upR 8 (by assumption) rfl | exact upR 9 (by assumption) rfl | exact upR 10 (by assumption) rfl | exact upR 11 (by assumption) rfl | exact upR 12 (by assumption) rfl | fail
  k_with "my sub" => first | exact List.forall_mem_nil _ | assumption | exact List.forall_mem_cons.mpr ⟨(by k_mem), (by k_extra "my sub")⟩ | (intro p9 hp9; repeat (first | exact hp9 | refine List.Mem.tail _ ?_))
  k_with "my ne" => first | exact List.forall_mem_nil _ | assumption | exact List.forall_mem_cons.mpr ⟨(by first | assumption | k_ne), (by k_extra "my ne")⟩
  k_with "my subA" => (intro p9 hp9; repeat' (first | exact hp9 | exact List.mem_append_left _ hp9 | exact List.mem_append_right _ hp9 | refine List.Mem.tail _ ?_))
  k_with "my memB" => first | assumption | exact List.Mem.head _ | (refine List.Mem.tail _ ?_; k_extra "my memB") | (refine List.mem_append_left _ ?_; k_extra "my memB") | (refine List.mem_append_right _ ?_; k_extra "my memB")
  k_with "my leafB" => first | assumption | (refine List.Mem.tail _ ?_; k_extra "my leafB") | (refine List.mem_append_left _ ?_; k_extra "my leafB") | (refine List.mem_append_right _ ?_; k_extra "my leafB")
  k_with "my subB" => first | exact List.forall_mem_nil _ | exact List.forall_mem_cons.mpr ⟨(by k_extra "my memB"), (by k_extra "my subB")⟩ | exact List.forall_mem_append.mpr ⟨(by k_extra "my subB"), (by k_extra "my subB")⟩ | (intro p9 hp9; k_extra "my leafB")
  k_with "my mem" => first | assumption | exact List.Mem.head _ | (refine' List.Mem.tail _ ?_; k_mem)
  k_with "execs cons" => (k_here; dsimp only; k_gentoks)
  k_with "execs nil" => (k_here; dsimp only; k_gentoks)
  k_with "compareOp NotIn ref ref" => (k_here; k_dflt (refine' td_notin (prog := Challenge.rw_ok0140_01.row.prog) (by k_asm) (by k_mem) (by assumption) (by assumption) (by assumption) (by assumption) (by ktr_units) ?_); walk_at "my t30")
  k_with "subscriptTail" => (k_here; (with_reducible show wpAny _ _ (subscriptTail _ _ (Value.ref _) (Value.ref _)) _ _ _); refine halt ?_)
  k_with "exec Raise some none" => (k_here; refine exec_raise ?_)
  k_with "binaryOp Add str str" => (refine' SB.add ?_ (by (rw [sizeLine_eq]; omega)); walk_at "my t18")
  k_with "call ref" => (k_here; k_dflt (refine' table_c (by k_asm) (by k_asm) (by k_asm) (by k_asm) (by k_asm) (by first | exact rfl | assumption) (by ktr_room) (by ktr_units) ?_); walk_at "my t5")
  k_with "my omega" => ((fail_if_success (fail_if_success omega (config := {}))); lia)
  subst hkv
  have lmsg : (Str.ofString "there is no table of codes ").length ≤ 30 := by decide +kernel
  refine wpAny_call ?_
  k_dflt cell_enter
  k_steps
  · rename_i hsome
    refine Halt.go ?_
    obtain ⟨p, hp⟩ := Option.isSome_iff_exists.mp hsome
    refine td_tail (prog := Challenge.rw_ok0140_01.row.prog) (by assumption) (by k_mem) hd hkeys hx (by ktr_units) hp (fun tk => ?_) (by with_unfolding_all rfl)
    k_steps
    rename_i kF kN kT kX
    exact hret p _ _ hp kF kN
  · rename_i hnone
    have hno : atKey xs [c0, v0] = none := by simpa using hnone
    k_here
    refine str_key (by assumption) (by assumption) hx hc hv0 hv1 hgd (by ktr_units) ?_
    intro x9 h9 u9 tk9 xl9 F9 N9
    k_steps
    rename_i n9 c9 d9
    refine raise_go (by assumption) (K := Mine.hd.heap_39 w.params) (by assumption) (by assumption) (.head _) (excOwn51 _) c9 d9 rfl ?_
    k_whole
    refine leave_own (by assumption) (by assumption) (by assumption) ⟨c9, _, d9⟩ n9 ?_
    intro h8 R8 U8
    exact hraise _ _ _ _ hno (by assumption) R8 U8
end code
end
end Mine
-- LC
namespace Mine
section
open PyProof.Rows.LCg
section mk
theorem scan_c {w : World} {mean : ExcName → Option Value} {mg mb : Str → Option Value} {news : List (Addr × Obj)} {pl dcl acl : Addr} {st en hi lo : Int} {t1 t2 t3 t4 : Tok}
   {dp un : Nat} {gd : Option (List Code)} {cn : Str} {cs : Scope} {a : Addr} {ccd : Value} {cl : List (Str × Addr)} {outer : List Env} {A₀ : Around} {base h₀ : Heap} {L : Addr} {m : Str → Option Value} {s : Shared} {Q E : Value → Shared → Prop}
    (B : Below A₀ base outer h₀) (F : Fr h₀ L s.heap m) (X : (Mine.hd.heap_39 w.params).In h₀) (N : News h₀ L s.heap news) (T : Top Mine.hd.view_39 (looseW Mine.hd.view_39 []) mean mg mb h₀)
    (hk : cs.kind = .function) (hdp : dp + 3 < recursionLimit) (hun : un + 20 < cLine)
    (hret : ∀ (x dx : Addr) (u1 u2 u3 u4 u5 u6 u7 u8 u9 u10 u11 : Tok) (h' : Heap) (tk' : Nat), Fr h₀ L h' m → News h₀ L h' ((x, instObj 248 dx) :: (dx, scanDict w pl dcl acl st en hi lo u1 u2 u3 u4 u5 u6 u7 u8 u9 u10 u11) :: news) → (∀ p ∈ news, p.1 < dx) → dx < x → Q (.ref x) { s with heap := h', toks := tk' }) :
      wpAny (model Challenge.rw_ok0140_01.row.prog w) (ktrTop dp un gd cn cs L a ccd cl outer) (call (.ref 248) [.ref pl, .ref dcl, .ref acl, .int st t1, .int en t2, .int hi t3, .int lo t4]) Q E s := by
  k_with_none
  k_with "my lt" => first | assumption | exact And.left (by assumption) | exact And.left (And.right (by assumption)) | exact And.right (by assumption) | exact And.left (And.right (And.right (by assumption))) | exact And.right (And.right (by assumption)) | exact And.left (And.right (And.right (And.right (by assumption)))) | exact And.right (And.right (And.right (by assumption))) | exact And.left (And.right (And.right (And.right (And.right (by assumption))))) | exact And.right (And.right (And.right (And.right (by assumption)))) | exact And.left (And.right (And.right (And.right (And.right (And.right (by assumption)))))) | exact And.right (And.right (And.right (And.right (And.right (by assumption))))) | exact And.left (And.right (And.right (And.right (And.right (And.right (And.right (by assumption))))))) | exact And.right (And.right (And.right (And.right (And.right (And.right (by assumption)))))) | exact And.left (And.right (And.right (And.right (And.right (And.right (And.right (And.right (by assumption)))))))) | exact And.right (And.right (And.right (And.right (And.right (And.right (And.right (by assumption))))))) | exact And.left (And.right (And.right (And.right (And.right (And.right (And.right (And.right (And.right (by assumption))))))))) | exact And.right (And.right (And.right (And.right (And.right (And.right (And.right (And.right (by assumption)))))))) | fail
  k_with "my kne" => first | assumption | (refine Ne.symm ?_; assumption) | (refine neN ?_; (try dsimp only); first | (refine Nat.ne_of_lt ?_; k_extra "my lt") | (refine Nat.ne_of_gt ?_; k_extra "my lt") | omega) | fail
  k_with "my room" => first | exact upR 0 (by assumption) rfl | exact upR 1 (by assumption) rfl | exact upR 2 (by assumption) rfl | exact upR 3 (by assumption) rfl | exact upR 4 (by assumption) rfl | exact upR 5 (by assumption) rfl | exact upR 6 (by assumption) rfl | exact upR 7 (by assumption) rfl | exact upR 8 (by assumption) rfl | fail
  k_with "my units" => first | exact upR 0 (by assumption) rfl | exact upR 1 (by assumption) rfl | exact upR 2 (by assumption) rfl | exact upR 3 (by assumption) rfl | exact upR 4 (by assumption) rfl | exact upR 5 (by assumption) rfl | exact upR 6 (by assumption) rfl | exact upR 7 (by assumption) rfl | exact upR 8 (by assumption) rfl | exact upR 9 (by assumption) rfl | exact upR 10 (by assumption) rfl | exact upR 11 (by assumption) rfl | exact upR 12 (by assumption) rfl | fail
  k_with "my sub" => first | exact List.forall_mem_nil _ | assumption | exact List.forall_mem_cons.mpr ⟨(by k_mem), (by k_extra "my sub")⟩ | (intro p9 hp9; repeat (first | exact hp9 | refine List.Mem.tail _ ?_))
  k_with "my ne" => first | exact List.forall_mem_nil _ | assumption | exact List.forall_mem_cons.mpr ⟨(by first | assumption | k_ne), (by k_extra "my ne")⟩
  k_with "my subA" => (intro p9 hp9; repeat' (first | exact hp9 | exact List.mem_append_left _ hp9 | exact List.mem_append_right _ hp9 | refine List.Mem.tail _ ?_))
  k_with "my memB" => first | assumption | exact List.Mem.head _ | (refine List.Mem.tail _ ?_; k_extra "my memB") | (refine List.mem_append_left _ ?_; k_extra "my memB") | (refine List.mem_append_right _ ?_; k_extra "my memB")
  k_with "my leafB" => first | assumption | (refine List.Mem.tail _ ?_; k_extra "my leafB") | (refine List.mem_append_left _ ?_; k_extra "my leafB") | (refine List.mem_append_right _ ?_; k_extra "my leafB")
  k_with "my subB" => first | exact List.forall_mem_nil _ | exact List.forall_mem_cons.mpr ⟨(by k_extra "my memB"), (by k_extra "my subB")⟩ | exact List.forall_mem_append.mpr ⟨(by k_extra "my subB"), (by k_extra "my subB")⟩ | (intro p9 hp9; k_extra "my leafB")
  refine' call_cls (C := 248) ?k1 ?k2 ?k3 ?k4 ?k5 ?k6 ?_
  (case k1 => k_asm)
  (case k2 => k_asm)
  (case k3 => k_asm)
  (case k4 => k_is)
  (case k5 => k_is)
  (case k6 => k_is)
  intro x dx h1 F1 N1 l1 l2
  have n1 : ∀ p ∈ news, p.1 ≠ dx := fun p hp => Nat.ne_of_lt (l1 p hp)
  have n2 : x ≠ dx := Nat.ne_of_gt l2
  k_dflt cell_enter
  k_steps
  rename_i kF kN kT kX
  exact hret x dx _ _ _ _ _ _ _ _ _ _ _ _ _ kF kN l1 l2
theorem tables_c {w : World} {mean : ExcName → Option Value} {mg mb : Str → Option Value} {news : List (Addr × Obj)}
   {dp un : Nat} {gd : Option (List Code)} {cn : Str} {cs : Scope} {a : Addr} {ccd : Value} {cl : List (Str × Addr)} {outer : List Env} {A₀ : Around} {base h₀ : Heap} {L : Addr} {m : Str → Option Value} {s : Shared} {Q E : Value → Shared → Prop}
    (B : Below A₀ base outer h₀) (F : Fr h₀ L s.heap m) (X : (Mine.hd.heap_39 w.params).In h₀) (N : News h₀ L s.heap news) (T : Top Mine.hd.view_39 (looseW Mine.hd.view_39 []) mean mg mb h₀)
    (hk : cs.kind = .function) (hdp : dp + 3 < recursionLimit) (hun : un + 20 < cLine)
    (hret : ∀ (x dx qd cd xd : Addr) (oq oc ox : Obj) (u1 u2 u3 : Tok) (h' : Heap) (tk' : Nat), Fr h₀ L h' m → News h₀ L h' ((cd, oc) :: (x, instObj 157 dx) :: (dx, tabsDict w qd cd xd u1 u2 u3) :: (qd, oq) :: (xd, ox) :: news) → (cd == sysModules) = false → oc.IsDictOf (intKind Challenge.rw_ok0140_01.row.prog w) [] →
      (∀ p ∈ news, p.1 < dx) → dx < x → x < qd → qd < cd → cd < xd → Q (.ref x) { s with heap := h', toks := tk' }) :
      wpAny (model Challenge.rw_ok0140_01.row.prog w) (ktrTop dp un gd cn cs L a ccd cl outer) (call (.ref 157) []) Q E s := by
  k_with_none
  k_with "my lt" => first | assumption | exact And.left (by assumption) | exact And.left (And.right (by assumption)) | exact And.right (by assumption) | exact And.left (And.right (And.right (by assumption))) | exact And.right (And.right (by assumption)) | exact And.left (And.right (And.right (And.right (by assumption)))) | exact And.right (And.right (And.right (by assumption))) | exact And.left (And.right (And.right (And.right (And.right (by assumption))))) | exact And.right (And.right (And.right (And.right (by assumption)))) | exact And.left (And.right (And.right (And.right (And.right (And.right (by assumption)))))) | exact And.right (And.right (And.right (And.right (And.right (by assumption))))) | exact And.left (And.right (And.right (And.right (And.right (And.right (And.right (by assumption))))))) | exact And.right (And.right (And.right (And.right (And.right (And.right (by assumption)))))) | exact And.left (And.right (And.right (And.right (And.right (And.right (And.right (And.right (by assumption)))))))) | exact And.right (And.right (And.right (And.right (And.right (And.right (And.right (by assumption))))))) | exact And.left (And.right (And.right (And.right (And.right (And.right (And.right (And.right (And.right (by assumption))))))))) | exact And.right (And.right (And.right (And.right (And.right (And.right (And.right (And.right (by assumption)))))))) | fail
  k_with "my kne" => first | assumption | (refine Ne.symm ?_; assumption) | (refine neN ?_; (try dsimp only); first | (refine Nat.ne_of_lt ?_; k_extra "my lt") | (refine Nat.ne_of_gt ?_; k_extra "my lt") | omega) | fail
  k_with "my room" => first | exact upR 0 (by assumption) rfl | exact upR 1 (by assumption) rfl | exact upR 2 (by assumption) rfl | exact upR 3 (by assumption) rfl | exact upR 4 (by assumption) rfl | exact upR 5 (by assumption) rfl | exact upR 6 (by assumption) rfl | exact upR 7 (by assumption) rfl | exact upR 8 (by assumption) rfl | fail
  k_with "my units" => first | exact upR 0 (by assumption) rfl | exact upR 1 (by assumption) rfl | exact upR 2 (by assumption) rfl | exact upR 3 (by assumption) rfl | exact upR 4 (by assumption) rfl | exact upR 5 (by assumption) rfl | exact upR 6 (by assumption) rfl | exact upR 7 (by assumption) rfl | exact upR 8 (by assumption) rfl | exact upR 9 (by assumption) rfl | exact upR 10 (by assumption) rfl | exact upR 11 (by assumption) rfl | exact upR 12 (by assumption) rfl | fail
  k_with "my sub" => first | exact List.forall_mem_nil _ | assumption | exact List.forall_mem_cons.mpr ⟨(by k_mem), (by k_extra "my sub")⟩ | (intro p9 hp9; repeat (first | exact hp9 | refine List.Mem.tail _ ?_))
  k_with "my ne" => first | exact List.forall_mem_nil _ | assumption | exact List.forall_mem_cons.mpr ⟨(by first | assumption | k_ne), (by k_extra "my ne")⟩
  k_with "my subA" => (intro p9 hp9; repeat' (first | exact hp9 | exact List.mem_append_left _ hp9 | exact List.mem_append_right _ hp9 | refine List.Mem.tail _ ?_))
  k_with "my memB" => first | assumption | exact List.Mem.head _ | (refine List.Mem.tail _ ?_; k_extra "my memB") | (refine List.mem_append_left _ ?_; k_extra "my memB") | (refine List.mem_append_right _ ?_; k_extra "my memB")
  k_with "my leafB" => first | assumption | (refine List.Mem.tail _ ?_; k_extra "my leafB") | (refine List.mem_append_left _ ?_; k_extra "my leafB") | (refine List.mem_append_right _ ?_; k_extra "my leafB")
  k_with "my subB" => first | exact List.forall_mem_nil _ | exact List.forall_mem_cons.mpr ⟨(by k_extra "my memB"), (by k_extra "my subB")⟩ | exact List.forall_mem_append.mpr ⟨(by k_extra "my subB"), (by k_extra "my subB")⟩ | (intro p9 hp9; k_extra "my leafB")
  refine' call_cls (C := 157) ?k1 ?k2 ?k3 ?k4 ?k5 ?k6 ?_
  (case k1 => k_asm)
  (case k2 => k_asm)
  (case k3 => k_asm)
  (case k4 => k_is)
  (case k5 => k_is)
  (case k6 => k_is)
  intro x dx h1 F1 N1 l1 l2
  have n1 : ∀ p ∈ news, p.1 ≠ dx := fun p hp => Nat.ne_of_lt (l1 p hp)
  have n2 := neN (Nat.ne_of_gt l2 : x ≠ dx)
  k_dflt cell_enter
  k_steps
  rename_i d2 h5 o2 lo2 hs2 fs2 hi2 fi2 l2' h4 d1 h3 o1 lo1 hs1 fs1 hi1 fi1 l1' h2 d0 h1' o0 lo0 hs0 fs0 hi0 fi0 l0' h0 F' N' kF kN kT kX
  exact hret x dx d2 d1 d0 o2 o1 o0 _ _ _ _ _ kF (cb_drop kN (by k_extra "my sub")) lo1 hi1 l1 l2 l2'.1 l1'.1 l0'.1
end mk
end
end Mine
-- LM2
namespace Mine
section
open PyProof.Rows.LCg
theorem huff_c {w : World} {mean : ExcName → Option Value} {mg mb : Str → Option Value} {news : List (Addr × Obj)} {tu : Addr} {cvs : List Value} {cs9 : List Int} {b9 : Array UInt8} {t9 : Tok} {ks : List Int}
   {dp un : Nat} {gd : Option (List Code)} {cn : Str} {cs : Scope} {a : Addr} {ccd : Value} {cl : List (Str × Addr)} {outer : List Env} {A₀ : Around} {base h₀ : Heap} {L : Addr} {m : Str → Option Value} {s : Shared} {Q E : Value → Shared → Prop}
    (B : Below A₀ base outer h₀) (F : Fr h₀ L s.heap m) (X : (Mine.hd.heap_39 w.params).In h₀) (N : News h₀ L s.heap news) (T : Top Mine.hd.view_39 (looseW Mine.hd.view_39 []) mean mg mb h₀)
    (hk : cs.kind = .function) (hin : (tu, tupO cvs) ∈ news) (hi : IntsAre cvs cs9) (hl : cs9.length = 16) (hpos : ∀ c ∈ cs9, 0 ≤ c) (hb : KBw.bInts b9 = ks) (hsum : cs9.sum = ks.length) (hks : ks.length < 100)
    (hdp : dp + 10 < recursionLimit) (hun : un + 50 < cLine) 
    (hret : ∀ (v : Value) (fz : List (Addr × Obj)) (h' : Heap) (tk' : Nat), ks.Nodup → (∀ j, j < 16 → OkRow cs9 j) → TableObjs w cs9 ks v fz → (∀ p ∈ fz, ∀ q ∈ news, q.1 < p.1) → Fr h₀ L h' m → News h₀ L h' (fz ++ news) → Q v { s with heap := h', toks := tk' })
    (hraise : ∀ (e : Addr) (g₂ h' : Heap) (tk' : Nat), ¬ (ks.Nodup ∧ ∀ j, j < 16 → OkRow cs9 j) → Fr h₀ L g₂ m → RaisedN base (envX cn cs L a ccd cl :: outer) e (.ref 51) news h' → g₂.UpToSlots h' → E (.ref e) { s with heap := h', toks := tk' }) :
      wpAny (model Challenge.rw_ok0140_01.row.prog w) (ktrTop dp un gd cn cs L a ccd cl outer) (call (.ref 122) [.ref tu, .bytes b9 t9]) Q E s := by
  obtain ⟨n₁, N1, hne, hs, hs'⟩ := led_split N hin
  refine huff_core B F X N1 T hk hne hi hl hpos hb hsum hks hdp hun (fun v fz h' tk' nd ok to ab F' N' => hret v fz h' tk' nd ok to (fun p hp q hq => ab p hp q (hs q hq)) F' (cb_drop N' fun p hp => ?_)) fun e g₂ h' tk' nd F' R' U' => hraise e g₂ h' tk' nd F' (RaisedN.mono R' hs) U'
  rcases List.mem_append.mp hp with hp | hp
  · exact .tail _ (List.mem_append_left _ hp)
  · rcases List.mem_cons.mp (hs p hp) with rfl | hp
    · exact .head _
    · exact .tail _ (List.mem_append_right _ hp)
/-- what stands under a key of the tables -/
noncomputable def CodeEnt (led : List (Addr × Obj)) (cs9 ks : List Int) (v : Value) : Prop :=
  (∃ (cu tu : Addr) (cvs : List Value) (b9 : Array UInt8) (t9 : Tok), v = .ref cu ∧ (cu, tupO [.ref tu, .bytes b9 t9]) ∈ led ∧ (tu, tupO cvs) ∈ led ∧ IntsAre cvs cs9 ∧ KBw.bInts b9 = ks) ∧ cs9.length = 16 ∧ (∀ c ∈ cs9, 0 ≤ c) ∧ cs9.sum = ks.length ∧ ks.length < 100
noncomputable def GoodK (spec : List Int → Option (List Int × List Int)) (k : List Int) : Prop := ∃ cs9 ks, spec k = some (cs9, ks) ∧ ks.Nodup ∧ ∀ j, j < 16 → OkRow cs9 j
structure MD where
  o : Obj
  xs : List (List Int × Addr × Value)
  fz : List (Addr × Obj)
noncomputable def MDFacts (w : World) (spec : List Int → Option (List Int × List Int)) (K : List (List Int)) (fzu old : List (Addr × Obj)) (i : Nat) (c : MD) : Prop :=
  IsTD Challenge.rw_ok0140_01.row.prog w c.o c.xs ∧ c.xs.map (·.1) = K.take i ∧ TDKeys fzu c.xs ∧ (∀ x ∈ c.xs, ∃ cs9 ks, spec x.1 = some (cs9, ks) ∧ TableObjs w cs9 ks x.2.2 c.fz) ∧ (∀ p ∈ c.fz, ∀ q ∈ old, q.1 < p.1) ∧ ∀ k ∈ K.take i, GoodK spec k
theorem atKey_none {xs : List (List Int × Addr × Value)} {k : List Int} (h : k ∉ xs.map (·.1)) : atKey xs k = none := by
  unfold atKey
  have : (xs.find? fun x => decide (x.1 = k)) = none := List.find?_eq_none.mpr fun x hx q => h (List.mem_map.mpr ⟨x, hx, of_decide_eq_true q⟩)
  rw [this]; rfl
theorem TableObjs.mono {w : World} {cs9 ks : List Int} {v : Value} {fz fz' : List (Addr × Obj)} (h : TableObjs w cs9 ks v fz) (hs : ∀ p ∈ fz, p ∈ fz') : TableObjs w cs9 ks v fz' := by
  obtain ⟨x, dx, sy, rl, cd, tu, syv, vs, n, t1, t2, t3, t4, e, h1, h2, h3, h4, h5, h6⟩ := h
  exact ⟨x, dx, sy, rl, cd, tu, syv, vs, n, t1, t2, t3, t4, e, hs _ h1, hs _ h2, hs _ h3, h4, hs _ h5, h6.mono hs⟩
section made
theorem made_core {w : World} {mean : ExcName → Option Value} {mg mb : Str → Option Value} {news : List (Addr × Obj)} {tb dt qd cd xd : Addr} {oC : Obj} {xs : List (List Int × Addr × Value)} {q1 q2 q3 : Tok} {spec : List Int → Option (List Int × List Int)}
   {sc ds pl dcl acl : Addr} {st en hi lw : Int} {u1 u2 u3 u4 u5 u6 u7 u8 u9 u10 u11 : Tok} {vsp vdc vac : List Value} {np nd na n : Nat} {dcs acs : List Int}
   {dp un : Nat} {gd : Option (List Code)} {cn : Str} {cs : Scope} {a : Addr} {ccd : Value} {cl : List (Str × Addr)} {outer : List Env} {A₀ : Around} {base h₀ : Heap} {L : Addr} {m : Str → Option Value} {s : Shared} {Q E : Value → Shared → Prop}
    (B : Below A₀ base outer h₀) (F : Fr h₀ L s.heap m) (X : (Mine.hd.heap_39 w.params).In h₀) (N : News h₀ L s.heap news) (T : Top Mine.hd.view_39 (looseW Mine.hd.view_39 []) mean mg mb h₀)
    (hk : cs.kind = .function) (hgd : gd = some []) (m1 : (tb, instObj 157 dt) ∈ news) (m2 : (dt, tabsDict w qd cd xd q1 q2 q3) ∈ news) (m3 : (cd, oC) ∈ news) (lo : (cd == sysModules) = false) (hd : IsTD Challenge.rw_ok0140_01.row.prog w oC xs) (hkeys : TDKeys news xs)
    (hent : ∀ k p, atKey xs k = some p → ∃ cs9 ks, spec k = some (cs9, ks) ∧ CodeEnt news cs9 ks p.2) (hnone : ∀ k, atKey xs k = none → spec k = none)
    (m4 : (sc, instObj 248 ds) ∈ news) (m5 : (ds, scanDict w pl dcl acl st en hi lw u1 u2 u3 u4 u5 u6 u7 u8 u9 u10 u11) ∈ news) (m6 : (pl, W.listOf vsp.toArray np) ∈ news) (m7 : (dcl, W.listOf vdc.toArray nd) ∈ news) (m8 : (acl, W.listOf vac.toArray na) ∈ news)
    (hdc : IntsAre vdc dcs) (hac : IntsAre vac acs) (l1 : vsp.length = n) (l2 : dcs.length = n) (l3 : acs.length = n) (hn : n ≤ 3) (hdr : ∀ x ∈ dcs, 0 ≤ x ∧ x < 3) (har : ∀ x ∈ acs, 0 ≤ x ∧ x < 3)
    (hdp : dp + 16 < recursionLimit) (hun : un + 100 < cLine)
    (hret : ∀ (D : Addr) (o' : Obj) (ys : List (List Int × Addr × Value)) (fz : List (Addr × Obj)) (h' : Heap) (tk' : Nat), (∀ k ∈ keysN st en hi dcs acs n, GoodK spec k) → Fr h₀ L h' m → News h₀ L h' ((D, o') :: (fz ++ news)) → (D == sysModules) = false → IsTD Challenge.rw_ok0140_01.row.prog w o' ys → ys.map (·.1) = keysN st en hi dcs acs n → TDKeys fz ys →
      (∀ x ∈ ys, ∃ cs9 ks, spec x.1 = some (cs9, ks) ∧ TableObjs w cs9 ks x.2.2 fz) → (∀ p ∈ (D, o') :: fz, ∀ q ∈ news, q.1 < p.1) → Q (.ref D) { s with heap := h', toks := tk' })
    (hraise : ∀ (e : Addr) (g₂ h' : Heap) (tk' : Nat), ¬ (∀ k ∈ keysN st en hi dcs acs n, GoodK spec k) → Fr h₀ L g₂ m → RaisedN base (envX cn cs L a ccd cl :: outer) e (.ref 51) news h' → g₂.UpToSlots h' → E (.ref e) { s with heap := h', toks := tk' }) :
      wpAny (model Challenge.rw_ok0140_01.row.prog w) (ktrTop dp un gd cn cs L a ccd cl outer) (call (.ref 175) [.ref tb, .ref sc]) Q E s := by
  k_with_none
  k_with "my lt" => first | assumption | exact And.left (by assumption) | exact And.left (And.right (by assumption)) | exact And.right (by assumption) | exact And.left (And.right (And.right (by assumption))) | exact And.right (And.right (by assumption)) | exact And.left (And.right (And.right (And.right (by assumption)))) | exact And.right (And.right (And.right (by assumption))) | exact And.left (And.right (And.right (And.right (And.right (by assumption))))) | exact And.right (And.right (And.right (And.right (by assumption)))) | exact And.left (And.right (And.right (And.right (And.right (And.right (by assumption)))))) | exact And.right (And.right (And.right (And.right (And.right (by assumption))))) | exact And.left (And.right (And.right (And.right (And.right (And.right (And.right (by assumption))))))) | exact And.right (And.right (And.right (And.right (And.right (And.right (by assumption)))))) | exact And.left (And.right (And.right (And.right (And.right (And.right (And.right (And.right (by assumption)))))))) | exact And.right (And.right (And.right (And.right (And.right (And.right (And.right (by assumption))))))) | exact And.left (And.right (And.right (And.right (And.right (And.right (And.right (And.right (And.right (by assumption))))))))) | exact And.right (And.right (And.right (And.right (And.right (And.right (And.right (And.right (by assumption)))))))) | fail
  k_with "my kne" => first | assumption | (refine Ne.symm ?_; assumption) | (refine neN ?_; (try dsimp only); first | (refine Nat.ne_of_lt ?_; k_extra "my lt") | (refine Nat.ne_of_gt ?_; k_extra "my lt") | omega) | fail
  k_with "my room" => first | exact upR 0 (by assumption) rfl | exact upR 1 (by assumption) rfl | exact upR 2 (by assumption) rfl | exact upR 3 (by assumption) rfl | exact upR 4 (by assumption) rfl | exact upR 5 (by assumption) rfl | exact upR 6 (by assumption) rfl | exact upR 7 (by assumption) rfl | exact upR 8 (by assumption) rfl | fail
  k_with "my units" => first | exact upR 0 (by assumption) rfl | exact upR 1 (by assumption) rfl | exact upR 2 (by assumption) rfl | exact upR 3 (by assumption) rfl | exact upR 4 (by assumption) rfl | exact upR 5 (by assumption) rfl | exact upR 6 (by assumption) rfl | exact upR 7 (by assumption) rfl | exact upR 8 (by assumption) rfl | exact upR 9 (by assumption) rfl | exact upR 10 (by assumption) rfl | exact upR 11 (by assumption) rfl | exact upR 12 (by assumption) rfl | fail
  k_with "my sub" => first | exact List.forall_mem_nil _ | assumption | exact List.forall_mem_cons.mpr ⟨(by k_mem), (by k_extra "my sub")⟩ | (intro p9 hp9; repeat (first | exact hp9 | refine List.Mem.tail _ ?_))
  k_with "my ne" => first | exact List.forall_mem_nil _ | assumption | exact List.forall_mem_cons.mpr ⟨(by first | assumption | k_ne), (by k_extra "my ne")⟩
  k_with "my subA" => (intro p9 hp9; repeat' (first | exact hp9 | exact List.mem_append_left _ hp9 | exact List.mem_append_right _ hp9 | refine List.Mem.tail _ ?_))
  k_with "my memB" => first | assumption | exact List.Mem.head _ | (refine List.Mem.tail _ ?_; k_extra "my memB") | (refine List.mem_append_left _ ?_; k_extra "my memB") | (refine List.mem_append_right _ ?_; k_extra "my memB")
  k_with "my leafB" => first | assumption | (refine List.Mem.tail _ ?_; k_extra "my leafB") | (refine List.mem_append_left _ ?_; k_extra "my leafB") | (refine List.mem_append_right _ ?_; k_extra "my leafB")
  k_with "my subB" => first | exact List.forall_mem_nil _ | exact List.forall_mem_cons.mpr ⟨(by k_extra "my memB"), (by k_extra "my subB")⟩ | exact List.forall_mem_append.mpr ⟨(by k_extra "my subB"), (by k_extra "my subB")⟩ | (intro p9 hp9; k_extra "my leafB")
  k_with "my mem" => first | assumption | exact List.Mem.head _ | (refine' List.Mem.tail _ ?_; k_mem)
  k_with "pyIter ref" => (refine halt ?_)
  k_with "execs cons" => (k_here; dsimp only; k_gentoks)
  k_with "execs nil" => (k_here; dsimp only; k_gentoks)
  k_with "call ref" => (k_here; (with_reducible show wpAny _ _ (call (Value.ref _) _) _ _ _); refine halt ?_)
  k_with "setItem ref ref" => (refine halt ?_)
  k_with "my omega" => ((fail_if_success (fail_if_success omega (config := {}))); lia)
  refine wpAny_call ?_
  k_dflt cell_enter
  k_steps
  rename_i g9 L9 h9 FG9 B9 X9 T9 D h8 oD lD loD hsD fsD hiD fiD h7 F1 N1
  refine Halt.go ?_
  k_here
  k_dflt (refine' used_core (n := n) (dcs := dcs) (acs := acs) ?k1 ?k2 ?k3 ?k4 ?k5 ?kK ?m1 ?m2 ?m3 ?m4 ?m5 hdc hac l1 l2 l3 hn ?kd ?ku ?_; (case k1 => k_asm); (case k2 => k_asm); (case k3 => k_asm); (case k4 => k_asm); (case k5 => k_asm); (case kK => first | exact rfl | assumption); (case m1 => exact .tail _ m4); (case m2 => exact .tail _ m5); (case m3 => exact .tail _ m6); (case m4 => exact .tail _ m7); (case m5 => exact .tail _ m8); (case kd => ktr_room); (case ku => ktr_units))
  intro Dl vs c2 fzu h10 tk10 F10 N10 ku abu ltu
  (try clear F1); (try clear N1)
  have hKn := keysN_nd st en hi dcs acs n
  have hKm := fun k hk => keysN_mem (st := st) (en := en) (hi := hi) hdr har (n := n) (by omega) (by omega) k hk
  have hKl := keysN_len st en hi dcs acs n
  generalize keysN st en hi dcs acs n = K at *
  k_steps
  refine Halt.go ?_
  rename Fr g9 L9 _ _ => FX
  rename News g9 L9 _ _ => NX
  have hvl := ku.len
  have abn : ∀ p ∈ (Dl, W.listOf vs.toArray c2) :: fzu, ∀ q ∈ news, q.1 < p.1 := fun p hp q hq => abu p hp q (.tail _ hq)
  have abD : ∀ p ∈ (Dl, W.listOf vs.toArray c2) :: fzu, D < p.1 := fun p hp => abu p hp _ (.head _)
  have offD0 : ∀ p ∈ (Dl, W.listOf vs.toArray c2) :: (fzu ++ news), p.1 ≠ D := fun p hp => by
    rcases List.mem_cons.mp hp with rfl | hp
    · exact Nat.ne_of_gt (abD _ (.head _))
    · rcases List.mem_append.mp hp with hp | hp
      · exact Nat.ne_of_gt (abD _ (.tail _ hp))
      · exact Nat.ne_of_lt (lD p hp)
  refine' list_S (σ := MD) (l := Dl) (ol := W.listOf vs.toArray c2) (vs := vs) (nl := c2) (fun _ c => (D, c.o) :: (c.fz ++ ((Dl, W.listOf vs.toArray c2) :: (fzu ++ news)))) (fun _ _ => []) (MDFacts w spec K fzu ((D, oD) :: (Dl, W.listOf vs.toArray c2) :: (fzu ++ news))) [Str.ofString "key", Str.ofString "counts", Str.ofString "symbols"] ⟨oD, [], []⟩ rfl (fun _ _ => .tail _ (List.mem_append_right _ (.head _))) rfl FX (cb_drop NX ?sub0) ⟨IsTD.ofInt hiD, by simp, (fun x hx => absurd hx List.not_mem_nil), (fun x hx => absurd hx List.not_mem_nil), (fun p hp => absurd hp List.not_mem_nil), fun k hk => absurd hk (by simp)⟩ (List.forall_mem_nil _) ?_ ?_
  case sub0 =>
    dsimp only [List.nil_append]
    k_extra "my subB"
  · (try clear FX); (try clear NX); (try clear F10); (try clear N10)
    intro i v c u I io h13 tk13 hv hf hI F6 N6
    obtain ⟨hTD, hks, htk, htab, hab, hgood⟩ := hf
    have hil : i < K.length := by rw [← hvl]; exact (List.getElem?_eq_some_iff.mp hv).1
    have hkey := ku.get i hil
    have e1 : vs.getD i Value.none = v := by rw [List.getD_eq_getElem?_getD, hv]; rfl
    have e2 : K.getD i [] = K[i] := by rw [List.getD_eq_getElem?_getD, List.getElem?_eq_getElem hil]; rfl
    rw [e1, e2] at hkey
    have etk : K.take (i + 1) = K.take i ++ [K[i]] := by simp
    have hkK : K[i] ∈ K := List.getElem_mem hil
    have hknew : K[i] ∉ c.xs.map (·.1) := by
      rw [hks]
      intro q
      have h1 := List.take_append_drop i K
      have h2 : K.drop i = K[i] :: K.drop (i + 1) := List.drop_eq_getElem_cons hil
      rw [h2] at h1
      rw [← h1, List.nodup_append] at hKn
      exact hKn.2.2 _ q _ (.head _) rfl
    generalize K[i] = k at *
    obtain ⟨ka, us9, rfl, hm9, hi9⟩ := id hkey
    obtain ⟨c0, v0, ekv, hc0, hv0, hv1⟩ := hKm k hkK
    have sn : ∀ p ∈ news, p ∈ c.fz ++ ((Dl, W.listOf vs.toArray c2) :: (fzu ++ news)) := fun p hp => List.mem_append_right _ (.tail _ (List.mem_append_right _ hp))
    have su : ∀ p ∈ fzu, p ∈ c.fz ++ ((Dl, W.listOf vs.toArray c2) :: (fzu ++ news)) := fun p hp => List.mem_append_right _ (.tail _ (List.mem_append_left _ hp))
    have n1 := sn _ m1
    have n2 := sn _ m2
    have offD : ∀ p ∈ c.fz ++ ((Dl, W.listOf vs.toArray c2) :: (fzu ++ news)), p.1 ≠ D := fun p hp => (List.mem_append.mp hp).elim (fun q => Nat.ne_of_gt (hab p q _ (.head _))) (offD0 p)
    simp only [List.forall_mem_cons] at hI
    obtain ⟨hI1, hI2⟩ := hI
    replace hI1 := neN hI1
    k_steps
    refine Halt.go ?_
    have sn2 : ∀ p ∈ news, p ∈ (I, io) :: (D, c.o) :: (c.fz ++ ((Dl, W.listOf vs.toArray c2) :: (fzu ++ news))) := fun p hp => .tail _ (.tail _ (sn p hp))
    have su2 : ∀ p ∈ fzu, p ∈ (I, io) :: (D, c.o) :: (c.fz ++ ((Dl, W.listOf vs.toArray c2) :: (fzu ++ news))) := fun p hp => .tail _ (.tail _ (su p hp))
    k_here
    k_dflt (refine' code_core (k := k) (xs := xs) (oC := oC) (cd := cd) (dt := dt) (qd := qd) (xd := xd) (q1 := q1) (q2 := q2) (q3 := q3) (c0 := c0) (v0 := v0) ?k1 ?k2 ?k3 ?k4 ?k5 ?kK ?kg (sn2 _ m1) (sn2 _ m2) (sn2 _ m3) lo hd (hkeys.mono sn2) (hkey.mono su2) ekv hc0 hv0 hv1 ?kd ?ku ?kR ?kE; (case k1 => k_asm); (case k2 => k_asm); (case k3 => k_asm); (case k4 => k_asm); (case k5 => k_asm); (case kK => first | exact rfl | assumption); (case kg => first | assumption | rfl); (case kd => ktr_room); (case ku => ktr_units))
    case kE =>
      intro e14 g14 h14 tk14 hp F14 R14 U14
      k_whole
      refine leave_onN (by assumption) F14 R14 U14 ?_
      intro h8 R8 U8
      exact hraise _ _ _ _ (fun hall => by obtain ⟨cs9, ks, hs, _⟩ := hall k hkK; rw [hnone k hp] at hs; cases hs) FG9 (RaisedN.mono R8 sn2) U8
    intro p h14 tk14 hp F14 N14
    obtain ⟨cs9, ks, hsp, ⟨cu, tu, cvs, b9, t9, ep, mc, mt, hcv, hb9⟩, hl9, hpos, hsum, hks9⟩ := hent k p hp
    rw [ep]
    have nc := sn _ mc
    have nt := sn _ mt
    (try clear F6); (try clear N6)
    k_steps
    refine Halt.go ?_
    k_here
    k_dflt (refine' huff_c (cs9 := cs9) (ks := ks) ?k1 ?k2 ?k3 ?k4 ?k5 ?kK ?kin hcv hl9 hpos hb9 hsum hks9 ?kd ?ku ?_ ?kE2; (case k1 => k_asm); (case k2 => k_asm); (case k3 => k_asm); (case k4 => k_asm); (case k5 => k_asm); (case kK => first | exact rfl | assumption); (case kin => exact sn2 _ mt); (case kd => ktr_room); (case ku => ktr_units))
    case kE2 =>
      intro e15 g15 h15 tk15 nbad F15 R15 U15
      k_whole
      refine leave_onN (by assumption) F15 R15 U15 ?_
      intro h8 R8 U8
      refine hraise _ _ _ _ (fun hall => ?_) FG9 (RaisedN.mono R8 sn2) U8
      obtain ⟨cs8, ks8, hs, h1, h2⟩ := hall k hkK
      rw [hsp] at hs
      cases hs
      exact nbad ⟨h1, h2⟩
    intro v2 fz2 h15 tk15 nd ok to ab2 F15 N15
    have N15' : News g9 L9 h15 ((I, io) :: (D, c.o) :: ((fz2 ++ c.fz) ++ ((Dl, W.listOf vs.toArray c2) :: (fzu ++ news)))) := cb_drop N15 (by k_extra "my subB")
    have ab3 : ∀ p ∈ fz2 ++ c.fz, ∀ q ∈ (D, oD) :: (Dl, W.listOf vs.toArray c2) :: (fzu ++ news), q.1 < p.1 := fun p hp => by
      rcases List.mem_append.mp hp with hp | hp
      · refine List.forall_mem_cons.mpr ⟨ab2 p hp (D, c.o) (.tail _ (.head _)), fun q hq => ab2 p hp q (.tail _ (.tail _ (List.mem_append_right _ hq)))⟩
      · exact hab p hp
    have offD2 : ∀ p ∈ (fz2 ++ c.fz) ++ ((Dl, W.listOf vs.toArray c2) :: (fzu ++ news)), p.1 ≠ D := fun p hp => (List.mem_append.mp hp).elim (fun q => Nat.ne_of_gt (ab3 p q _ (.head _))) (offD0 p)
    have offI2 : ∀ p ∈ (fz2 ++ c.fz) ++ ((Dl, W.listOf vs.toArray c2) :: (fzu ++ news)), p.1 ≠ I := fun p hp => by
      rcases List.mem_append.mp hp with hp | hp
      · rcases List.mem_append.mp hp with hp | hp
        · exact Nat.ne_of_gt (ab2 p hp _ (.head _))
        · exact hI2 p (List.mem_append_left _ hp)
      · exact hI2 p (List.mem_append_right _ hp)
    clear N15
    (try clear N14); (try clear F14)
    k_steps
    refine Halt.go ?_
    rename Fr g9 L9 _ _ => FS
    rename News g9 L9 _ _ => NS
    have hIX : I ≠ D := Ne.symm hI1
    have su3 : ∀ p ∈ fzu, p ∈ (I, io) :: (D, c.o) :: ((fz2 ++ c.fz) ++ ((Dl, W.listOf vs.toArray c2) :: (fzu ++ news))) := fun p hp => .tail _ (.tail _ (List.mem_append_right _ (.tail _ (List.mem_append_left _ hp))))
    have hxl : c.xs.length ≤ 1000 := by
      have e := congrArg List.length hks
      rw [List.length_map] at e
      have e5 : (K.take i).length ≤ K.length := by rw [List.length_take]; omega
      omega
    refine td_set (prog := Challenge.rw_ok0140_01.row.prog) (k := k) FS NS (.tail hIX (.head offD2)) hTD (htk.mono su3) (hkey.mono su3) (by ktr_units) hxl fun h16 o16 a16 tk16 ea F16 N16 hTD16 htk16 => ?_
    cases ea
    rw [storedH_new (atKey_none hknew)] at hTD16 htk16
    k_steps
    rename Fr g9 L9 _ _ => FT
    rename News g9 L9 _ _ => NT
    refine' TurnPost.next FT (nx := (D, o16) :: ((fz2 ++ c.fz) ++ ((Dl, W.listOf vs.toArray c2) :: (fzu ++ news)))) NT (List.forall_mem_cons.mpr ⟨hI1, offI2⟩) ⟨⟨o16, c.xs ++ [(k, ka, v2)], fz2 ++ c.fz⟩, rfl, ⟨hTD16, ?f1, ?f2, ?f3, ab3, ?f4⟩, List.forall_mem_nil _, fun z hz => ?frz⟩
    case f1 => rw [List.map_append, hks, etk]; rfl
    case f2 =>
      intro x hx
      rcases List.mem_append.mp hx with hx | hx
      · exact htk x hx
      · rw [List.mem_singleton.mp hx]; exact hkey
    case f3 =>
      intro x hx
      rcases List.mem_append.mp hx with hx | hx
      · obtain ⟨cs8, ks8, hs, ht⟩ := htab x hx
        exact ⟨cs8, ks8, hs, ht.mono fun p hp => List.mem_append_right _ hp⟩
      · rw [List.mem_singleton.mp hx]
        exact ⟨cs9, ks, hsp, to.mono fun p hp => List.mem_append_left _ hp⟩
    case f4 =>
      intro k' hk'
      rw [etk] at hk'
      rcases List.mem_append.mp hk' with hk' | hk'
      · exact hgood k' hk'
      · rw [List.mem_singleton.mp hk']; exact ⟨cs9, ks, hsp, nd, ok⟩
    case frz =>
      dsimp only
      (repeat' (with_reducible (refine off_if (ne_of_stored hz ?_) ?_)))
      all_goals first | rfl | exact mkFr_off hz rfl rfl rfl
  · (try clear FX); (try clear NX); (try clear F10); (try clear N10)
    intro c u h tk' hf F3 N3
    obtain ⟨hTD, hks, htk, htab, hab, hgood⟩ := hf
    rw [hvl, List.take_length] at hks hgood
    k_steps
    rename_i kF kN kT kX
    refine hret D c.o c.xs (c.fz ++ ((Dl, W.listOf vs.toArray c2) :: fzu)) _ _ hgood kF (by rw [List.append_assoc]; exact kN) loD hTD hks (htk.mono fun p hp => List.mem_append_right _ (.tail _ hp)) (fun x hx => ?_) ?_
    · obtain ⟨cs8, ks8, hs, ht⟩ := htab x hx
      exact ⟨cs8, ks8, hs, ht.mono fun p hp => List.mem_append_left _ hp⟩
    · refine List.forall_mem_cons.mpr ⟨lD, fun p hp => ?_⟩
      rcases List.mem_append.mp hp with hp | hp
      · exact fun q hq => hab p hp q (.tail _ (.tail _ (List.mem_append_right _ hq)))
      · exact abn p hp
end made
end
end Mine
-- LU3
namespace Mine
section
open PyProof.Rows.LCg
theorem keysN_ne {st en hi : Int} {dcs acs : List Int} : ∀ {n : Nat} (k : List Int), k ∈ keysN st en hi dcs acs n → k ≠ []
  | 0, k, hk => nomatch hk
  | n + 1, k, hk => by
    have ih := keysN_ne (st := st) (en := en) (hi := hi) (dcs := dcs) (acs := acs) (n := n)
    have hk' : k ∈ stepK (st = 0 ∧ hi = 0) (en > 0) (dcs.getD n 0) (acs.getD n 0) (keysN st en hi dcs acs n) := hk
    unfold stepK at hk'
    dsimp only at hk'
    split at hk' <;> split at hk'
    · rcases addK_mem hk' with h | rfl
      · rcases addK_mem h with h | rfl
        · exact ih k h
        · simp
      · simp
    · rcases addK_mem hk' with h | rfl
      · exact ih k h
      · simp
    · rcases addK_mem hk' with h | rfl
      · exact ih k h
      · simp
    · exact ih k hk'
theorem news_rot2 {h₀ h : Heap} {L : Addr} {t1 t2 a b : Addr × Obj} {r : List (Addr × Obj)} (N : News h₀ L h (t2 :: t1 :: a :: b :: r)) : News h₀ L h (a :: b :: t2 :: r) := fun p hp => N p (by
  simp only [List.mem_cons] at hp ⊢
  rcases hp with h | h | h | h <;> simp [h])
section wanted
theorem wanted_core {w : World} {mean : ExcName → Option Value} {mg mb : Str → Option Value} {news : List (Addr × Obj)} {sc ds pl dcl acl : Addr} {st en hi lo : Int} {q1 q2 q3 q4 q5 q6 q7 q8 q9 q10 q11 : Tok} {vsp vdc vac : List Value} {np nd na n : Nat} {dcs acs : List Int}
   {dp un : Nat} {gd : Option (List Code)} {cn : Str} {cs : Scope} {a : Addr} {ccd : Value} {cl : List (Str × Addr)} {outer : List Env} {A₀ : Around} {base h₀ : Heap} {L : Addr} {m : Str → Option Value} {s : Shared} {Q E : Value → Shared → Prop}
    (B : Below A₀ base outer h₀) (F : Fr h₀ L s.heap m) (X : (Mine.hd.heap_39 w.params).In h₀) (N : News h₀ L s.heap news) (T : Top Mine.hd.view_39 (looseW Mine.hd.view_39 []) mean mg mb h₀)
    (hk : cs.kind = .function) (m1 : (sc, instObj 248 ds) ∈ news) (m2 : (ds, scanDict w pl dcl acl st en hi lo q1 q2 q3 q4 q5 q6 q7 q8 q9 q10 q11) ∈ news) (m3 : (pl, W.listOf vsp.toArray np) ∈ news) (m4 : (dcl, W.listOf vdc.toArray nd) ∈ news) (m5 : (acl, W.listOf vac.toArray na) ∈ news)
    (hdc : IntsAre vdc dcs) (hac : IntsAre vac acs) (l1 : vsp.length = n) (l2 : dcs.length = n) (l3 : acs.length = n) (hn : n ≤ 3)
    (hdp : dp + 4 < recursionLimit) (hun : un + 30 < cLine)
    (hret : ∀ (D : Addr) (vs : List Value) (c : Nat) (fz : List (Addr × Obj)) (h' : Heap) (tk' : Nat), Fr h₀ L h' m → News h₀ L h' ((D, W.listOf vs.toArray c) :: (fz ++ news)) → KeysAre fz vs (sortK (keysN st en hi dcs acs n)) → (∀ p ∈ (D, W.listOf vs.toArray c) :: fz, ∀ q ∈ news, q.1 < p.1) → (∀ p ∈ fz, p.1 < D) → Q (.ref D) { s with heap := h', toks := tk' }) :
      wpAny (model Challenge.rw_ok0140_01.row.prog w) (ktrTop dp un gd cn cs L a ccd cl outer) (call (.ref 294) [.ref sc]) Q E s := by
  k_with_none
  k_with "my lt" => first | assumption | exact And.left (by assumption) | exact And.left (And.right (by assumption)) | exact And.right (by assumption) | exact And.left (And.right (And.right (by assumption))) | exact And.right (And.right (by assumption)) | exact And.left (And.right (And.right (And.right (by assumption)))) | exact And.right (And.right (And.right (by assumption))) | exact And.left (And.right (And.right (And.right (And.right (by assumption))))) | exact And.right (And.right (And.right (And.right (by assumption)))) | exact And.left (And.right (And.right (And.right (And.right (And.right (by assumption)))))) | exact And.right (And.right (And.right (And.right (And.right (by assumption))))) | exact And.left (And.right (And.right (And.right (And.right (And.right (And.right (by assumption))))))) | exact And.right (And.right (And.right (And.right (And.right (And.right (by assumption)))))) | exact And.left (And.right (And.right (And.right (And.right (And.right (And.right (And.right (by assumption)))))))) | exact And.right (And.right (And.right (And.right (And.right (And.right (And.right (by assumption))))))) | exact And.left (And.right (And.right (And.right (And.right (And.right (And.right (And.right (And.right (by assumption))))))))) | exact And.right (And.right (And.right (And.right (And.right (And.right (And.right (And.right (by assumption)))))))) | fail
  k_with "my kne" => first | assumption | (refine Ne.symm ?_; assumption) | (refine neN ?_; (try dsimp only); first | (refine Nat.ne_of_lt ?_; k_extra "my lt") | (refine Nat.ne_of_gt ?_; k_extra "my lt") | omega) | fail
  k_with "my room" => first | exact upR 0 (by assumption) rfl | exact upR 1 (by assumption) rfl | exact upR 2 (by assumption) rfl | exact upR 3 (by assumption) rfl | exact upR 4 (by assumption) rfl | exact upR 5 (by assumption) rfl | exact upR 6 (by assumption) rfl | exact upR 7 (by assumption) rfl | exact upR 8 (by assumption) rfl | fail
  k_with "my units" => first | exact upR 0 (by assumption) rfl | exact upR 1 (by assumption) rfl | exact upR 2 (by assumption) rfl | exact upR 3 (by assumption) rfl | exact upR 4 (by assumption) rfl | exact upR 5 (by assumption) rfl | exact upR 6 (by assumption) rfl | exact upR 7 (by assumption) rfl | exact upR 8 (by assumption) rfl | exact upR 9 (by assumption) rfl | exact upR 10 (by assumption) rfl | exact upR 11 (by assumption) rfl | exact upR 12 (by assumption) rfl | fail
  k_with "my sub" => first | exact List.forall_mem_nil _ | assumption | exact List.forall_mem_cons.mpr ⟨(by k_mem), (by k_extra "my sub")⟩ | (intro p9 hp9; repeat (first | exact hp9 | refine List.Mem.tail _ ?_))
  k_with "my ne" => first | exact List.forall_mem_nil _ | assumption | exact List.forall_mem_cons.mpr ⟨(by first | assumption | k_ne), (by k_extra "my ne")⟩
  k_with "my subA" => (intro p9 hp9; repeat' (first | exact hp9 | exact List.mem_append_left _ hp9 | exact List.mem_append_right _ hp9 | refine List.Mem.tail _ ?_))
  k_with "my memB" => first | assumption | exact List.Mem.head _ | (refine List.Mem.tail _ ?_; k_extra "my memB") | (refine List.mem_append_left _ ?_; k_extra "my memB") | (refine List.mem_append_right _ ?_; k_extra "my memB")
  k_with "my leafB" => first | assumption | (refine List.Mem.tail _ ?_; k_extra "my leafB") | (refine List.mem_append_left _ ?_; k_extra "my leafB") | (refine List.mem_append_right _ ?_; k_extra "my leafB")
  k_with "my subB" => first | exact List.forall_mem_nil _ | exact List.forall_mem_cons.mpr ⟨(by k_extra "my memB"), (by k_extra "my subB")⟩ | exact List.forall_mem_append.mpr ⟨(by k_extra "my subB"), (by k_extra "my subB")⟩ | (intro p9 hp9; k_extra "my leafB")
  k_with "my mem" => first | assumption | exact List.Mem.head _ | (refine' List.Mem.tail _ ?_; k_mem)
  k_with "pyIter ref" => (refine halt ?_)
  k_with "execs cons" => (k_here; dsimp only; k_gentoks)
  k_with "execs nil" => (k_here; dsimp only; k_gentoks)
  k_with "call type:range" => walk_at "my m7"
  k_with "call builtin:len" => (k_here; k_dflt (refine' len_any (by exact News.isList (by k_asm) (by k_mem)) (by omega) ?_; k_whole))
  k_with "newTuple" => (k_here; k_dflt (refine' kup_newTuple (by k_asm) (by k_asm) ?_ (by kmk_size)); walk_at "my t8")
  k_with "subscriptTail" => (k_here; (with_reducible show wpAny _ _ (subscriptTail _ _ (Value.ref _) (Value.int _ _)) _ _ _); (with_unfolding_all refine' list_ints (by k_asm) (by k_mem) (by assumption) (by omega) (by omega) (by omega) ?_); walk_at "my t9")
  k_with "my key" => (first | (refine' KeyAt.mono (by assumption) (by k_extra "my subA")) | exact ⟨_, _, rfl, by k_mem, .cons _ _ (.cons _ _ .nil)⟩)
  k_with "compareOp NotIn ref ref" => walk_at "my m28"
  k_with "execs cons" => ((with_reducible show wpAny _ _ (execs (Stmt.If _ _ _ _ :: _ :: _) _) _ _ _); refine halt ?_)
  k_with "call builtin:list.append" => (k_here; (with_reducible show wpAny _ _ (call (Value.builtin _) [Value.ref _, _]) _ _ _); k_dflt (refine' append_K (by k_asm) (by k_asm) (by k_upd) ?_ (by first | size_fits | (rw [sizeLine_eq]; omega)); k_whole); walk_at "my t29")
  k_with "call builtin:sorted" => (refine halt ?_)
  k_with "my omega" => ((fail_if_success (fail_if_success omega (config := {}))); lia)
  refine wpAny_call ?_
  k_dflt cell_enter
  k_steps
  rename_i g9 L9 h9 FG9 B9 X9 T9 D h8 lD h7 h6 tk8 t1 u1 v1 R1 F1 N1 hk1
  refine Halt.go ?_
  clear hk1
  have nD : ∀ p ∈ news, p.1 ≠ D := fun p hp => Nat.ne_of_lt (lD p hp)
  refine' range_S (σ := US) (n := n) (fun _ c => (D, W.listOf c.arr c.n) :: (c.fz ++ news)) (fun _ _ => []) (UFacts st en hi dcs acs D news) [Str.ofString "spot"] ⟨#[], 0, []⟩ rfl R1 (small_one (by omega) (by omega) (by omega) (by omega)) (by rw [rangeSize_nat]; omega) F1 N1 ⟨.nil, fun p hp => nomatch hp⟩ (List.forall_mem_nil _) ?_ ?_
  · clear R1 F1 N1
    intro i c t u I io h tk' hi2 hf hI F3 N3
    obtain ⟨hkeys, hfz⟩ := hf
    have n1 : (sc, instObj 248 ds) ∈ c.fz ++ news := List.mem_append_right _ m1
    have n2 : (ds, scanDict w pl dcl acl st en hi lo q1 q2 q3 q4 q5 q6 q7 q8 q9 q10 q11) ∈ c.fz ++ news := List.mem_append_right _ m2
    have n4 : (dcl, W.listOf vdc.toArray nd) ∈ c.fz ++ news := List.mem_append_right _ m4
    have offD : ∀ p ∈ c.fz ++ news, p.1 ≠ D := fun p hp => (List.mem_append.mp hp).elim (fun q => Nat.ne_of_gt (hfz p q).1) (nD p)
    simp only [List.forall_mem_cons] at hI
    obtain ⟨hI1, hI2⟩ := hI
    replace hI1 := neN hI1
    have ei : (0 + (i : Int)).toNat = i := by omega
    have offIn : ∀ p ∈ news, p.1 ≠ I := fun p hp => hI2 p (List.mem_append_right _ hp)
    have zc : c.arr.size ≤ 100 := by
      have e := hkeys.len
      rw [Array.length_toList] at e
      have e4 := keysN_len st en hi dcs acs i
      omega
    k_steps
    refine Halt.go ?_
    refine execs_cut (by assumption) (fun h' => ∃ (arr : Array Value) (wn : Nat) (fz : List (Addr × Obj)), News g9 L9 h' ((I, io) :: (D, W.listOf arr wn) :: (fz ++ news)) ∧ KeysAre fz arr.toList (if st = 0 ∧ hi = 0 then addK (keysN st en hi dcs acs i) [0, dcs.getD i 0] else keysN st en hi dcs acs i) ∧ ∀ p ∈ fz, D < p.1 ∧ p.1 ≠ I ∧ ∀ q ∈ news, q.1 < p.1) ?_ ?_
    · have hfz0 : ∀ p ∈ c.fz, D < p.1 ∧ p.1 ≠ I ∧ ∀ q ∈ news, q.1 < p.1 := fun p hp => ⟨(hfz p hp).1, hI2 p (List.mem_append_left _ hp), (hfz p hp).2⟩
      k_steps
      · rename_i hmem
        rename Fr g9 L9 _ _ => FY
        rename News g9 L9 _ _ => NY
        rw [ei] at hmem
        refine CutPost.intro FY ⟨c.arr, c.n, c.fz, cb_drop NY (by k_extra "my sub"), ?_, hfz0⟩
        rw [if_pos (by omega), addK, if_pos hmem]
        exact hkeys
      · rename_i hmem tkx ux T2 hx l2 hy FY NY
        rw [ei] at hmem NY
        refine CutPost.intro FY ⟨c.arr.push (.ref T2), _, (T2, _) :: c.fz, news_rot2 NY, ?_, List.forall_mem_cons.mpr ⟨⟨l2.2.2.1, Nat.ne_of_gt l2.2.1, fun q hq => allLt_iff.mp l2.2.2.2 q (List.mem_append_right _ hq)⟩, hfz0⟩⟩
        rw [if_pos (by omega), addK, if_neg hmem]
        refine KeysAre.push (hkeys.mono fun p hp => .tail _ hp) ?_
        exact ⟨_, _, rfl, .head _, .cons _ _ (.cons _ _ .nil)⟩
      all_goals
        rename Fr g9 L9 _ _ => FY
        rename News g9 L9 _ _ => NY
        refine CutPost.intro FY ⟨c.arr, c.n, c.fz, NY, ?_, hfz0⟩
        rw [if_neg (by omega)]
        exact hkeys
    · (try clear F3); (try clear N3)
      clear n1 n2 n4 offD hkeys hfz hI2 zc
      rintro hX tkX FX ⟨arr, wn, fz, NX, k1, hfz⟩
      have n1 : (sc, instObj 248 ds) ∈ fz ++ news := List.mem_append_right _ m1
      have n2 : (ds, scanDict w pl dcl acl st en hi lo q1 q2 q3 q4 q5 q6 q7 q8 q9 q10 q11) ∈ fz ++ news := List.mem_append_right _ m2
      have n5 : (acl, W.listOf vac.toArray na) ∈ fz ++ news := List.mem_append_right _ m5
      have offD : ∀ p ∈ fz ++ news, p.1 ≠ D := fun p hp => (List.mem_append.mp hp).elim (fun q => Nat.ne_of_gt (hfz p q).1) (nD p)
      have offI : ∀ p ∈ fz ++ news, p.1 ≠ I := fun p hp => (List.mem_append.mp hp).elim (fun q => (hfz p q).2.1) (offIn p)
      have hs : keysN st en hi dcs acs (i + 1) = if en > 0 then addK (if st = 0 ∧ hi = 0 then addK (keysN st en hi dcs acs i) [0, dcs.getD i 0] else keysN st en hi dcs acs i) [1, acs.getD i 0] else (if st = 0 ∧ hi = 0 then addK (keysN st en hi dcs acs i) [0, dcs.getD i 0] else keysN st en hi dcs acs i) := rfl
      have hkl : (if st = 0 ∧ hi = 0 then addK (keysN st en hi dcs acs i) [0, dcs.getD i 0] else keysN st en hi dcs acs i).length ≤ 50 := by
        have e4 := keysN_len st en hi dcs acs i
        have e5 := addK_len (keysN st en hi dcs acs i) [0, dcs.getD i 0]
        split <;> omega
      generalize (if st = 0 ∧ hi = 0 then addK (keysN st en hi dcs acs i) [0, dcs.getD i 0] else keysN st en hi dcs acs i) = KK at *
      have zc : arr.size ≤ 100 := by
        have e := k1.len
        rw [Array.length_toList] at e
        omega
      k_steps
      · rename_i hmem
        rename Fr g9 L9 _ _ => FZ
        rename News g9 L9 _ _ => NZ
        rw [ei] at hmem
        refine' TurnPost.next FZ (nx := (D, W.listOf arr wn) :: (fz ++ news)) (cb_drop NZ (by k_extra "my sub")) (List.forall_mem_cons.mpr ⟨hI1, offI⟩) ⟨⟨arr, wn, fz⟩, rfl, ⟨?fk, fun p hp => ⟨(hfz p hp).1, (hfz p hp).2.2⟩⟩, List.forall_mem_nil _, fun z hz => ?frz⟩
        case fk =>
          rw [hs, if_pos (by omega), addK, if_pos hmem]; exact k1
        case frz =>
          dsimp only
          (repeat' (with_reducible (refine off_if (ne_of_stored hz ?_) ?_)))
          all_goals first | rfl | exact mkFr_off hz rfl rfl rfl
      · rename_i hmem tkx ux T2 hx l2 hy FZ NZ
        rw [ei] at hmem NZ
        refine' TurnPost.next FZ (nx := (D, W.listOf (arr.push (.ref T2)) (wn + 1)) :: (((T2, _) :: fz) ++ news)) (news_rot2 NZ) (List.forall_mem_cons.mpr ⟨hI1, List.forall_mem_cons.mpr ⟨Nat.ne_of_gt l2.2.1, offI⟩⟩) ⟨⟨arr.push (.ref T2), wn + 1, (T2, _) :: fz⟩, rfl, ⟨?fk, List.forall_mem_cons.mpr ⟨⟨l2.2.2.1, fun q hq => allLt_iff.mp l2.2.2.2 q (List.mem_append_right _ hq)⟩, fun p hp => ⟨(hfz p hp).1, (hfz p hp).2.2⟩⟩⟩, List.forall_mem_nil _, fun z hz => ?frz⟩
        case fk =>
          rw [hs, if_pos (by omega), addK, if_neg hmem]
          refine KeysAre.push (k1.mono fun p hp => .tail _ hp) ?_
          exact ⟨_, _, rfl, .head _, .cons _ _ (.cons _ _ .nil)⟩
        case frz =>
          dsimp only
          (repeat' (with_reducible (refine off_if (ne_of_stored hz ?_) ?_)))
          all_goals first | rfl | exact mkFr_off hz rfl rfl rfl
      · rename Fr g9 L9 _ _ => FZ
        rename News g9 L9 _ _ => NZ
        refine' TurnPost.next FZ (nx := (D, W.listOf arr wn) :: (fz ++ news)) (cb_drop NZ (by k_extra "my sub")) (List.forall_mem_cons.mpr ⟨hI1, offI⟩) ⟨⟨arr, wn, fz⟩, rfl, ⟨?fk, fun p hp => ⟨(hfz p hp).1, (hfz p hp).2.2⟩⟩, List.forall_mem_nil _, fun z hz => ?frz⟩
        case fk =>
          rw [hs, if_neg (by omega)]; exact k1
        case frz =>
          dsimp only
          (repeat' (with_reducible (refine off_if (ne_of_stored hz ?_) ?_)))
          all_goals first | rfl | exact mkFr_off hz rfl rfl rfl
  · clear R1 F1 N1
    intro c u h tk' hf F3 N3
    obtain ⟨hkeys, hfz⟩ := hf
    k_steps
    refine Halt.go ?_
    have ea : c.arr = c.arr.toList.toArray := by simp
    have hne : ∀ k ∈ keysN st en hi dcs acs n, k ≠ [] := fun k hk' => keysN_ne k hk'
    refine sorted_list F3 N3 (vs := c.arr.toList) (n := c.n) (by rw [← ea]; exact .head _) (fun p hp => .tail _ (List.mem_append_left _ hp)) hkeys hne (by have := keysN_len st en hi dcs acs n; omega) fun D2 h2 vs2 c2 F4 N4 l4 k4 => ?_
    k_steps
    rename_i kF kN kT kX
    exact hret D2 vs2 c2 ((D, W.listOf c.arr c.n) :: c.fz) _ _ kF kN (k4.mono fun p hp => .tail _ hp) (List.forall_mem_cons.mpr ⟨fun q hq => l4 q (.tail _ (List.mem_append_right _ hq)), List.forall_mem_cons.mpr ⟨lD, fun p hp => (hfz p hp).2⟩⟩) (List.forall_mem_cons.mpr ⟨l4 _ (.head _), fun p hp => l4 p (.tail _ (List.mem_append_left _ hp))⟩)
end wanted
end
end Mine
-- LW
namespace Mine
section
open PyProof.Rows.LCg
noncomputable def fnOf : Stmt → Scope × List Stmt
  | .FunctionDef _ _ body _ _ _ scope _ _ _ => (scope, body)
  | _ => ({ kind := .function, names := [], isGenerator := false, isCoroutine := false }, [])
noncomputable def lastOf : List Stmt → Stmt
  | [] => .Pass ⟨0, 0, 0, 0⟩
  | [a] => a
  | _ :: b :: r => lastOf (b :: r)
noncomputable def lawFn : Scope × List Stmt := fnOf (lastOf Challenge.pw_ok0140_01.main.body)
theorem led_pull {h₀ h : Heap} {L : Addr} {led hd : List (Addr × Obj)} (N : News h₀ L h led) (hsub : ∀ p ∈ hd, p ∈ led) :
    ∃ cst : List (Addr × Obj), News h₀ L h (hd ++ cst) ∧ (∀ p ∈ cst, ∀ q ∈ hd, p.1 ≠ q.1) ∧ (∀ p ∈ led, (∀ q ∈ hd, p.1 ≠ q.1) → p ∈ cst) ∧ ∀ p ∈ cst, p ∈ led := by
  refine ⟨led.filter fun p => decide (∀ q ∈ hd, p.1 ≠ q.1), fun p hp => ?_, fun p hp => by simpa using (List.mem_filter.mp hp).2, fun p hp hq => List.mem_filter.mpr ⟨hp, by simpa using hq⟩, fun p hp => (List.mem_filter.mp hp).1⟩
  rcases List.mem_append.mp hp with hp | hp
  · exact N p (hsub p hp)
  · exact N p (List.mem_filter.mp hp).1
structure Ent where
  k : List Int
  ah : Addr
  vh : Value
  ac : Addr
  vc : Value
  g : Bool
  b : Int
  r : List Nat
noncomputable def csE (g : Bool) (r : List Nat) : List Int := if g then cntsR r else 3 :: (cntsR r).tail
noncomputable def ksE (g : Bool) (b : Int) (r : List Nat) : List Int := if g then symsOf b r.sum else [251, 252, 253] ++ (symsOf b r.sum).drop ((cntsR r).headD 0).toNat
/-- a head under its key -/
noncomputable def HeadOK (w : World) (tl : List (Addr × Obj)) (g : Bool) (b : Int) (r : List Nat) (v : Value) : Prop :=
  OkR r ∧ r.length = 9 ∧ ∃ (tu cnt sy : Addr) (cv : Value) (cvs svs : List Value) (ns : Nat), v = .ref tu ∧ (tu, tupO [.ref cnt, .ref sy, cv]) ∈ tl ∧ (cnt, tupO cvs) ∈ tl ∧ (sy, W.listOf svs.toArray ns) ∈ tl ∧ IntsAre cvs (csE g r) ∧ IntsAre svs (ksE g b r) ∧
    (g = false → cv = .none) ∧ (g = true → ∃ (cd : Addr) (od : Obj) (kvs : List (Int × Value)), cv = .ref cd ∧ (cd, od) ∈ tl ∧ od.IsDictOf (intKind Challenge.rw_ok0140_01.row.prog w) kvs ∧ PyProof.V.FlatPairs PyData.int kvs (codeD b r) ∧ (cd == sysModules) = false)
noncomputable def EntOK (w : World) (tl : List (Addr × Obj)) (e : Ent) : Prop := KeyAt tl e.k (.ref e.ah) ∧ KeyAt tl e.k (.ref e.ac) ∧ HeadOK w tl e.g e.b e.r e.vh ∧ CodeEnt tl (csE e.g e.r) (ksE e.g e.b e.r) e.vc
theorem CodeEnt.mono {led led' : List (Addr × Obj)} {cs9 ks : List Int} {v : Value} (h : CodeEnt led cs9 ks v) (hs : ∀ p ∈ led, p ∈ led') : CodeEnt led' cs9 ks v := by
  obtain ⟨⟨cu, tu, cvs, b9, t9, e, h1, h2, h3⟩, r⟩ := h
  exact ⟨⟨cu, tu, cvs, b9, t9, e, hs _ h1, hs _ h2, h3⟩, r⟩
theorem HeadOK.mono {w : World} {tl tl' : List (Addr × Obj)} {g : Bool} {b : Int} {r : List Nat} {v : Value} (h : HeadOK w tl g b r v) (hs : ∀ p ∈ tl, p ∈ tl') : HeadOK w tl' g b r v := by
  obtain ⟨h1, h2, tu, cnt, sy, cv, cvs, svs, ns, e, m1, m2, m3, i1, i2, g1, g2⟩ := h
  refine ⟨h1, h2, tu, cnt, sy, cv, cvs, svs, ns, e, hs _ m1, hs _ m2, hs _ m3, i1, i2, g1, fun q => ?_⟩
  obtain ⟨cd, od, kvs, e2, m4, r⟩ := g2 q
  exact ⟨cd, od, kvs, e2, hs _ m4, r⟩
theorem EntOK.mono {w : World} {tl tl' : List (Addr × Obj)} {e : Ent} (h : EntOK w tl e) (hs : ∀ p ∈ tl, p ∈ tl') : EntOK w tl' e := ⟨h.1.mono hs, h.2.1.mono hs, h.2.2.1.mono hs, h.2.2.2.mono hs⟩
noncomputable def xsH (es : List Ent) : List (List Int × Addr × Value) := es.map fun e => (e.k, e.ah, e.vh)
noncomputable def xsC (es : List Ent) : List (List Int × Addr × Value) := es.map fun e => (e.k, e.ac, e.vc)
structure WS where
  os : Obj
  b : Int
  tb : Tok
  oH : Obj
  oC : Obj
  es : List Ent
  tl : List (Addr × Obj)
noncomputable def Off4 (src bx hd cd : Addr) (tl : List (Addr × Obj)) : Prop := ∀ p ∈ tl, p.1 ≠ src ∧ p.1 ≠ bx ∧ p.1 ≠ hd ∧ p.1 ≠ cd
noncomputable def WFacts (w : World) (src bx hd cd : Addr) (cs2 : List (Addr × Obj)) (lim : Nat) (c : WS) : Prop :=
  IsSrc c.os ∧ 1 ≤ c.b ∧ c.b ≤ 1 + lim ∧ IsTD Challenge.rw_ok0140_01.row.prog w c.oH (xsH c.es) ∧ IsTD Challenge.rw_ok0140_01.row.prog w c.oC (xsC c.es) ∧ (∀ e ∈ c.es, EntOK w c.tl e) ∧ (∀ e ∈ c.es, ∃ x y : Nat, e.k = [(x : Int), (y : Int)] ∧ 3 * x + y < lim ∧ y < 3) ∧
    Off4 src bx hd cd c.tl ∧ (∀ p ∈ cs2, p ∈ c.tl) ∧ c.es.length ≤ lim
theorem keysH {w : World} {tl : List (Addr × Obj)} {es : List Ent} (h : ∀ e ∈ es, EntOK w tl e) : TDKeys tl (xsH es) := fun x hx => by
  obtain ⟨e, he, rfl⟩ := List.mem_map.mp hx
  exact (h e he).1
theorem keysC {w : World} {tl : List (Addr × Obj)} {es : List Ent} (h : ∀ e ∈ es, EntOK w tl e) : TDKeys tl (xsC es) := fun x hx => by
  obtain ⟨e, he, rfl⟩ := List.mem_map.mp hx
  exact (h e he).2.1
theorem keyH_new {es : List Ent} {x y lim : Nat} (h : ∀ e ∈ es, ∃ x y : Nat, e.k = [(x : Int), (y : Int)] ∧ 3 * x + y < lim ∧ y < 3) (hl : lim = 3 * x + y) (hy : y < 3) : [(x : Int), (y : Int)] ∉ es.map (·.k) := fun hm => by
  obtain ⟨e, he, ek⟩ := List.mem_map.mp hm
  obtain ⟨x', y', e2, h1, h2⟩ := h e he
  rw [e2] at ek
  injection ek with a1 a2
  injection a2 with a3
  omega
theorem atKey_last {xs : List (List Int × Addr × Value)} {k : List Int} {a : Addr} {v : Value} (h : k ∉ xs.map (·.1)) : atKey (xs ++ [(k, a, v)]) k = some (a, v) := by
  have h0 := atKey_none h
  unfold atKey at h0 ⊢
  rw [List.find?_append]
  have h1 : (xs.find? fun x => decide (x.1 = k)) = none := by simpa using h0
  rw [h1]
  simp
theorem storedH_last {xs : List (List Int × Addr × Value)} {k : List Int} {a a' : Addr} {v v' : Value} (h : k ∉ xs.map (·.1)) : storedH (xs ++ [(k, a, v)]) k a' v' = xs ++ [(k, a, v')] := by
  rw [storedH_old (atKey_last h), List.map_append, map_putAt_of_not_mem _ _ _ h]
  simp [putAt]
theorem tdk_snoc {tl : List (Addr × Obj)} {xs : List (List Int × Addr × Value)} {k : List Int} {a : Addr} {v : Value} (h : TDKeys tl xs) (hk : KeyAt tl k (.ref a)) : TDKeys tl (xs ++ [(k, a, v)]) := fun x hx => by
  rcases List.mem_append.mp hx with hx | hx
  · exact h x hx
  · rw [List.mem_singleton.mp hx]; exact hk
theorem cnts_cons {r : List Nat} (h : r.length = 9) : ∃ (c0 : Int) (cs0 : List Int), cntsR r = c0 :: cs0 := by
  have := cnts_len (r := r) (by omega)
  cases e : cntsR r with
  | nil => rw [e] at this; cases this
  | cons a l => exact ⟨a, l, rfl⟩
theorem head_bad {w : World} {b : Int} {r : List Nat} {v : Value} {c0 : Int} {cs0 : List Int} {fz tl : List (Addr × Obj)} (ec : cntsR r = c0 :: cs0) (h : HeadBad (3 :: cs0) ([251, 252, 253] ++ (symsOf b r.sum).drop c0.toNat) v fz) (ho : OkR r) (h9 : r.length = 9) (hs : ∀ p ∈ fz, p ∈ tl) : HeadOK w tl false b r v := by
  obtain ⟨tu, cnt, sy, cvs, svs, ns, e, e2, i1, i2⟩ := h
  subst e2
  refine ⟨ho, h9, tu, cnt, sy, .none, cvs, svs, ns, e, hs _ (.head _), hs _ (.tail _ (.head _)), hs _ (.tail _ (.tail _ (.head _))), ?_, ?_, (fun _ => rfl), fun q => nomatch q⟩
  · show IntsAre cvs (3 :: (cntsR r).tail)
    rw [ec]; exact i1
  · show IntsAre svs ([251, 252, 253] ++ (symsOf b r.sum).drop ((cntsR r).headD 0).toNat)
    rw [ec]; exact i2
theorem csE_len {g : Bool} {r : List Nat} (h : r.length = 9) : (csE g r).length = 16 := by
  have := cnts_len (r := r) (by omega)
  cases g with
  | true => exact this
  | false => show (3 :: (cntsR r).tail).length = 16; rw [List.length_cons, List.length_tail]; omega
theorem csE_pos {g : Bool} {r : List Nat} : ∀ c ∈ csE g r, 0 ≤ c := fun c hc => by
  cases g with
  | true => exact cnts_nn r c hc
  | false =>
    rcases List.mem_cons.mp (show c ∈ 3 :: (cntsR r).tail from hc) with rfl | h
    · decide
    · exact cnts_nn r c (List.mem_of_mem_tail h)
theorem ksE_sum {g : Bool} {b : Int} {r : List Nat} (h : r.length = 9) : (csE g r).sum = ((ksE g b r).length : Int) := by
  have h1 : (cntsR r).sum = (r.sum : Int) := cnts_sum
  have h2 : (symsOf b r.sum).length = r.sum := syms_len _ _
  cases g with
  | true => show (cntsR r).sum = ((symsOf b r.sum).length : Int); omega
  | false =>
    obtain ⟨c0, cs0, e⟩ := cnts_cons h
    show (3 :: (cntsR r).tail).sum = (([251, 252, 253] ++ (symsOf b r.sum).drop ((cntsR r).headD 0).toNat).length : Int)
    have p0 := cnts_nn r
    rw [e] at h1 p0 ⊢
    have p1 := p0 c0 (.head _)
    have p2 := sum_nonneg (cs := cs0) fun x hx => p0 x (.tail _ hx)
    rw [List.sum_cons] at h1
    simp only [List.tail_cons, List.sum_cons, List.headD_cons, List.length_append, List.length_drop, List.length_cons, List.length_nil]
    omega
theorem ksE_len {g : Bool} {b : Int} {r : List Nat} (ho : OkR r) (h : r.length = 9) : (ksE g b r).length < 100 := by
  have h2 : (symsOf b r.sum).length = r.sum := syms_len _ _
  have h3 := ok_sum ho
  cases g with
  | true => show (symsOf b r.sum).length < 100; omega
  | false =>
    show ([251, 252, 253] ++ (symsOf b r.sum).drop ((cntsR r).headD 0).toNat).length < 100
    rw [List.length_append, List.length_drop]
    simp only [List.length_cons, List.length_nil]
    omega
theorem ksE_in {g : Bool} {b : Int} {r : List Nat} : KBa.In (ksE g b r) := by
  have h : ∀ x ∈ symsOf b r.sum, 0 ≤ x ∧ x < 256 := fun x hx => by
    obtain ⟨j, _, rfl⟩ := List.mem_map.mp hx
    rw [symOf_eq]; omega
  intro x hx
  cases g with
  | true => exact h x hx
  | false =>
    rcases List.mem_append.mp (show x ∈ [251, 252, 253] ++ (symsOf b r.sum).drop ((cntsR r).headD 0).toNat from hx) with hx | hx
    · simp only [List.mem_cons, List.not_mem_nil, or_false] at hx
      omega
    · exact h x (List.mem_of_mem_drop hx)
theorem head_good {w : World} {b : Int} {r : List Nat} {v : Value} {fz tl : List (Addr × Obj)} (h : HeadObjs w b r v fz) (ho : OkR r) (h9 : r.length = 9) (hs : ∀ p ∈ fz, p ∈ tl) : HeadOK w tl true b r v := by
  obtain ⟨tu, cnt, sy, cd, cvs, svs, od, kvs, ns, e, e2, i1, i2, h1, h2, h3⟩ := h
  subst e2
  exact ⟨ho, h9, tu, cnt, sy, .ref cd, cvs, svs, ns, e, hs _ (.head _), hs _ (.tail _ (.head _)), hs _ (.tail _ (.tail _ (.head _))), i1, i2, (fun q => nomatch q), fun _ => ⟨cd, od, kvs, rfl, hs _ (.tail _ (.tail _ (.tail _ (.head _)))), h1, h2, h3⟩⟩
end
end Mine
local macro_rules | `(tactic| walk_at "my m31") => `(tactic| (k_here; (rename Fr _ _ _ _ => lF'); (with_unfolding_all refine' For_invVF lF' ?k1 ?k2 ?_; (case k1 => exact rfl); (case k2 => exact rfl); k_whole)))
local macro_rules | `(tactic| passes_own) => `(tactic| assumption)
namespace Mine
section
open PyProof.Rows.LCg
section rest
theorem law_rest {w : World} {mean : ExcName → Option Value} {mg mb : Str → Option Value} {g : Heap} {L fa : Addr} {ccd : Value} {m0 u0 : Str → Option Value} {cst : List (Addr × Obj)} {src bx hd cd tb sc dt qd xd : Addr} {os oH oC cT cHd cS : Obj} {tbx z1 z2 z3 : Tok} {s : Shared} {Q : Flow → Shared → Prop} {E : Value → Shared → Prop}
    (BL : Below callerA g [] g) (F : Fr g L s.heap (mkFr [(Str.ofString "box", .ref bx), (Str.ofString "scan", .ref sc), (Str.ofString "tables", .ref tb)] [] u0 m0)) (X : (Mine.hd.heap_39 w.params).In g) (T : Top Mine.hd.view_39 (looseW Mine.hd.view_39 []) mean mg mb g)
    (N : News g L s.heap ((src, os) :: (bx, W.listOf #[.int 1 tbx] 0) :: (hd, oH) :: (cd, oC) :: (L + 1 + 1 + 1 + 1, cT) :: cst))
    (hbs : bx ≠ src) (hhs : hd ≠ src) (hhb : hd ≠ bx) (hcs : cd ≠ src) (hcb : cd ≠ bx) (hch : cd ≠ hd) (hoff : Off4 src bx hd cd ((L + 1 + 1 + 1 + 1, cT) :: cst)) (hH : IsTD Challenge.rw_ok0140_01.row.prog w oH []) (hC : IsTD Challenge.rw_ok0140_01.row.prog w oC []) (hE : PassesOwn (model Challenge.rw_ok0140_01.row.prog w) (callerA.deeper (envOfC (Str.ofString "law") lawFn.1 L fa ccd)) (envOfC (Str.ofString "law") lawFn.1 L fa ccd) E)
    (y1 : (L + 1, cS) ∈ cst) (d1 : cS.data = Data.cell (some (.ref src))) (y2 : (L + 1 + 1 + 1, cHd) ∈ cst) (d2 : cHd.data = Data.cell (some (.ref hd))) (hs : IsSrc os) (y3 : (tb, instObj 157 dt) ∈ cst) (y4 : (dt, tabsDict w qd cd xd z1 z2 z3) ∈ cst)
    (hnext : ∀ (c : WS) (u : Str → Option Value) (h' : Heap) (tk' : Nat), WFacts w src bx hd cd ((L + 1 + 1 + 1 + 1, cT) :: cst) 6 c → Fr g L h' (mkFr [] [Str.ofString "kind", Str.ofString "slot"] u (mkFr [(Str.ofString "box", .ref bx), (Str.ofString "scan", .ref sc), (Str.ofString "tables", .ref tb)] [] u0 m0)) →
      News g L h' ((src, c.os) :: (bx, W.listOf #[.int c.b c.tb] 0) :: (hd, c.oH) :: (cd, c.oC) :: c.tl) → wpAny (model Challenge.rw_ok0140_01.row.prog w) (callerA.deeper (envOfC (Str.ofString "law") lawFn.1 L fa ccd)) (execs (lawFn.2.drop 7) (envOfC (Str.ofString "law") lawFn.1 L fa ccd)) Q E { s with heap := h', toks := tk' }) :
    wpAny (model Challenge.rw_ok0140_01.row.prog w) (callerA.deeper (envOfC (Str.ofString "law") lawFn.1 L fa ccd)) (execs (lawFn.2.drop 6) (envOfC (Str.ofString "law") lawFn.1 L fa ccd)) Q E s := by
  k_with_none
  k_with "my lt" => first | assumption | exact And.left (by assumption) | exact And.left (And.right (by assumption)) | exact And.right (by assumption) | exact And.left (And.right (And.right (by assumption))) | exact And.right (And.right (by assumption)) | exact And.left (And.right (And.right (And.right (by assumption)))) | exact And.right (And.right (And.right (by assumption))) | exact And.left (And.right (And.right (And.right (And.right (by assumption))))) | exact And.right (And.right (And.right (And.right (by assumption)))) | exact And.left (And.right (And.right (And.right (And.right (And.right (by assumption)))))) | exact And.right (And.right (And.right (And.right (And.right (by assumption))))) | exact And.left (And.right (And.right (And.right (And.right (And.right (And.right (by assumption))))))) | exact And.right (And.right (And.right (And.right (And.right (And.right (by assumption)))))) | exact And.left (And.right (And.right (And.right (And.right (And.right (And.right (And.right (by assumption)))))))) | exact And.right (And.right (And.right (And.right (And.right (And.right (And.right (by assumption))))))) | exact And.left (And.right (And.right (And.right (And.right (And.right (And.right (And.right (And.right (by assumption))))))))) | exact And.right (And.right (And.right (And.right (And.right (And.right (And.right (And.right (by assumption)))))))) | fail
  k_with "my kne" => first | assumption | (refine Ne.symm ?_; assumption) | (refine neN ?_; (try dsimp only); first | (refine Nat.ne_of_lt ?_; k_extra "my lt") | (refine Nat.ne_of_gt ?_; k_extra "my lt") | omega) | fail
  k_with "my room" => first | exact upR 0 (by assumption) rfl | exact upR 1 (by assumption) rfl | exact upR 2 (by assumption) rfl | exact upR 3 (by assumption) rfl | exact upR 4 (by assumption) rfl | exact upR 5 (by assumption) rfl | exact upR 6 (by assumption) rfl | exact upR 7 (by assumption) rfl | exact upR 8 (by assumption) rfl | fail
  k_with "my units" => first | exact upR 0 (by assumption) rfl | exact upR 1 (by assumption) rfl | exact upR 2 (by assumption) rfl | exact upR 3 (by assumption) rfl | exact upR 4 (by assumption) rfl | exact upR 5 (by assumption) rfl | exact upR 6 (by assumption) rfl | exact upR 7 (by assumption) rfl | exact upR 8 (by assumption) rfl | exact upR 9 (by assumption) rfl | exact upR 10 (by assumption) rfl | exact upR 11 (by assumption) rfl | exact upR 12 (by assumption) rfl | fail
  k_with "my sub" => first | exact List.forall_mem_nil _ | assumption | exact List.forall_mem_cons.mpr ⟨(by k_mem), (by k_extra "my sub")⟩ | (intro p9 hp9; repeat (first | exact hp9 | refine List.Mem.tail _ ?_))
  k_with "my ne" => first | exact List.forall_mem_nil _ | assumption | exact List.forall_mem_cons.mpr ⟨(by first | assumption | k_ne), (by k_extra "my ne")⟩
  k_with "my subA" => (intro p9 hp9; repeat' (first | exact hp9 | exact List.mem_append_left _ hp9 | exact List.mem_append_right _ hp9 | refine List.Mem.tail _ ?_))
  k_with "my memB" => first | assumption | exact List.Mem.head _ | (refine List.Mem.tail _ ?_; k_extra "my memB") | (refine List.mem_append_left _ ?_; k_extra "my memB") | (refine List.mem_append_right _ ?_; k_extra "my memB")
  k_with "my leafB" => first | assumption | (refine List.Mem.tail _ ?_; k_extra "my leafB") | (refine List.mem_append_left _ ?_; k_extra "my leafB") | (refine List.mem_append_right _ ?_; k_extra "my leafB")
  k_with "my subB" => first | exact List.forall_mem_nil _ | exact List.forall_mem_cons.mpr ⟨(by k_extra "my memB"), (by k_extra "my subB")⟩ | exact List.forall_mem_append.mpr ⟨(by k_extra "my subB"), (by k_extra "my subB")⟩ | (intro p9 hp9; k_extra "my leafB")
  k_with "exec For Name Call cons nil" => walk_at "my m31"
  k_with "setItem ref ref" => (refine halt ?_)
  k_with "call type:bytes" => (refine halt ?_)
  k_with "subscriptTail" => (k_here; (with_reducible show wpAny _ _ (subscriptTail _ _ (Value.ref _) (Value.ref _)) _ _ _); refine halt ?_)
  k_with "my mem" => first | assumption | exact List.Mem.head _ | (refine' List.Mem.tail _ ?_; k_mem)
  k_with "eval ListComp" => (refine halt ?_)
  k_with "exec Assign cons ListComp" => (refine halt ?_)
  k_with "CompSrc" => (refine halt ?_)
  k_with "pyIter ref" => (refine halt ?_)
  k_with "exec Try" => (refine halt ?_)
  k_with "call ref" => (k_here; (with_reducible show wpAny _ _ (call (Value.ref _) _) _ _ _); refine halt ?_)
  k_with "call type:range" => walk_at "my m24"
  k_with "newTuple" => (k_here; k_dflt (refine' kup_newTuple (by k_asm) (by k_asm) ?_ (by kmk_size)); walk_at "my t8")
  k_with "execs cons" => (k_here; dsimp only; k_gentoks)
  k_with "call ref" => (k_here; k_dflt (refine' take_c (by k_asm) (by k_asm) (by k_asm) (by k_asm) (by k_asm) (by first | exact rfl | assumption) (by k_updF) (by assumption) (by first | decide | omega) (by first | decide | omega) (by ktr_room) (by ktr_units) ?_); walk_at "my t1")
  k_with "execs cons" => ((with_reducible show wpAny _ _ (execs (Stmt.If _ _ _ _ :: _ :: _) _) _ _ _); refine halt ?_)
  k_with "my omega" => ((fail_if_success (fail_if_success omega (config := {}))); lia)
  have e1 : lawFn.1 = lawFn.1 := rfl
  have e2 : lawFn.2.drop 6 = lawFn.2.drop 6 := rfl
  conv at e1 => rhs; whnf
  conv at e2 => rhs; whnf
  rw [e1] at hE ⊢
  rw [e2]
  clear e1 e2
  show wpAny _ _ _ _ _ _
  replace hbs := neN hbs; replace hhs := neN hhs; replace hhb := neN hhb; replace hcs := neN hcs; replace hcb := neN hcb; replace hch := neN hch
  generalize hcs2 : ((L + 1 + 1 + 1 + 1, cT) :: cst) = cs2 at N hoff
  have y1' : (L + 1, cS) ∈ cs2 := by rw [← hcs2]; exact .tail _ y1
  have y2' : (L + 1 + 1 + 1, cHd) ∈ cs2 := by rw [← hcs2]; exact .tail _ y2
  have y3' : (tb, instObj 157 dt) ∈ cs2 := by rw [← hcs2]; exact .tail _ y3
  have y4' : (dt, tabsDict w qd cd xd z1 z2 z3) ∈ cs2 := by rw [← hcs2]; exact .tail _ y4
  k_steps
  rename_i h1 tk1 t1 u1 v1 R1 F1 N1 hk1
  clear hk1
  refine Halt.go ?_
  refine' range_S (σ := WS) (n := 2) (fun _ c => (src, c.os) :: (bx, W.listOf #[.int c.b c.tb] 0) :: (hd, c.oH) :: (cd, c.oC) :: c.tl) (fun _ _ => []) (fun i c => WFacts w src bx hd cd cs2 (3 * i) c) [Str.ofString "kind", Str.ofString "slot"] ⟨os, 1, tbx, oH, oC, [], cs2⟩ rfl R1 (by decide) (by rfl) F1 N1 ⟨hs, Int.le_refl _, Int.le_refl _, hH, hC, fun _ h => absurd h List.not_mem_nil, fun _ h => absurd h List.not_mem_nil, hoff, (fun _ h => h), Nat.le_refl _⟩ (List.forall_mem_nil _) ?_ ?_
  · clear R1 F1 N1
    intro i c t u I io h tk' hi hf hI F3 N3
    simp only [List.forall_mem_cons] at hI
    obtain ⟨hI1, hI2, hI3, hI4, hI5⟩ := hI
    replace hI1 := neN hI1; replace hI2 := neN hI2; replace hI3 := neN hI3; replace hI4 := neN hI4
    have hoff3 := hf.2.2.2.2.2.2.2.1
    k_steps
    rename_i h2 tk2 t2 u2 v2 R2 F2 N2 hk2
    clear hk2
    refine Halt.go ?_
    refine' range_S (σ := WS) (n := 3) (fun _ c => (I, io) :: (src, c.os) :: (bx, W.listOf #[.int c.b c.tb] 0) :: (hd, c.oH) :: (cd, c.oC) :: c.tl) (fun _ _ => []) (fun j c => WFacts w src bx hd cd cs2 (3 * i + j) c ∧ ∀ p ∈ c.tl, p.1 ≠ I) [Str.ofString "slot"] c rfl R2 (by decide) (by rfl) F2 N2 ⟨hf, hI5⟩ (List.forall_mem_nil _) ?_ ?_
    · clear R2 F2 N2 hf hI5 hoff3
      intro j c tj u3 J jo h3 tk3 hj hf2 hJ F4 N4
      obtain ⟨⟨hso, hb1, hb2, hTH, hTC, hes, hks, hof, hcs3, hel⟩, hofI⟩ := hf2
      simp only [List.forall_mem_cons] at hJ
      obtain ⟨hJ0, hJ1, hJ2, hJ3, hJ4, hJ5⟩ := hJ
      replace hJ0 := neN hJ0; replace hJ1 := neN hJ1; replace hJ2 := neN hJ2; replace hJ3 := neN hJ3; replace hJ4 := neN hJ4
      have o1 : ∀ p ∈ c.tl, p.1 ≠ src := fun p hp => (hof p hp).1
      have o2 : ∀ p ∈ c.tl, p.1 ≠ bx := fun p hp => (hof p hp).2.1
      have o3 : ∀ p ∈ c.tl, p.1 ≠ hd := fun p hp => (hof p hp).2.2.1
      have o4 : ∀ p ∈ c.tl, p.1 ≠ cd := fun p hp => (hof p hp).2.2.2
      have c1 := hcs3 _ y1'
      have c2 := hcs3 _ y2'
      have nIs : I ≠ src := Ne.symm hI1
      have nIb : I ≠ bx := Ne.symm hI2
      have nIh : I ≠ hd := Ne.symm hI3
      have nIc : I ≠ cd := Ne.symm hI4
      k_steps
      · rename_i r9 o9 t9 h9 tk9 F9 N9 S9 r0 r1 hgt
        refine Halt.go ?_
        have NH : News g L h9 ((src, o9) :: (bx, W.listOf #[.int c.b c.tb] 0) :: (J, jo) :: (I, io) :: (hd, c.oH) :: (cd, c.oC) :: c.tl) := cb_drop N9 (by k_extra "my sub")
        k_here
        k_dflt (refine' head_core (b := c.b) ?k1 ?k2 ?k3 NH ?k5 ?kK ?hne ?hne2 hbs S9 ?hb0 ?hb1 ?kd ?ku ?_; (case k1 => k_asm); (case k2 => k_asm); (case k3 => k_asm); (case k5 => k_asm); (case kK => first | exact rfl | assumption); (case hb0 => omega); (case hb1 => omega); (case kd => ktr_room); (case ku => ktr_units))
        case hne => exact List.forall_mem_cons.mpr ⟨Ne.symm hJ1, List.forall_mem_cons.mpr ⟨nIs, List.forall_mem_cons.mpr ⟨hhs, List.forall_mem_cons.mpr ⟨hcs, o1⟩⟩⟩⟩
        case hne2 => exact List.forall_mem_cons.mpr ⟨Ne.symm hJ2, List.forall_mem_cons.mpr ⟨nIb, List.forall_mem_cons.mpr ⟨hhb, List.forall_mem_cons.mpr ⟨hcb, o2⟩⟩⟩⟩
        intro r o' v fz t' h10 tk10 hok hr9 hso' hho hab F10 N10
        have hgt2 : ∀ p ∈ fz, ∀ q ∈ (src, o9) :: (bx, W.listOf #[.int c.b c.tb] 0) :: (J, jo) :: (I, io) :: (hd, c.oH) :: (cd, c.oC) :: c.tl, q.1 < p.1 := fun p hp => allLt_iff.mp (hab p hp)
        have N11 : News g L h10 ((J, jo) :: (I, io) :: (src, o') :: (bx, W.listOf #[.int (c.b + 1) t'] 0) :: (hd, c.oH) :: (cd, c.oC) :: (fz ++ c.tl)) := cb_drop N10 (by k_extra "my subB")
        clear N10 NH N9
        have hHd := head_good (tl := fz ++ c.tl) hho hok hr9 fun p hp => List.mem_append_left _ hp
        have hes1 : ∀ e ∈ c.es, EntOK w (fz ++ c.tl) e := fun e he => (hes e he).mono fun p hp => List.mem_append_right _ hp
        have hof1 : Off4 src bx hd cd (fz ++ c.tl) := fun p hp => (List.mem_append.mp hp).elim (fun q => ⟨Nat.ne_of_gt (hgt2 p q _ (.head _)), Nat.ne_of_gt (hgt2 p q _ (.tail _ (.head _))), Nat.ne_of_gt (hgt2 p q _ (.tail _ (.tail _ (.tail _ (.tail _ (.head _)))))), Nat.ne_of_gt (hgt2 p q _ (.tail _ (.tail _ (.tail _ (.tail _ (.tail _ (.head _)))))))⟩) (hof p)
        have hoJ : ∀ p ∈ fz ++ c.tl, p.1 ≠ J := fun p hp => (List.mem_append.mp hp).elim (fun q => Nat.ne_of_gt (hgt2 p q _ (.tail _ (.tail _ (.head _))))) (hJ5 p)
        have hoI : ∀ p ∈ fz ++ c.tl, p.1 ≠ I := fun p hp => (List.mem_append.mp hp).elim (fun q => Nat.ne_of_gt (hgt2 p q _ (.tail _ (.tail _ (.tail _ (.head _)))))) (hofI p)
        have hcs4 : ∀ p ∈ cs2, p ∈ fz ++ c.tl := fun p hp => List.mem_append_right _ (hcs3 p hp)
        clear hho hab hgt2 o1 o2 o3 o4 c1 c2 hes hof hJ5 hofI hcs3
        generalize fz ++ c.tl = tl1 at *
        have o1 : ∀ p ∈ tl1, p.1 ≠ src := fun p hp => (hof1 p hp).1
        have o2 : ∀ p ∈ tl1, p.1 ≠ bx := fun p hp => (hof1 p hp).2.1
        have o3 : ∀ p ∈ tl1, p.1 ≠ hd := fun p hp => (hof1 p hp).2.2.1
        have o4 : ∀ p ∈ tl1, p.1 ≠ cd := fun p hp => (hof1 p hp).2.2.2
        have c1 := hcs4 _ y1'
        have c2 := hcs4 _ y2'
        k_steps
        refine Halt.go ?_
        rename_i T hT FS NS lT
        have hnew := keyH_new (x := i) (y := j) hks rfl (by omega)
        have ekey : [(0 : Int) + (i : Int), 0 + (j : Int)] = [(i : Int), (j : Int)] := by simp
        refine td_set (prog := Challenge.rw_ok0140_01.row.prog) (k := [(i : Int), (j : Int)]) FS NS (by k_updF) hTH ((keysH hes1).mono fun p hp => .tail _ (.tail _ (.tail _ (.tail _ (.tail _ (.tail _ (.tail _ hp))))))) ?hx (by ktr_units) ?hz fun h16 oH1 T1 tk16 eT F16 N16 hTH16 hk16 => ?_
        case hx => exact ⟨_, _, rfl, .head _, by rw [← ekey]; exact .cons _ _ (.cons _ _ .nil)⟩
        case hz => rw [xsH, List.length_map]; omega
        cases eT
        rw [storedH_new (atKey_none (by rw [xsH, List.map_map]; exact hnew))] at hTH16 hk16
        obtain ⟨tupT, etup, hitup⟩ : ∃ us : List Value, (⟨.type "tuple", none, .seq us.toArray 0, #[]⟩ : Obj) = tupO us ∧ IntsAre us [(i : Int), (j : Int)] := ⟨[.int (0 + (i : Int)) t, .int (0 + (j : Int)) tj], rfl, by rw [← ekey]; exact .cons _ _ (.cons _ _ .nil)⟩
        have N17 : News g L h16 ((J, jo) :: (I, io) :: (src, o') :: (bx, W.listOf #[.int (c.b + 1) t'] 0) :: (hd, oH1) :: (cd, c.oC) :: ((T, tupO [.int (0 + (i : Int)) t, .int (0 + (j : Int)) tj]) :: tl1)) := cb_drop N16 (by k_extra "my sub")
        have kT : KeyAt ((T, tupO [.int (0 + (i : Int)) t, .int (0 + (j : Int)) tj]) :: tl1) [(i : Int), (j : Int)] (.ref T) := ⟨T, _, rfl, .head _, by rw [← ekey]; exact .cons _ _ (.cons _ _ .nil)⟩
        have hof2 : Off4 src bx hd cd ((T, tupO [.int (0 + (i : Int)) t, .int (0 + (j : Int)) tj]) :: tl1) := List.forall_mem_cons.mpr ⟨⟨Nat.ne_of_gt lT.2.2.1, Nat.ne_of_gt lT.2.2.2.1, Nat.ne_of_gt lT.2.2.2.2.1, Nat.ne_of_gt lT.2.2.2.2.2.1⟩, hof1⟩
        have hoJ2 : ∀ p ∈ (T, tupO [.int (0 + (i : Int)) t, .int (0 + (j : Int)) tj]) :: tl1, p.1 ≠ J := List.forall_mem_cons.mpr ⟨Nat.ne_of_gt lT.1, hoJ⟩
        have hoI2 : ∀ p ∈ (T, tupO [.int (0 + (i : Int)) t, .int (0 + (j : Int)) tj]) :: tl1, p.1 ≠ I := List.forall_mem_cons.mpr ⟨Nat.ne_of_gt lT.2.1, hoI⟩
        have hs12 : ∀ p ∈ tl1, p ∈ (T, tupO [.int (0 + (i : Int)) t, .int (0 + (j : Int)) tj]) :: tl1 := fun p hp => .tail _ hp
        have hHd2 := hHd.mono hs12
        have hes2 : ∀ e ∈ c.es, EntOK w ((T, tupO [.int (0 + (i : Int)) t, .int (0 + (j : Int)) tj]) :: tl1) e := fun e he => (hes1 e he).mono hs12
        have hcs5 : ∀ p ∈ cs2, p ∈ (T, tupO [.int (0 + (i : Int)) t, .int (0 + (j : Int)) tj]) :: tl1 := fun p hp => hs12 p (hcs4 p hp)
        clear N16 hk16 hs12 hHd hes1 hcs4 hof1 hoJ hoI o1 o2 o3 o4 c1 c2 lT NS FS etup hitup tupT
        (try clear N11); (try clear F10)
        generalize (T, tupO [.int (0 + (i : Int)) t, .int (0 + (j : Int)) tj]) :: tl1 = tl2 at *
        have o1 : ∀ p ∈ tl2, p.1 ≠ src := fun p hp => (hof2 p hp).1
        have o2 : ∀ p ∈ tl2, p.1 ≠ bx := fun p hp => (hof2 p hp).2.1
        have o3 : ∀ p ∈ tl2, p.1 ≠ hd := fun p hp => (hof2 p hp).2.2.1
        have o4 : ∀ p ∈ tl2, p.1 ≠ cd := fun p hp => (hof2 p hp).2.2.2
        have c1 := hcs5 _ y1'
        have c2 := hcs5 _ y2'
        k_steps
        refine Halt.go ?_
        refine execs_cut (by assumption) (fun h' => ∃ (os2 oH2 : Obj) (vh : Value) (gg : Bool) (tl3 : List (Addr × Obj)), IsSrc os2 ∧ News g L h' ((J, jo) :: (I, io) :: (src, os2) :: (bx, W.listOf #[.int (c.b + 1) t'] 0) :: (hd, oH2) :: (cd, c.oC) :: tl3) ∧ IsTD Challenge.rw_ok0140_01.row.prog w oH2 (xsH c.es ++ [([(i : Int), (j : Int)], T, vh)]) ∧ HeadOK w tl3 gg c.b r vh ∧ (∀ p ∈ tl2, p ∈ tl3) ∧ Off4 src bx hd cd tl3 ∧ (∀ p ∈ tl3, p.1 ≠ J) ∧ ∀ p ∈ tl3, p.1 ≠ I) ?_ ?_
        · k_steps
          · rename_i r9 o9 t9 h9 tk9 S9 r0 r1 heq T2 hx2 F5 N5 lT2
            refine Halt.go ?_
            have hnewH : [(i : Int), (j : Int)] ∉ (xsH c.es).map (·.1) := by rw [xsH, List.map_map]; exact hnew
            have hkx := tdk_snoc (v := v) (keysH hes2) kT
            refine td_tail (prog := Challenge.rw_ok0140_01.row.prog) (k := [(i : Int), (j : Int)]) N5 (by k_mem) hTH16 (hkx.mono fun p hp => .tail _ (.tail _ (.tail _ (.tail _ (.tail _ (.tail _ (.tail _ hp))))))) ⟨_, _, rfl, .head _, by rw [← ekey]; exact .cons _ _ (.cons _ _ .nil)⟩ (by ktr_units) (atKey_last hnewH) (fun tk => ?_) (by with_unfolding_all rfl)
            obtain ⟨_, _, tu, cnt, sy, cv, cvs, svs, ns, ev, mh1, mh2, mh3, ih1, ih2, _⟩ := id hHd2
            subst ev
            obtain ⟨c0, cs0, ecs⟩ := cnts_cons hr9
            k_steps
            refine Halt.go ?_
            have hsyl : (symsOf c.b r.sum).length = r.sum := syms_len _ _
            have hsum18 := ok_sum hok
            have hcsum : (cntsR r).sum = (r.sum : Int) := cnts_sum
            have hcpos := cnts_nn r
            have hcl := cnts_len (r := r) (by omega)
            have ih1' : IntsAre cvs (c0 :: cs0) := by rw [← ecs]; exact ih1
            have hc0 : 0 ≤ c0 := hcpos c0 (by rw [ecs]; exact .head _)
            have hc1 : c0 ≤ ((symsOf c.b r.sum).length : Int) := by
              rw [ecs, List.sum_cons] at hcsum
              have := sum_nonneg (cs := cs0) fun x hx => hcpos x (by rw [ecs]; exact .tail _ hx)
              omega
            have NSP : News g L _ ((tu, tupO [.ref cnt, .ref sy, cv]) :: (cnt, tupO cvs) :: (sy, W.listOf svs.toArray ns) :: (J, jo) :: (I, io) :: (src, o9) :: (bx, W.listOf #[.int (c.b + 1) t'] 0) :: (hd, oH1) :: (cd, c.oC) :: tl2) := cb_drop N5 (by k_extra "my sub")
            k_here
            k_dflt (refine' spoilt_core (c0 := c0) (cs0 := cs0) (syms := symsOf c.b r.sum) ?k1 ?k2 ?k3 NSP ?k5 ?kK ih1' ih2 ?hl1 ?hl2 hc0 hc1 ?kd ?ku ?_; (case k1 => k_asm); (case k2 => k_asm); (case k3 => k_asm); (case k5 => k_asm); (case kK => first | exact rfl | assumption); (case hl1 => rw [← ecs]; exact hcl); (case hl2 => omega); (case kd => ktr_room); (case ku => ktr_units))
            intro v2 fz2 h17 tk17 hbad hab2 F17 N17a
            have hgt3 : ∀ p ∈ fz2, ∀ q ∈ (tu, tupO [.ref cnt, .ref sy, cv]) :: (cnt, tupO cvs) :: (sy, W.listOf svs.toArray ns) :: (J, jo) :: (I, io) :: (src, o9) :: (bx, W.listOf #[.int (c.b + 1) t'] 0) :: (hd, oH1) :: (cd, c.oC) :: tl2, q.1 < p.1 := fun p hp => allLt_iff.mp (hab2 p hp)
            have N17b : News g L h17 ((J, jo) :: (I, io) :: (src, o9) :: (bx, W.listOf #[.int (c.b + 1) t'] 0) :: (hd, oH1) :: (cd, c.oC) :: (fz2 ++ tl2)) := cb_drop N17a (by k_extra "my subB")
            have hBad := head_bad (w := w) (tl := fz2 ++ tl2) ecs hbad hok hr9 fun p hp => List.mem_append_left _ hp
            have hof3 : Off4 src bx hd cd (fz2 ++ tl2) := fun p hp => (List.mem_append.mp hp).elim (fun q => ⟨Nat.ne_of_gt (hgt3 p q (src, o9) (by k_mem)), Nat.ne_of_gt (hgt3 p q (bx, W.listOf #[.int (c.b + 1) t'] 0) (by k_mem)), Nat.ne_of_gt (hgt3 p q (hd, oH1) (by k_mem)), Nat.ne_of_gt (hgt3 p q (cd, c.oC) (by k_mem))⟩) (hof2 p)
            have hoJ3 : ∀ p ∈ fz2 ++ tl2, p.1 ≠ J := fun p hp => (List.mem_append.mp hp).elim (fun q => Nat.ne_of_gt (hgt3 p q (J, jo) (by k_mem))) (hoJ2 p)
            have hoI3 : ∀ p ∈ fz2 ++ tl2, p.1 ≠ I := fun p hp => (List.mem_append.mp hp).elim (fun q => Nat.ne_of_gt (hgt3 p q (I, io) (by k_mem))) (hoI2 p)
            have hs23 : ∀ p ∈ tl2, p ∈ fz2 ++ tl2 := fun p hp => List.mem_append_right _ hp
            have hkx3 := hkx.mono hs23
            have c1' := hs23 _ c1
            have c2' := hs23 _ c2
            clear N17a NSP N5 hab2 hgt3 hbad lT2 c1 c2 o1 o2 o3 o4
            generalize fz2 ++ tl2 = tl3 at *
            have o1 : ∀ p ∈ tl3, p.1 ≠ src := fun p hp => (hof3 p hp).1
            have o2 : ∀ p ∈ tl3, p.1 ≠ bx := fun p hp => (hof3 p hp).2.1
            have o3 : ∀ p ∈ tl3, p.1 ≠ hd := fun p hp => (hof3 p hp).2.2.1
            have o4 : ∀ p ∈ tl3, p.1 ≠ cd := fun p hp => (hof3 p hp).2.2.2
            k_steps
            refine Halt.go ?_
            rename_i T3 hx3 F6 N6 lT3
            refine td_set (prog := Challenge.rw_ok0140_01.row.prog) (k := [(i : Int), (j : Int)]) F6 N6 (by k_updF) hTH16 (hkx3.mono fun p hp => .tail _ (.tail _ (.tail _ (.tail _ (.tail _ (.tail _ (.tail _ hp))))))) ?hx (by ktr_units) ?hz fun h18 oH2 T4 tk18 eT4 F18 N18 hTH18 hk18 => ?_
            case hx => exact ⟨_, _, rfl, .head _, by rw [← ekey]; exact .cons _ _ (.cons _ _ .nil)⟩
            case hz => rw [List.length_append, xsH, List.length_map]; simp; omega
            rw [storedH_last hnewH] at hTH18
            k_steps
            rename Fr g L _ _ => FY
            rename News g L _ _ => NY
            exact CutPost.intro FY ⟨o9, oH2, v2, false, tl3, S9, cb_drop NY (by k_extra "my sub"), hTH18, hBad, hs23, hof3, hoJ3, hoI3⟩
          · rename_i r9 o9 t9 h9 tk9 F9 N9 S9 r0 r1 heq
            exact CutPost.intro F9 ⟨o9, oH1, v, true, tl2, S9, N9, hTH16, hHd2, fun _ h => h, hof2, hoJ2, hoI2⟩
        · have hes23 := hes2
          have hcs23 := hcs5
          have kT2 := kT
          clear o1 o2 o3 o4 c1 c2 hHd2 hTH16 N17 hof2 hoJ2 hoI2 hes2 hcs5 kT
          (try clear F16); (try clear N16)
          rintro h20 tk20 F20 ⟨os2, oH2, vh, gg, tl3, hso3, N20, hTH20, hHd3, hs23, hof3, hoJ3, hoI3⟩
          have hes3 : ∀ e ∈ c.es, EntOK w tl3 e := fun e he => (hes23 e he).mono hs23
          have hcs6 : ∀ p ∈ cs2, p ∈ tl3 := fun p hp => hs23 p (hcs23 p hp)
          have kT3 := kT2.mono hs23
          clear hes23 hcs23 kT2 hs23
          have o1 : ∀ p ∈ tl3, p.1 ≠ src := fun p hp => (hof3 p hp).1
          have o2 : ∀ p ∈ tl3, p.1 ≠ bx := fun p hp => (hof3 p hp).2.1
          have o3 : ∀ p ∈ tl3, p.1 ≠ hd := fun p hp => (hof3 p hp).2.2.1
          have o4 : ∀ p ∈ tl3, p.1 ≠ cd := fun p hp => (hof3 p hp).2.2.2
          have c2 := hcs6 _ y2'
          have c3 := hcs6 _ y3'
          have c4 := hcs6 _ y4'
          have hnewH : [(i : Int), (j : Int)] ∉ (xsH c.es).map (·.1) := by rw [xsH, List.map_map]; exact hnew
          have hnewC : [(i : Int), (j : Int)] ∉ (xsC c.es).map (·.1) := by rw [xsC, List.map_map]; exact hnew
          have hkx := tdk_snoc (v := vh) (keysH hes3) kT3
          obtain ⟨_, _, tu, cnt, sy, cv, cvs, svs, ns, ev, mh1, mh2, mh3, ih1, ih2, _⟩ := id hHd3
          subst ev
          k_steps
          refine Halt.go ?_
          rename_i T5 hx5 F5 N5 lT5
          refine td_tail (prog := Challenge.rw_ok0140_01.row.prog) (k := [(i : Int), (j : Int)]) N5 (by k_mem) hTH20 (hkx.mono fun p hp => .tail _ (.tail _ (.tail _ (.tail _ (.tail _ (.tail _ (.tail _ hp))))))) ⟨_, _, rfl, .head _, by rw [← ekey]; exact .cons _ _ (.cons _ _ .nil)⟩ (by ktr_units) (atKey_last hnewH) (fun tk => ?_) (by with_unfolding_all rfl)
          k_steps
          refine Halt.go ?_
          rename_i T6 hx6 F6 N6 lT6
          have N6' : News g L _ ((T6, tupO [.int (0 + (i : Int)) t, .int (0 + (j : Int)) tj]) :: (J, jo) :: (I, io) :: (src, os2) :: (bx, W.listOf #[.int (c.b + 1) t'] 0) :: (hd, oH2) :: (cd, c.oC) :: tl3) := cb_drop N6 (by k_extra "my sub")
          clear N6
          clear lT5
          refine td_tail (prog := Challenge.rw_ok0140_01.row.prog) (k := [(i : Int), (j : Int)]) N6' (by k_mem) hTH20 (hkx.mono fun p hp => .tail _ (.tail _ (.tail _ (.tail _ (.tail _ (.tail _ (.tail _ hp))))))) ⟨_, _, rfl, .head _, by rw [← ekey]; exact .cons _ _ (.cons _ _ .nil)⟩ (by ktr_units) (atKey_last hnewH) (fun tk => ?_) (by with_unfolding_all rfl)
          k_steps
          refine Halt.go ?_
          rename Fr g L _ _ => F7
          rename News g L _ _ => N7
          refine KBa.make_K F7 N7 rfl (News.isList (items := svs.toArray) (n := ns) N7 (by k_mem)) ih2 ksE_in (by have := ksE_len (g := gg) (b := c.b) hok hr9; omega) ?_
          intro h21 tb9 k21 F21 N21 _
          k_steps
          refine Halt.go ?_
          rename_i CU hcu lCU T9 ht9 F8 N8 lT9
          refine td_set (prog := Challenge.rw_ok0140_01.row.prog) (k := [(i : Int), (j : Int)]) F8 N8 (by k_updF) hTC ((keysC hes3).mono fun p hp => .tail _ (.tail _ (.tail _ (.tail _ (.tail _ (.tail _ (.tail _ (.tail _ (.tail _ hp))))))))) ?hx (by ktr_units) ?hz fun h22 oC2 T9' tk22 eT9 F22 N22 hTC22 hk22 => ?_
          case hx => exact ⟨_, _, rfl, .head _, by rw [← ekey]; exact .cons _ _ (.cons _ _ .nil)⟩
          case hz => rw [xsC, List.length_map]; omega
          cases eT9
          rw [storedH_new (atKey_none hnewC)] at hTC22
          k_steps
          rename Fr g L _ _ => FZ
          rename News g L _ _ => NZ
          have N23 : News g L h22 ((J, jo) :: (I, io) :: (src, os2) :: (bx, W.listOf #[.int (c.b + 1) t'] 0) :: (hd, oH2) :: (cd, oC2) :: (CU, tupO [.ref cnt, .bytes (byteArr (ksE gg c.b r)) tb9]) :: (T9, tupO [.int (0 + (i : Int)) t, .int (0 + (j : Int)) tj]) :: tl3) := cb_drop NZ (by k_extra "my sub")
          have hnx : ∀ p ∈ tl3, p ∈ (CU, tupO [.ref cnt, .bytes (byteArr (ksE gg c.b r)) tb9]) :: (T9, tupO [.int (0 + (i : Int)) t, .int (0 + (j : Int)) tj]) :: tl3 := fun p hp => .tail _ (.tail _ hp)
          refine' TurnPost.next FZ (nx := (I, io) :: (src, os2) :: (bx, W.listOf #[.int (c.b + 1) t'] 0) :: (hd, oH2) :: (cd, oC2) :: (CU, tupO [.ref cnt, .bytes (byteArr (ksE gg c.b r)) tb9]) :: (T9, tupO [.int (0 + (i : Int)) t, .int (0 + (j : Int)) tj]) :: tl3) N23 (List.forall_mem_cons.mpr ⟨hJ0, List.forall_mem_cons.mpr ⟨hJ1, List.forall_mem_cons.mpr ⟨hJ2, List.forall_mem_cons.mpr ⟨hJ3, List.forall_mem_cons.mpr ⟨hJ4, List.forall_mem_cons.mpr ⟨Nat.ne_of_gt lCU.2.1, List.forall_mem_cons.mpr ⟨Nat.ne_of_gt lT9.2.2.1, hoJ3⟩⟩⟩⟩⟩⟩⟩)
            ⟨⟨os2, c.b + 1, t', oH2, oC2, c.es ++ [⟨[(i : Int), (j : Int)], T, .ref tu, T9, .ref CU, gg, c.b, r⟩], (CU, tupO [.ref cnt, .bytes (byteArr (ksE gg c.b r)) tb9]) :: (T9, tupO [.int (0 + (i : Int)) t, .int (0 + (j : Int)) tj]) :: tl3⟩, rfl, ⟨⟨hso3, ?f1, ?f2, ?f3, ?f4, ?f5, ?f6, ?f7, fun p hp => hnx p (hcs6 p hp), ?f8⟩, ?f9⟩, List.forall_mem_nil _, fun z hz => ?frz⟩
          case f1 => show 1 ≤ c.b + 1; omega
          case f2 => show c.b + 1 ≤ 1 + ((3 * i + (j + 1) : Nat) : Int); omega
          case f3 => show IsTD _ _ _ (xsH (c.es ++ _)); rw [xsH, List.map_append]; exact hTH20
          case f4 => show IsTD _ _ _ (xsC (c.es ++ _)); rw [xsC, List.map_append]; exact hTC22
          case f5 =>
            intro e he
            rcases List.mem_append.mp he with he | he
            · exact (hes3 e he).mono hnx
            · rw [List.mem_singleton.mp he]
              exact ⟨kT3.mono hnx, ⟨T9, _, rfl, .tail _ (.head _), by rw [← ekey]; exact .cons _ _ (.cons _ _ .nil)⟩, hHd3.mono hnx, ⟨CU, cnt, cvs, _, tb9, rfl, .head _, hnx _ mh2, ih1, KBa.ints_make ksE_in⟩, csE_len hr9, csE_pos, ksE_sum hr9, ksE_len hok hr9⟩
          case f6 =>
            intro e he
            rcases List.mem_append.mp he with he | he
            · obtain ⟨x, y, ek, h1, h2⟩ := hks e he
              exact ⟨x, y, ek, by omega, h2⟩
            · rw [List.mem_singleton.mp he]
              exact ⟨i, j, rfl, by omega, by omega⟩
          case f7 => exact List.forall_mem_cons.mpr ⟨⟨Nat.ne_of_gt lCU.2.2.2.1, Nat.ne_of_gt lCU.2.2.2.2.1, Nat.ne_of_gt lCU.2.2.2.2.2.1, Nat.ne_of_gt lCU.2.2.2.2.2.2.1⟩, List.forall_mem_cons.mpr ⟨⟨Nat.ne_of_gt lT9.2.2.2.2.1, Nat.ne_of_gt lT9.2.2.2.2.2.1, Nat.ne_of_gt lT9.2.2.2.2.2.2.1, Nat.ne_of_gt lT9.2.2.2.2.2.2.2.1⟩, hof3⟩⟩
          case f8 => show (c.es ++ _).length ≤ 3 * i + (j + 1); rw [List.length_append]; simp; omega
          case f9 => exact List.forall_mem_cons.mpr ⟨Nat.ne_of_gt lCU.2.2.1, List.forall_mem_cons.mpr ⟨Nat.ne_of_gt lT9.2.2.2.1, hoI3⟩⟩
          case frz =>
            dsimp only
            (repeat' (with_reducible (refine off_if (ne_of_stored hz ?_) ?_)))
            all_goals first | rfl | exact mkFr_off hz rfl rfl rfl
      · rename_i r9 o9 t9 h9 tk9 F9 N9 S9 r0 r1 hgt
        refine' TurnPost.next F9 (nx := (I, io) :: (src, o9) :: (bx, W.listOf #[.int c.b c.tb] 0) :: (hd, c.oH) :: (cd, c.oC) :: c.tl) N9 (List.forall_mem_cons.mpr ⟨hJ0, List.forall_mem_cons.mpr ⟨hJ1, List.forall_mem_cons.mpr ⟨hJ2, List.forall_mem_cons.mpr ⟨hJ3, List.forall_mem_cons.mpr ⟨hJ4, hJ5⟩⟩⟩⟩⟩) ⟨⟨o9, c.b, c.tb, c.oH, c.oC, c.es, c.tl⟩, rfl, ⟨⟨S9, hb1, ?fb, hTH, hTC, hes, ?fk, hof, hcs3, by show c.es.length ≤ 3 * i + (j + 1); omega⟩, hofI⟩, List.forall_mem_nil _, fun z hz => ?frz⟩
        case fb => show c.b ≤ 1 + ((3 * i + (j + 1) : Nat) : Int); omega
        case fk =>
          intro e he
          obtain ⟨x, y, ek, h1, h2⟩ := hks e he
          exact ⟨x, y, ek, by omega, h2⟩
        case frz =>
          dsimp only
          (repeat' (with_reducible (refine off_if (ne_of_stored hz ?_) ?_)))
          all_goals first | rfl | exact mkFr_off hz rfl rfl rfl
    · clear R2 F2 N2 hf hI5 hoff3
      intro c2 u3 h3 tk3 hf2 F4 N4
      obtain ⟨hf2, hofI⟩ := hf2
      k_steps
      rename Fr g L _ _ => FZ
      rename News g L _ _ => NZ
      refine' TurnPost.next FZ (nx := (src, c2.os) :: (bx, W.listOf #[.int c2.b c2.tb] 0) :: (hd, c2.oH) :: (cd, c2.oC) :: c2.tl) NZ (List.forall_mem_cons.mpr ⟨hI1, List.forall_mem_cons.mpr ⟨hI2, List.forall_mem_cons.mpr ⟨hI3, List.forall_mem_cons.mpr ⟨hI4, hofI⟩⟩⟩⟩) ⟨c2, rfl, hf2, List.forall_mem_nil _, fun z hz => ?frz⟩
      case frz =>
        refine mkFr_off hz rfl rfl ?_
        (try dsimp only)
        (repeat' (with_reducible (refine off_if (ne_of_stored hz ?_) ?_)))
        all_goals first | rfl | exact mkFr_off hz rfl rfl rfl
  · clear R1 F1 N1
    intro c u h tk' hf F3 N3
    subst hcs2
    exact hnext c u h tk' hf F3 N3
end rest
end
end Mine
-- LN
namespace Mine
section
open PyProof.Rows.LCg
theorem lia_LN : True := by
  k_with_none
  k_with "my omega" => ((fail_if_success (fail_if_success omega (config := {}))); lia)
  trivial
noncomputable def hashOf (k : List Int) : Int := reduceHash (Builtin.Tuple.tupleHashOf (k.map hashInt))
noncomputable def keys6 : List (List Int) := [[0, 0], [0, 1], [0, 2], [1, 0], [1, 1], [1, 2]]
theorem hash6 : ∀ a ∈ keys6, ∀ b ∈ keys6, hashOf a = hashOf b → a = b := by decide +kernel
theorem in6 {x y : Nat} (h : 3 * x + y < 6) (hy : y < 3) : [(x : Int), (y : Int)] ∈ keys6 := by
  have hx : x = 0 ∨ x = 1 := by omega
  have hy' : y = 0 ∨ y = 1 ∨ y = 2 := by omega
  rcases hx with rfl | rfl <;> rcases hy' with rfl | rfl | rfl <;> simp [keys6]
theorem hash_nd {prog : Program} {w : World} : ∀ {xs : List (List Int × Addr × Value)}, (∀ x ∈ xs, x.1 ∈ keys6) → (xs.map (·.1)).Nodup → (xs.map fun x => (TKd prog w).hash x.1).Nodup
  | [], _, _ => List.nodup_nil
  | x :: xs, h, hn => by
    rw [List.map_cons, List.nodup_cons] at hn ⊢
    refine ⟨fun hm => hn.1 ?_, hash_nd (fun y hy => h y (.tail _ hy)) hn.2⟩
    obtain ⟨y, hy, e⟩ := List.mem_map.mp hm
    have := hash6 y.1 (h y (.tail _ hy)) x.1 (h x (.head _)) e
    exact List.mem_map.mpr ⟨y, hy, this⟩
theorem keysC6 {es : List Ent} (hks : ∀ e ∈ es, ∃ x y : Nat, e.k = [(x : Int), (y : Int)] ∧ 3 * x + y < 6 ∧ y < 3) : ∀ x ∈ xsC es, x.1 ∈ keys6 := fun x hx => by
  obtain ⟨e, he, rfl⟩ := List.mem_map.mp hx
  obtain ⟨a, b, ek, h1, h2⟩ := hks e he
  show e.k ∈ keys6
  rw [ek]; exact in6 h1 h2
noncomputable def findE (es : List Ent) (k : List Int) : Option Ent := es.find? fun e => decide (e.k = k)
noncomputable def goodE (es : List Ent) (k : List Int) : Bool := match findE es k with
  | some e => e.g
  | none => false
theorem atKey_H (es : List Ent) (k : List Int) : atKey (xsH es) k = (findE es k).map fun e => (e.ah, e.vh) := by
  unfold atKey xsH findE
  rw [List.find?_map]
  cases h : es.find? ((fun x : List Int × Addr × Value => decide (x.1 = k)) ∘ fun e : Ent => (e.k, e.ah, e.vh)) with
  | none =>
    have : (es.find? fun e => decide (e.k = k)) = none := h
    rw [this]; rfl
  | some e =>
    have : (es.find? fun e => decide (e.k = k)) = some e := h
    rw [this]; rfl
theorem atKey_C (es : List Ent) (k : List Int) : atKey (xsC es) k = (findE es k).map fun e => (e.ac, e.vc) := by
  unfold atKey xsC findE
  rw [List.find?_map]
  cases h : es.find? ((fun x : List Int × Addr × Value => decide (x.1 = k)) ∘ fun e : Ent => (e.k, e.ac, e.vc)) with
  | none =>
    have : (es.find? fun e => decide (e.k = k)) = none := h
    rw [this]; rfl
  | some e =>
    have : (es.find? fun e => decide (e.k = k)) = some e := h
    rw [this]; rfl
theorem findE_some {es : List Ent} {k : List Int} {e : Ent} (h : findE es k = some e) : e ∈ es ∧ e.k = k := ⟨List.mem_of_find?_eq_some h, by have := List.find?_some h; simpa using this⟩
noncomputable def specE (es : List Ent) (k : List Int) : Option (List Int × List Int) := (findE es k).map fun e => (csE e.g e.r, ksE e.g e.b e.r)
theorem syms_nodup {b : Int} {n : Nat} (h : n < 80) : (symsOf b n).Nodup := by
  unfold symsOf List.Nodup
  refine List.pairwise_map.mpr (List.Pairwise.imp_of_mem (fun {i j} hi hj hij e => hij ?_) List.nodup_range)
  exact symOf_inj (Nat.lt_trans (List.mem_range.mp hi) h) (Nat.lt_trans (List.mem_range.mp hj) h) e
theorem bad_row (t : List Int) : ¬ OkRow (3 :: t) 0 := fun h => h ⟨by show (2 : Int) ^ (0 + 1) ≤ 0 + 3; decide, by show (0 : Int) < 3; decide⟩
theorem goodK_iff {w : World} {tl : List (Addr × Obj)} {es : List Ent} (hes : ∀ e ∈ es, EntOK w tl e) (k : List Int) : GoodK (specE es) k ↔ goodE es k = true := by
  unfold GoodK goodE specE
  cases hf : findE es k with
  | none =>
    constructor
    · rintro ⟨_, _, h, _⟩; cases h
    · intro h; cases h
  | some e =>
    obtain ⟨he, _⟩ := findE_some hf
    obtain ⟨_, _, ⟨ho, h9, _⟩, _⟩ := hes e he
    have hs := ok_sum ho
    dsimp only [Option.map_some]
    constructor
    · rintro ⟨cs9, ks, h, _, hr⟩
      cases h
      cases hg : e.g with
      | true => rfl
      | false =>
        have := hr 0 (by decide)
        rw [hg] at this
        exact absurd this (bad_row _)
    · intro h
      rw [h]
      exact ⟨_, _, rfl, syms_nodup (by omega), fun j _ => ok_rows _ ho j⟩
theorem goodE_find {es : List Ent} {k : List Int} (h : goodE es k = true) : ∃ e, findE es k = some e ∧ e ∈ es ∧ e.g = true := by
  unfold goodE at h
  cases hf : findE es k with
  | none => rw [hf] at h; cases h
  | some e => rw [hf] at h; exact ⟨e, rfl, (findE_some hf).1, h⟩
theorem all_good {w : World} {tl : List (Addr × Obj)} {es : List Ent} (hes : ∀ e ∈ es, EntOK w tl e) {K W : List (List Int)} (hp : W.Perm K) : (∀ k ∈ K, GoodK (specE es) k) ↔ ∀ k ∈ W, goodE es k = true := by
  constructor
  · intro h k hk; exact (goodK_iff hes k).mp (h k (hp.mem_iff.mp hk))
  · intro h k hk; exact (goodK_iff hes k).mpr (h k (hp.mem_iff.mpr hk))
theorem spec_ent {w : World} {tl : List (Addr × Obj)} {es : List Ent} (hes : ∀ e ∈ es, EntOK w tl e) : ∀ k p, atKey (xsC es) k = some p → ∃ cs9 ks, specE es k = some (cs9, ks) ∧ CodeEnt tl cs9 ks p.2 := fun k p h => by
  rw [atKey_C] at h
  unfold specE
  cases hf : findE es k with
  | none => rw [hf] at h; cases h
  | some e =>
    rw [hf] at h
    cases h
    exact ⟨_, _, rfl, (hes e (findE_some hf).1).2.2.2⟩
theorem atKey_mem {xs : List (List Int × Addr × Value)} {k : List Int} (h : k ∈ xs.map (·.1)) : ∃ p, atKey xs k = some p ∧ (k, p) ∈ xs := by
  cases e : atKey xs k with
  | none =>
    unfold atKey at e
    rw [Option.map_eq_none_iff, List.find?_eq_none] at e
    obtain ⟨x, hx, rfl⟩ := List.mem_map.mp h
    exact absurd (decide_eq_true rfl) (e x hx)
  | some p =>
    unfold atKey at e
    obtain ⟨x, h1, rfl⟩ := Option.map_eq_some_iff.mp e
    have h2 := List.find?_some h1
    obtain rfl : x.1 = k := by simpa using h2
    exact ⟨_, rfl, List.mem_of_find?_eq_some h1⟩
theorem spec_good {es : List Ent} {k cs9 ks : List Int} (h : specE es k = some (cs9, ks)) (hg : goodE es k = true) : ∃ e, findE es k = some e ∧ e ∈ es ∧ e.g = true ∧ cs9 = cntsR e.r ∧ ks = symsOf e.b e.r.sum := by
  obtain ⟨e, h1, h2, h3⟩ := goodE_find hg
  unfold specE at h
  rw [h1] at h
  have h4 : csE e.g e.r = cs9 ∧ ksE e.g e.b e.r = ks := by simpa using h
  rw [h3] at h4
  exact ⟨e, h1, h2, h3, h4.1.symm, h4.2.symm⟩
theorem refsC {w : World} {tl : List (Addr × Obj)} {es : List Ent} (hes : ∀ e ∈ es, EntOK w tl e) : ∀ x ∈ xsC es, ∃ c, x.2.2 = .ref c := fun x hx => by
  obtain ⟨e, he, rfl⟩ := List.mem_map.mp hx
  obtain ⟨_, _, _, ⟨⟨cu, tu, cvs, b9, t9, ev, _⟩, _⟩⟩ := hes e he
  exact ⟨cu, ev⟩
theorem spec_none {es : List Ent} : ∀ k, atKey (xsC es) k = none → specE es k = none := fun k h => by
  rw [atKey_C] at h
  unfold specE
  cases hf : findE es k with
  | none => rfl
  | some e => rw [hf] at h; cases h
end
end Mine
-- LVX
namespace Mine
section

theorem lia_LVX : True := by
  k_with_none
  k_with "my omega" => ((fail_if_success (fail_if_success omega (config := {}))); lia)
  trivial
section
variable {prog : Program} {w : World} {A₀ : Around} {E : Value → Shared → Prop} {s' : Shared} {h₀ h : Heap} {outer : List Env} {L e C : Addr} {m : Str → Option Value} {env : Env}
  {b₀ : Stmt} {suite : List Stmt} {pos : Pos} {t : Expr} {rest : List ExceptHandler} {Q : Flow → Shared → Prop} {news : List (Addr × Obj)} {KF : Frag}
theorem caught_C (hfr : env.frame = some L) (K : Below A₀ h₀ outer h₀) (F : Fr h₀ L h m) (hsm : h.UpToSlots s'.heap) (R : RaisedN h₀ (env :: outer) e (.ref C) news s'.heap) (X : KF.In h₀) (hC : exmOne KF (.ref C) (.ref C) = some true)
    (hname : ∀ (A' : Around) (E' : Value → Shared → Prop) (Q' : Value → Shared → Prop) (s'' : Shared), Fr h₀ L s''.heap m → Q' (.ref C) s'' → wpAny (model prog w) A' (eval t env) Q' E' s'')
    (hE : PassesOwnAt (model prog w) ((A₀.deeper env).mark (some (.ref e))) (A₀.deeper env) env E)
    (k : ∀ h', Fr h₀ L h' m → News h₀ L h' news →
      wpAny (model prog w) ((A₀.deeper env).mark (some (.ref e))) (execs (b₀ :: suite) env) Q E { s' with heap := h' }) :
    wpAny (model prog w) (A₀.deeper env) (noteFrame (.ref e) env)
      (fun _ s₂ => wpAny (model prog w) (A₀.deeper env) (setFlight (.ref e) none) (fun _ s₃ =>
        wpAny (model prog w) (A₀.deeper env) (handleBy (.ref e) env (.ExceptHandler (some t) none (b₀ :: suite) pos :: rest)) Q E s₃) E s₂) E s' := by
  obtain ⟨B, a0, hB, hl, hfl⟩ := R
  have hL : B.get? L = none := by
    obtain ⟨_, ⟨L', _, hf, hn', _⟩, _⟩ := hfl.2.2.1
    obtain rfl : L = L' := Option.some.inj (hfr.symm.trans hf)
    exact hn'
  refine wpAny_looks_onW (Around.frames_deeper K.stack) hfr hfl fun h₄ hheld₄ hsm₄ => ?_
  refine wpAny_landsW hheld₄ fun h₅ hheld hsm₅' => ?_
  have hsm₅ := hsm₄.trans hsm₅'
  have hheld' := flyingW_base hB hheld
  have F₅ := F.of_stays hheld'.1 (hsm.trans hsm₅)
  obtain ⟨ob, hob, hobc⟩ := hheld'.there
  refine wpAny_handleBy_cons (codeAny_handlers_test (hname _ _ _ _ F₅ ?_)) (by intro q; cases q)
  have LT : Looks (model prog w) h₅ (typeOf (.ref e)) (.ref C) := by
    subst_vars
    rw [← hobc]
    exact (Looks.ld hob).andThen .now
  refine (exm_one (X.keeps F₅.keep) LT hC).here (codeAny_handlers_suite ?_)
  refine lands_againW hheld fun h₆ hfl₆ hsm₆ => ?_
  have F₆ := F.of_stays (flyingW_base hB hfl₆).1 ((hsm.trans hsm₅).trans hsm₆)
  exact wpAny_passesOwnAt hE (k h₆ F₆ fun q hq => ⟨hfl₆.1 _ _ (hl q hq).1, (fun z => by have := (hl q hq).1; rw [z, hL] at this; cases this), (hl q hq).2⟩)
theorem exm51 (p : World) : exmOne (Mine.hd.heap_39 p.params) (.ref 51) (.ref 51) = some true := by
  kernel_rfl
end
end
end Mine
-- LV
namespace Mine
section
open PyProof.Rows.LCg
section tail
theorem law_tail {w : World} {mean : ExcName → Option Value} {mg mb : Str → Option Value} {g : Heap} {L fa : Addr} {ccd : Value} {m0 u0 u1 : Str → Option Value} {rest : List (Addr × Obj)} {src bx hd cd tb sc dt qd xd ds pl dcl acl : Addr} {os oH oC cT cHd cS : Obj} {z1 z2 z3 : Tok} {s : Shared} {Q : Flow → Shared → Prop} {E : Value → Shared → Prop}
    {st en hi lw : Int} {k1 k2 k3 k4 k5 k6 k7 k8 k9 k10 k11 : Tok} {vsp vdc vac : List Value} {np nd na n : Nat} {dcs acs : List Int} {es : List Ent} {vT : Option Value}
    (BL : Below callerA g [] g) (F : Fr g L s.heap (mkFr [] [Str.ofString "kind", Str.ofString "slot"] u1 (mkFr [(Str.ofString "box", .ref bx), (Str.ofString "scan", .ref sc), (Str.ofString "tables", .ref tb)] [] u0 m0))) (X : (Mine.hd.heap_39 w.params).In g) (T : Top Mine.hd.view_39 (looseW Mine.hd.view_39 []) mean mg mb g)
    (N : News g L s.heap ((src, os) :: (L + 1 + 1 + 1 + 1, cT) :: rest)) (hsT : src ≠ L + 1 + 1 + 1 + 1) (o1 : ∀ p ∈ rest, p.1 ≠ src) (o2 : ∀ p ∈ rest, p.1 ≠ L + 1 + 1 + 1 + 1) (hs : IsSrc os) (dT : cT.data = Data.cell vT)
    (hE : PassesOwn (model Challenge.rw_ok0140_01.row.prog w) (callerA.deeper (envOfC (Str.ofString "law") lawFn.1 L fa ccd)) (envOfC (Str.ofString "law") lawFn.1 L fa ccd) E)
    (hE2 : ∀ hx, PassesOwnAt (model Challenge.rw_ok0140_01.row.prog w) ((callerA.deeper (envOfC (Str.ofString "law") lawFn.1 L fa ccd)).mark hx) (callerA.deeper (envOfC (Str.ofString "law") lawFn.1 L fa ccd)) (envOfC (Str.ofString "law") lawFn.1 L fa ccd) E)
    (y1 : (L + 1, cS) ∈ rest) (d1 : cS.data = Data.cell (some (.ref src))) (y2 : (L + 1 + 1 + 1, cHd) ∈ rest) (d2 : cHd.data = Data.cell (some (.ref hd))) (y3 : (tb, instObj 157 dt) ∈ rest) (y4 : (dt, tabsDict w qd cd xd z1 z2 z3) ∈ rest)
    (yH : (hd, oH) ∈ rest) (yC : (cd, oC) ∈ rest) (loH : (hd == sysModules) = false) (loC : (cd == sysModules) = false) (hTH : IsTD Challenge.rw_ok0140_01.row.prog w oH (xsH es)) (hTC : IsTD Challenge.rw_ok0140_01.row.prog w oC (xsC es)) (hes : ∀ e ∈ es, EntOK w rest e) (hks : ∀ e ∈ es, ∃ x y : Nat, e.k = [(x : Int), (y : Int)] ∧ 3 * x + y < 6 ∧ y < 3) (hel : es.length ≤ 6)
    (y5 : (sc, instObj 248 ds) ∈ rest) (y6 : (ds, scanDict w pl dcl acl st en hi lw k1 k2 k3 k4 k5 k6 k7 k8 k9 k10 k11) ∈ rest) (y7 : (pl, W.listOf vsp.toArray np) ∈ rest) (y8 : (dcl, W.listOf vdc.toArray nd) ∈ rest) (y9 : (acl, W.listOf vac.toArray na) ∈ rest)
    (hdc : IntsAre vdc dcs) (hac : IntsAre vac acs) (l1 : vsp.length = n) (l2 : dcs.length = n) (l3 : acs.length = n) (hn : n ≤ 3) (hdr : ∀ x ∈ dcs, 0 ≤ x ∧ x < 3) (har : ∀ x ∈ acs, 0 ≤ x ∧ x < 3)
    (hret : ∀ (m' : Str → Option Value) (nw : List (Addr × Obj)) (h' : Heap) (tk' : Nat), Fr g L h' m' → News g L h' nw → Q (.ret (.bool true)) { s with heap := h', toks := tk' }) :
    wpAny (model Challenge.rw_ok0140_01.row.prog w) (callerA.deeper (envOfC (Str.ofString "law") lawFn.1 L fa ccd)) (execs (lawFn.2.drop 7) (envOfC (Str.ofString "law") lawFn.1 L fa ccd)) Q E s := by
  k_with_none
  k_with "my lt" => first | assumption | exact And.left (by assumption) | exact And.left (And.right (by assumption)) | exact And.right (by assumption) | exact And.left (And.right (And.right (by assumption))) | exact And.right (And.right (by assumption)) | exact And.left (And.right (And.right (And.right (by assumption)))) | exact And.right (And.right (And.right (by assumption))) | exact And.left (And.right (And.right (And.right (And.right (by assumption))))) | exact And.right (And.right (And.right (And.right (by assumption)))) | exact And.left (And.right (And.right (And.right (And.right (And.right (by assumption)))))) | exact And.right (And.right (And.right (And.right (And.right (by assumption))))) | exact And.left (And.right (And.right (And.right (And.right (And.right (And.right (by assumption))))))) | exact And.right (And.right (And.right (And.right (And.right (And.right (by assumption)))))) | exact And.left (And.right (And.right (And.right (And.right (And.right (And.right (And.right (by assumption)))))))) | exact And.right (And.right (And.right (And.right (And.right (And.right (And.right (by assumption))))))) | exact And.left (And.right (And.right (And.right (And.right (And.right (And.right (And.right (And.right (by assumption))))))))) | exact And.right (And.right (And.right (And.right (And.right (And.right (And.right (And.right (by assumption)))))))) | fail
  k_with "my kne" => first | assumption | (refine Ne.symm ?_; assumption) | (refine neN ?_; (try dsimp only); first | (refine Nat.ne_of_lt ?_; k_extra "my lt") | (refine Nat.ne_of_gt ?_; k_extra "my lt") | omega) | fail
  k_with "my room" => first | exact upR 0 (by assumption) rfl | exact upR 1 (by assumption) rfl | exact upR 2 (by assumption) rfl | exact upR 3 (by assumption) rfl | exact upR 4 (by assumption) rfl | exact upR 5 (by assumption) rfl | exact upR 6 (by assumption) rfl | exact upR 7 (by assumption) rfl | exact upR 8 (by assumption) rfl | fail
  k_with "my units" => first | exact upR 0 (by assumption) rfl | exact upR 1 (by assumption) rfl | exact upR 2 (by assumption) rfl | exact upR 3 (by assumption) rfl | exact upR 4 (by assumption) rfl | exact upR 5 (by assumption) rfl | exact upR 6 (by assumption) rfl | exact upR 7 (by assumption) rfl | exact upR 8 (by assumption) rfl | exact upR 9 (by assumption) rfl | exact upR 10 (by assumption) rfl | exact upR 11 (by assumption) rfl | exact upR 12 (by assumption) rfl | fail
  k_with "my sub" => first | exact List.forall_mem_nil _ | assumption | exact List.forall_mem_cons.mpr ⟨(by k_mem), (by k_extra "my sub")⟩ | (intro p9 hp9; repeat (first | exact hp9 | refine List.Mem.tail _ ?_))
  k_with "my ne" => first | exact List.forall_mem_nil _ | assumption | exact List.forall_mem_cons.mpr ⟨(by first | assumption | k_ne), (by k_extra "my ne")⟩
  k_with "my subA" => (intro p9 hp9; repeat' (first | exact hp9 | exact List.mem_append_left _ hp9 | exact List.mem_append_right _ hp9 | refine List.Mem.tail _ ?_))
  k_with "my memB" => first | assumption | exact List.Mem.head _ | (refine List.Mem.tail _ ?_; k_extra "my memB") | (refine List.mem_append_left _ ?_; k_extra "my memB") | (refine List.mem_append_right _ ?_; k_extra "my memB")
  k_with "my leafB" => first | assumption | (refine List.Mem.tail _ ?_; k_extra "my leafB") | (refine List.mem_append_left _ ?_; k_extra "my leafB") | (refine List.mem_append_right _ ?_; k_extra "my leafB")
  k_with "my subB" => first | exact List.forall_mem_nil _ | exact List.forall_mem_cons.mpr ⟨(by k_extra "my memB"), (by k_extra "my subB")⟩ | exact List.forall_mem_append.mpr ⟨(by k_extra "my subB"), (by k_extra "my subB")⟩ | (intro p9 hp9; k_extra "my leafB")
  k_with "exec For Name Call cons nil" => walk_at "my m31"
  k_with "setItem ref ref" => (refine halt ?_)
  k_with "call type:bytes" => (refine halt ?_)
  k_with "subscriptTail" => (k_here; (with_reducible show wpAny _ _ (subscriptTail _ _ (Value.ref _) (Value.ref _)) _ _ _); refine halt ?_)
  k_with "my mem" => first | assumption | exact List.Mem.head _ | (refine' List.Mem.tail _ ?_; k_mem)
  k_with "eval ListComp" => (refine halt ?_)
  k_with "exec Assign cons ListComp" => (refine halt ?_)
  k_with "CompSrc" => (refine halt ?_)
  k_with "pyIter ref" => (refine halt ?_)
  k_with "exec Try" => (refine halt ?_)
  k_with "call ref" => (k_here; (with_reducible show wpAny _ _ (call (Value.ref _) _) _ _ _); refine halt ?_)
  k_with "call type:range" => walk_at "my m24"
  k_with "newTuple" => (k_here; k_dflt (refine' kup_newTuple (by k_asm) (by k_asm) ?_ (by kmk_size)); walk_at "my t8")
  k_with "execs cons" => (k_here; dsimp only; k_gentoks)
  k_with "call ref" => (k_here; k_dflt (refine' take_c (by k_asm) (by k_asm) (by k_asm) (by k_asm) (by k_asm) (by first | exact rfl | assumption) (by k_updF) (by assumption) (by first | decide | omega) (by first | decide | omega) (by ktr_room) (by ktr_units) ?_); walk_at "my t1")
  k_with "call type:dict" => (refine halt ?_)
  k_with "CompSrcT" => (refine halt ?_)
  k_with "compareOp NotEq ref ref" => (refine halt ?_)
  k_with "compareOp Eq ref ref" => (refine halt ?_)
  k_with "call builtin:sorted" => (refine halt ?_)
  k_with "compareOp NotIn ref ref" => (refine halt ?_)
  k_with "my omega" => ((fail_if_success (fail_if_success omega (config := {}))); lia)
  have e1 : lawFn.1 = lawFn.1 := rfl
  have e2 : lawFn.2.drop 7 = lawFn.2.drop 7 := rfl
  conv at e1 => rhs; whnf
  conv at e2 => rhs; whnf
  rw [e1] at hE hE2 ⊢
  rw [e2]
  clear e1 e2
  show wpAny _ _ _ _ _ _
  replace hsT := neN hsT
  k_steps
  refine Halt.go ?_
  rename Fr g L _ _ => F1
  rename News g L _ _ => N1
  refine td_copy (prog := Challenge.rw_ok0140_01.row.prog) F1 N1 (modules_low (Top.nolimit T)) (by k_mem) loC hTC ((keysC hes).mono fun p hp => .tail _ (.tail _ hp)) (hash_nd (keysC6 hks) hTC.2.2) (by rw [xsC, List.length_map]; omega) fun ah oA h2 F2 N2 lA loA hTA => ?_
  k_steps
  refine Halt.go ?_
  k_here
  k_dflt (refine' wanted_core (n := n) (dcs := dcs) (acs := acs) ?k1 ?k2 ?k3 ?k4 ?k5 ?kK ?m1 ?m2 ?m3 ?m4 ?m5 hdc hac l1 l2 l3 hn ?kd ?ku ?_; (case k1 => k_asm); (case k2 => k_asm); (case k3 => k_asm); (case k4 => k_asm); (case k5 => k_asm); (case kK => first | exact rfl | assumption); (case m1 => k_mem); (case m2 => k_mem); (case m3 => k_mem); (case m4 => k_mem); (case m5 => k_mem); (case kd => ktr_room); (case ku => ktr_units))
  intro Dw wvs cw fzw h3 tk3 F3 N3 hkw abw ltw
  k_steps
  refine Halt.go ?_
  rename Fr g L _ _ => F4
  rename News g L _ _ => N4
  have hnd := keysN_nd st en hi dcs acs n
  have hKm := fun k hk => keysN_mem (st := st) (en := en) (hi := hi) hdr har (n := n) (by omega) (by omega) k hk
  have hKl := keysN_len st en hi dcs acs n
  have hperm := sortK_perm (keysN st en hi dcs acs n)
  have N5 : News g L _ ((src, os) :: (L + 1 + 1 + 1 + 1, cT) :: ((Dw, W.listOf wvs.toArray cw) :: (fzw ++ ((ah, oA) :: rest)))) := cb_drop N4 (by k_extra "my subB")
  have b1 : ∀ p ∈ (Dw, W.listOf wvs.toArray cw) :: (fzw ++ ((ah, oA) :: rest)), p.1 ≠ src ∧ p.1 ≠ L + 1 + 1 + 1 + 1 := by
    have ha : ∀ p ∈ (ah, oA) :: rest, p.1 ≠ src ∧ p.1 ≠ L + 1 + 1 + 1 + 1 := List.forall_mem_cons.mpr ⟨⟨Nat.ne_of_gt (lA _ (.head _)), Nat.ne_of_gt (lA _ (.tail _ (.head _)))⟩, fun p hp => ⟨o1 p hp, o2 p hp⟩⟩
    have hb : ∀ p ∈ (Dw, W.listOf wvs.toArray cw) :: fzw, p.1 ≠ src ∧ p.1 ≠ L + 1 + 1 + 1 + 1 := fun p hp => ⟨Nat.ne_of_gt (abw p hp (src, os) (by k_mem)), Nat.ne_of_gt (abw p hp (L + 1 + 1 + 1 + 1, cT) (by k_mem))⟩
    intro p hp
    rcases List.mem_cons.mp hp with rfl | hp
    · exact hb _ (.head _)
    · exact (List.mem_append.mp hp).elim (fun q => hb p (.tail _ q)) (ha p)
  have s1 : ∀ p ∈ rest, p ∈ (Dw, W.listOf wvs.toArray cw) :: (fzw ++ ((ah, oA) :: rest)) := fun p hp => .tail _ (List.mem_append_right _ (.tail _ hp))
  have hDw : (Dw, W.listOf wvs.toArray cw) ∈ (Dw, W.listOf wvs.toArray cw) :: (fzw ++ ((ah, oA) :: rest)) := .head _
  have hAh : (ah, oA) ∈ (Dw, W.listOf wvs.toArray cw) :: (fzw ++ ((ah, oA) :: rest)) := .tail _ (List.mem_append_right _ (.head _))
  have hkw2 : KeysAre ((Dw, W.listOf wvs.toArray cw) :: (fzw ++ ((ah, oA) :: rest))) wvs (sortK (keysN st en hi dcs acs n)) := hkw.mono fun p hp => .tail _ (List.mem_append_left _ hp)
  (try clear N4); (try clear hkw); (try clear abw); (try clear ltw); (try clear lA); (try clear F1); (try clear N1); (try clear F2); (try clear N2); (try clear F3); (try clear N3)
  generalize (Dw, W.listOf wvs.toArray cw) :: (fzw ++ ((ah, oA) :: rest)) = r2 at N5 b1 s1 hDw hAh hkw2
  have hKK : ∀ k ∈ sortK (keysN st en hi dcs acs n), ∃ c v : Int, k = [c, v] ∧ (c = 0 ∨ c = 1) ∧ 0 ≤ v ∧ v < 3 := fun k hk => hKm k (hperm.mem_iff.mp hk)
  have hKl2 : (sortK (keysN st en hi dcs acs n)).length ≤ 6 := by rw [hperm.length_eq]; omega
  generalize hW : sortK (keysN st en hi dcs acs n) = W9 at *
  have y1' := s1 _ y1; have y2' := s1 _ y2; have y3' := s1 _ y3; have y4' := s1 _ y4
  have yH' := s1 _ yH; have yC' := s1 _ yC; have y5' := s1 _ y5; have y6' := s1 _ y6; have y7' := s1 _ y7; have y8' := s1 _ y8; have y9' := s1 _ y9
  have hkH2 : TDKeys r2 (xsH es) := (keysH hes).mono s1
  have hkC2 : TDKeys r2 (xsC es) := (keysC hes).mono s1
  have hes2 : ∀ e ∈ es, EntOK w r2 e := fun e he => (hes e he).mono s1
  have bS : ∀ p ∈ r2, p.1 ≠ src := fun p hp => (b1 p hp).1
  have bT : ∀ p ∈ r2, p.1 ≠ L + 1 + 1 + 1 + 1 := fun p hp => (b1 p hp).2
  clear b1 hes y1 y2 y3 y4 yH yC y5 y6 y7 y8 y9 o1 o2
  have hwl : wvs.length = W9.length := hkw2.len
  refine LCt.ListComp_T F4 (by rfl) (by decide) (by rfl) (by decide) (by rfl) ?_
  k_steps
  refine Halt.go ?_
  refine LCt.CompSrcT.ledger (k := cw) rfl F4 N5 (.tail _ (.tail _ hDw)) ?sz fun gg => rest_invT (n := wvs.toArray.size) (fun i ys nw => nw = (src, os) :: (L + 1 + 1 + 1 + 1, cT) :: r2 ∧ (ys = [] ↔ ∀ k ∈ W9.take i, goodE es k = true)) ?_ ?_ _ 0 [] _ (by omega) ⟨rfl, by simp⟩
  case sz => rw [sizeLine_eq]; simp; omega
  · clear F4 N5
    rintro i ys _ v I oI C oC D m₂ h tk E' hi9 ⟨rfl, hys⟩ hv hC hx F6 N6 off ne
    have hi2 : i < W9.length := by simp at hi9; omega
    have hkv := hkw2.get i hi2
    have hv2 : wvs.getD i Value.none = v := by
      have h5 : wvs[i]? = some v := by simpa using hv
      rw [List.getD_eq_getElem?_getD, h5]; rfl
    rw [hv2] at hkv
    clear hv hv2
    have htk : W9.take (i + 1) = W9.take i ++ [W9.getD i []] := by
      rw [List.take_add_one, List.getD_eq_getElem?_getD, List.getElem?_eq_getElem hi2]; rfl
    generalize W9.getD i [] = kk at hkv htk
    obtain ⟨ka, kvs, rfl, hkm, hki⟩ := id hkv
    have sub5 : ∀ p ∈ r2, p ∈ (I, oI) :: (C, oC) :: (D, lst ys) :: (src, os) :: (L + 1 + 1 + 1 + 1, cT) :: r2 := fun p hp => .tail _ (.tail _ (.tail _ (.tail _ (.tail _ hp))))
    cases hf : findE es kk with
    | none =>
      have hgk : goodE es kk = false := by unfold goodE; rw [hf]
      k_steps
      refine Halt.go ?_
      refine td_notin N6 (sub5 _ yH') loH hTH (hkH2.mono sub5) (hkv.mono sub5) (by ktr_units) fun tk2 => ?_
      rw [atKey_H, hf]
      simp only [Option.map_none, Option.isSome_none, Bool.not_false]
      k_steps
      refine CompEnd.intro F6 N6 ((src, os) :: (L + 1 + 1 + 1 + 1, cT) :: r2) (fun p hp => hp) off (.inr ⟨_, .tail _ (.tail _ hDw), rfl, _, rfl⟩) ⟨rfl, ?_⟩
      rw [htk]
      constructor
      · intro q; simp at q
      · intro q; have := q kk (by simp); rw [hgk] at this; cases this
    | some e =>
      obtain ⟨he, ek⟩ := findE_some hf
      obtain ⟨_, _, ⟨ho, h9, tu, cnt, sy, cv, cvs, svs, ns, evh, m1, m2, m3, i1, i2, gF, gT⟩, _⟩ := hes2 e he
      have hat : atKey (xsH es) kk = some (e.ah, .ref tu) := by rw [atKey_H, hf, ← evh]; rfl
      have hgk : goodE es kk = e.g := by unfold goodE; rw [hf]
      k_steps
      refine Halt.go ?_
      refine td_notin N6 (sub5 _ yH') loH hTH (hkH2.mono sub5) (hkv.mono sub5) (by ktr_units) fun tk2 => ?_
      rw [hat]
      simp only [Option.isSome_some, Bool.not_true]
      k_steps
      refine Halt.go ?_
      rename Fr g L _ _ => F7
      rename News g L _ _ => N7
      refine td_tail N7 (sub5 _ yH') hTH (hkH2.mono sub5) (hkv.mono sub5) (by ktr_units) hat (fun tk3 => ?_) (by rfl)
      cases hg : e.g with
      | true =>
        obtain ⟨cdx, odx, kvx, rfl, m4, hdd, hff, hcl⟩ := gT hg
        clear gF gT
        k_steps
        rename Fr g L _ _ => F8
        rename News g L _ _ => N8
        refine CompEnd.intro F8 N8 ((src, os) :: (L + 1 + 1 + 1 + 1, cT) :: r2) (fun p hp => hp) off (.inr ⟨_, .tail _ (.tail _ hDw), rfl, _, rfl⟩) ⟨rfl, ?_⟩
        rw [htk, hys]
        rw [hg] at hgk
        simp only [List.forall_mem_append, List.forall_mem_singleton, hgk, and_true]
      | false =>
        obtain rfl := gF hg
        clear gF gT
        k_steps
        rename Fr g L _ _ => F8
        rename News g L _ _ => N8
        refine CompEnd.intro F8 N8 ((src, os) :: (L + 1 + 1 + 1 + 1, cT) :: r2) (fun p hp => hp) off (.inr ⟨_, .tail _ (.tail _ hDw), rfl, _, rfl⟩) ⟨rfl, ?_⟩
        rw [hg] at hgk
        rw [htk]
        constructor
        · intro q; simp at q
        · intro q; have := q kk (by simp); rw [hgk] at this; cases this
  · rintro ys _ ⟨rfl, hys⟩ D h tk F6 N6 off
    k_steps
    refine Halt.go ?_
    rename Fr g L _ _ => F7
    rename News g L _ _ => N7
    refine ne_nil (N7 _ (.tail _ (.head _))).1 (N7 _ (.head _)).1 (by ktr_units) ?_
    have hbad : decide (ys ≠ []) = !decide (∀ k ∈ W9, goodE es k = true) := by
      have e9 : W9.take wvs.toArray.size = W9 := List.take_of_length_le (by simp; omega)
      rw [e9] at hys
      by_cases hz : ys = []
      · rw [decide_eq_true (hys.mp hz)]; simp [hz]
      · rw [decide_eq_false (fun q => hz (hys.mpr q))]; simp [hz]
    rw [hbad]
    clear hbad hys
    generalize hgd : decide (∀ k ∈ W9, goodE es k = true) = gd9
    clear gg off
    k_steps
    refine Halt.go ?_
    rename Fr g L _ _ => F8
    rename News g L _ _ => N8
    have N9 : News g L _ ((src, os) :: (L + 1 + 1 + 1 + 1, cT) :: r2) := cb_drop N8 fun p hp => .tail _ (.tail _ hp)
    clear N8
    refine wpAny_Try_except ?_
    k_steps
    refine Halt.go ?_
    have sub2 : ∀ p ∈ r2, p ∈ (src, os) :: (L + 1 + 1 + 1 + 1, cT) :: r2 := fun p hp => .tail _ (.tail _ hp)
    have hag := all_good hes2 hperm
    k_here
    k_dflt (refine' made_core (n := n) (dcs := dcs) (acs := acs) (spec := specE es) (xs := xsC es) (oC := oC) ?k1 ?k2 ?k3 ?k4 ?k5 ?kK ?kg (sub2 _ y3') (sub2 _ y4') (sub2 _ yC') loC hTC (hkC2.mono sub2) ?hent spec_none (sub2 _ y5') (sub2 _ y6') (sub2 _ y7') (sub2 _ y8') (sub2 _ y9') hdc hac l1 l2 l3 hn hdr har ?kd ?ku ?kR ?kE; (case k1 => k_asm); (case k2 => k_asm); (case k3 => k_asm); (case k4 => k_asm); (case k5 => k_asm); (case kK => first | exact rfl | assumption); (case kg => first | exact rfl | assumption); (case kd => ktr_room); (case ku => ktr_units))
    case hent => exact spec_ent fun e he => (hes2 e he).mono sub2
    case kE =>
      intro e14 g14 h14 tk14 hbad F14 R14 U14
      obtain rfl : gd9 = false := by
        rw [← hgd]
        exact decide_eq_false fun q => hbad (hag.mpr q)
      refine caught_C (C := 51) rfl BL F14 U14 R14 X (exm51 w) ?_ (hE2 _) ?_
      · intro A' E' Q' s'' F15 q15
        k_steps
        exact q15
      · intro h15 F15 N15
        k_steps
        refine Halt.go ?_
        refine td_eq N15 loC loA (sub2 _ yC') (sub2 _ hAh) hTC hTA (hkC2.mono sub2) (refsC hes2) (by ktr_units) ?_
        k_steps
        rename Fr g L _ _ => F16
        rename News g L _ _ => N16
        exact hret _ _ _ _ F16 N16
    intro Dt oT ysT fzT h14 tk14 hgood F14 N14 loT hTT hkT hkkT hobT abT
    obtain rfl : gd9 = true := by
      rw [← hgd]
      exact decide_eq_true (hag.mp hgood)
    have N15 : News g L h14 ((src, os) :: (L + 1 + 1 + 1 + 1, cT) :: ((Dt, oT) :: (fzT ++ r2))) := cb_drop N14 (by k_extra "my subB")
    have b3 : ∀ p ∈ (Dt, oT) :: (fzT ++ r2), p.1 ≠ src ∧ p.1 ≠ L + 1 + 1 + 1 + 1 := by
      have hb : ∀ p ∈ (Dt, oT) :: fzT, p.1 ≠ src ∧ p.1 ≠ L + 1 + 1 + 1 + 1 := fun p hp => ⟨Nat.ne_of_gt (abT p hp (src, os) (.head _)), Nat.ne_of_gt (abT p hp (L + 1 + 1 + 1 + 1, cT) (.tail _ (.head _)))⟩
      intro p hp
      rcases List.mem_cons.mp hp with rfl | hp
      · exact hb _ (.head _)
      · exact (List.mem_append.mp hp).elim (fun q => hb p (.tail _ q)) fun q => ⟨bS p q, bT p q⟩
    have s3 : ∀ p ∈ r2, p ∈ (Dt, oT) :: (fzT ++ r2) := fun p hp => .tail _ (List.mem_append_right _ hp)
    have hDt : (Dt, oT) ∈ (Dt, oT) :: (fzT ++ r2) := .head _
    have hkk3 : TDKeys ((Dt, oT) :: (fzT ++ r2)) ysT := hkkT.mono fun p hp => .tail _ (List.mem_append_left _ hp)
    have hob3 : ∀ x ∈ ysT, ∃ cs9 ks, specE es x.1 = some (cs9, ks) ∧ TableObjs w cs9 ks x.2.2 ((Dt, oT) :: (fzT ++ r2)) := fun x hx => by
      obtain ⟨cs9, ks, e1, e2⟩ := hobT x hx
      exact ⟨cs9, ks, e1, e2.mono fun p hp => .tail _ (List.mem_append_left _ hp)⟩
    clear N14 N9 abT hkkT hobT F8
    generalize (Dt, oT) :: (fzT ++ r2) = r3 at N15 b3 s3 hDt hkk3 hob3
    have bS3 : ∀ p ∈ r3, p.1 ≠ src := fun p hp => (b3 p hp).1
    have bT3 : ∀ p ∈ r3, p.1 ≠ L + 1 + 1 + 1 + 1 := fun p hp => (b3 p hp).2
    have z1' := s3 _ y1'; have z2' := s3 _ y2'; have z3' := s3 _ y3'; have z4' := s3 _ y4'
    have zH' := s3 _ yH'; have zC' := s3 _ yC'
    have hDw3 := s3 _ hDw; have hAh3 := s3 _ hAh
    clear b3 sub2
    k_steps
    refine Halt.go ?_
    rename Fr g L _ _ => F16
    rename News g L _ _ => N16
    rename _ = Data.cell (some (Value.ref Dt)) => dT2
    rename Obj => oT2
    refine sorted_dict (prog := Challenge.rw_ok0140_01.row.prog) (by rfl) F16 N16 (by k_mem) loT hTT (hkk3.mono fun p hp => .tail _ (.tail _ hp)) ?hne ?h64 fun Ds h17 us cs9 tk17 F17 N17 lt17 hku => ?_
    case hne =>
      intro x hx
      have : x.1 ∈ W9 := hperm.mem_iff.mpr (hkT ▸ List.mem_map_of_mem hx)
      obtain ⟨c, v, e, _⟩ := hKK _ this
      rw [e]; exact List.cons_ne_nil _ _
    case h64 =>
      have h1 := congrArg List.length hkT
      rw [List.length_map, ← hperm.length_eq] at h1
      omega
    rw [hkT, hW] at hku
    k_steps
    refine Halt.go ?_
    rename Fr g L _ _ => F18
    rename News g L _ _ => N18
    have hkw3 : KeysAre r3 wvs W9 := hkw2.mono s3
    refine ne_keys (prog := Challenge.rw_ok0140_01.row.prog) N18 (.head _) (hku.mono fun p hp => .tail _ hp) (by k_mem) (hkw3.mono fun p hp => .tail _ (.tail _ (.tail _ hp))) (by ktr_units) ?_
    k_steps
    refine Halt.go ?_
    rename Fr g L _ _ => F19
    rename News g L _ _ => N19
    refine td_ne (prog := Challenge.rw_ok0140_01.row.prog) N19 loC loA (by k_mem) (by k_mem) hTC hTA (hkC2.mono fun p hp => .tail _ (.tail _ (.tail _ (s3 p hp)))) (refsC hes2) (by ktr_units) ?_
    have N20 : News g L _ ((src, os) :: (L + 1 + 1 + 1 + 1, oT2) :: r3) := cb_drop N19 fun p hp => .tail _ hp
    (try clear N19); (try clear N18); (try clear N17); (try clear N16); (try clear F18); (try clear F17); (try clear F16)
    k_steps
    refine Halt.go ?_
    refine LCt.ListComp_T (by assumption) (by rfl) (by decide) (by rfl) (by decide) (by rfl) ?_
    k_steps
    refine Halt.go ?_
    rename Fr g L _ _ => F21
    refine LCt.CompSrcT.ledger (k := cw) rfl F21 N20 (by k_mem) ?sz fun gg => rest_invT (n := wvs.toArray.size) (fun i zs nw => zs = [] ∧ ∃ os', IsSrc os' ∧ nw = (src, os') :: (L + 1 + 1 + 1 + 1, oT2) :: r3) ?_ ?_ _ 0 [] _ (by omega) ⟨rfl, os, hs, rfl⟩
    case sz => rw [sizeLine_eq]; simp; omega
    · clear F21 N20
      rintro i zs _ v I oI C oC D m₂ h tk E' hi9 ⟨rfl, os', hs', rfl⟩ hv hC hx F6 N6 off ne
      have hi2 : i < W9.length := by simp at hi9; omega
      have hkv := hkw3.get i hi2
      have hv2 : wvs.getD i Value.none = v := by
        have h5 : wvs[i]? = some v := by simpa using hv
        rw [List.getD_eq_getElem?_getD, h5]; rfl
      rw [hv2] at hkv
      clear hv hv2
      have hkW : W9.getD i [] ∈ W9 := by rw [List.getD_eq_getElem?_getD, List.getElem?_eq_getElem hi2]; exact List.getElem_mem hi2
      generalize W9.getD i [] = kk at hkv hkW
      obtain ⟨⟨kaT, vT9⟩, hatT, hmT⟩ := atKey_mem (xs := ysT) (k := kk) (hkT ▸ hperm.mem_iff.mp hkW)
      obtain ⟨cs8, ks8, hsp, hTab⟩ := hob3 _ hmT
      obtain ⟨e, hf, he, hg, rfl, rfl⟩ := spec_good hsp (of_decide_eq_true hgd kk hkW)
      obtain ⟨_, _, ⟨ho, h9, tu, cnt, sy, cv, cvs, svs, ns, evh, m1, m2, m3, i1, i2, _, gT⟩, _⟩ := hes2 e he
      obtain ⟨cdx, odx, kvx, rfl, m4, hdd, hff, hcl⟩ := gT hg
      clear gT
      rw [hg] at i1 i2
      have hat : atKey (xsH es) kk = some (e.ah, .ref tu) := by rw [atKey_H, hf, ← evh]; rfl
      obtain ⟨ka, kvs, rfl, hkm, hki⟩ := id hkv
      have osr := Off3.mem off (src, os') (.head _)
      have x1 : I ≠ src := Ne.symm osr.1
      have x2 : C ≠ src := Ne.symm osr.2.1
      have x3 : D ≠ src := Ne.symm osr.2.2
      clear osr
      k_steps
      refine Halt.go ?_
      rename Fr g L _ _ => F7
      rename News g L _ _ => N7
      refine td_tail (prog := Challenge.rw_ok0140_01.row.prog) N7 (by k_mem) hTT (hkk3.mono fun p hp => .tail _ (.tail _ (.tail _ (.tail _ (.tail _ hp))))) (hkv.mono fun p hp => .tail _ (.tail _ (.tail _ (.tail _ (.tail _ hp))))) (by ktr_units) hatT (fun tk3 => ?_) (by rfl)
      k_steps
      refine Halt.go ?_
      rename Fr g L _ _ => F8
      rename News g L _ _ => N8
      refine td_tail (prog := Challenge.rw_ok0140_01.row.prog) N8 (by k_mem) hTH ((hkH2.mono s3).mono fun p hp => .tail _ (.tail _ (.tail _ (.tail _ (.tail _ hp))))) (hkv.mono fun p hp => .tail _ (.tail _ (.tail _ (.tail _ (.tail _ hp))))) (by ktr_units) hat (fun tk4 => ?_) (by rfl)
      k_steps
      refine Halt.go ?_
      rename Fr g L _ _ => F9
      rename News g L _ _ => N9
      have n1 := s3 _ m1; have n2 := s3 _ m2; have n3 := s3 _ m3; have n4 := s3 _ m4
      have NR : News g L _ ((src, os') :: (tu, tupO [.ref cnt, .ref sy, .ref cdx]) :: (sy, W.listOf svs.toArray ns) :: (cdx, odx) :: ((I, oI) :: (C, oC) :: (D, lst []) :: (L + 1 + 1 + 1 + 1, oT2) :: r3)) := cb_drop N9 (by k_extra "my subB")
      k_here
      k_dflt (refine' reads_core (b := e.b) (r := e.r) ?k1 ?k2 ?k3 NR ?k5 ?kK hs' ?hne (bS3 _ n1) (bS3 _ n3) (bS3 _ n4) i2 hdd hff hcl ho h9 hTab ?hfz ?kd ?ku ?_; (case k1 => k_asm); (case k2 => k_asm); (case k3 => k_asm); (case k5 => k_asm); (case kK => first | exact rfl | assumption); (case kd => ktr_room); (case ku => ktr_units))
      case hne => exact List.forall_mem_cons.mpr ⟨x1, List.forall_mem_cons.mpr ⟨x2, List.forall_mem_cons.mpr ⟨x3, List.forall_mem_cons.mpr ⟨Ne.symm hsT, bS3⟩⟩⟩⟩
      case hfz => exact fun p hp => .tail _ (.tail _ (.tail _ (.tail _ hp)))
      intro o9 h15 tk15 hs9 F15 N15
      k_steps
      rename Fr g L _ _ => F10
      rename News g L _ _ => N10
      refine CompEnd.intro F10 (show News g L _ ((I, oI) :: (C, oC) :: (D, lst []) :: (src, o9) :: (L + 1 + 1 + 1 + 1, oT2) :: r3) from cb_drop N10 ?cbd) ((src, o9) :: (L + 1 + 1 + 1 + 1, oT2) :: r3) (fun p hp => hp) off (.inr ⟨_, .tail _ (.tail _ (s3 _ hDw)), rfl, _, rfl⟩) ⟨rfl, o9, hs9, rfl⟩
      case cbd =>
        k_extra "my subB"
    · rintro zs _ ⟨rfl, os', hs', rfl⟩ D h tk F6 N6 off
      k_steps
      refine Halt.go ?_
      rename Fr g L _ _ => F7
      rename News g L _ _ => N7
      refine eq_nil (N7 _ (.tail _ (.head _))).1 (N7 _ (.head _)).1 (by ktr_units) ?_
      k_steps
      rename Fr g L _ _ => F8
      rename News g L _ _ => N8
      exact hret _ _ _ _ F8 N8
end tail
end
end Mine
-- LY
namespace Mine
section
open PyProof.Rows.LCg
noncomputable def NotCell (o : Obj) : Prop := ∀ v, o.data ≠ .cell v
theorem nc_tup (vs : List Value) : NotCell (tupO vs) := fun v h => nomatch h
theorem nc_list (vs : List Value) (n : Nat) : NotCell (W.listOf vs.toArray n) := fun v h => nomatch h
theorem nc_dict {w : World} {o : Obj} {kvs : List (Int × Value)} (h : o.IsDictOf (intKind Challenge.rw_ok0140_01.row.prog w) kvs) : NotCell o := fun v e => by
  obtain ⟨es, ep, _, hd, _⟩ := h
  rw [hd] at e
  cases e
theorem ent_off {w : World} {tl tl' : List (Addr × Obj)} {e : Ent} (h : EntOK w tl e) (hs : ∀ p ∈ tl, NotCell p.2 → p ∈ tl') : EntOK w tl' e := by
  obtain ⟨⟨a1, v1, e1, m1, i1⟩, ⟨a2, v2, e2, m2, i2⟩, ⟨ho, h9, tu, cnt, sy, cv, cvs, svs, ns, evh, n1, n2, n3, j1, j2, gF, gT⟩, ⟨⟨cu, tu2, cvs2, b9, t9, e3, p1, p2, p3, p4⟩, r⟩⟩ := h
  refine ⟨⟨a1, v1, e1, hs _ m1 (nc_tup _), i1⟩, ⟨a2, v2, e2, hs _ m2 (nc_tup _), i2⟩, ⟨ho, h9, tu, cnt, sy, cv, cvs, svs, ns, evh, hs _ n1 (nc_tup _), hs _ n2 (nc_tup _), hs _ n3 (nc_list _ _), j1, j2, gF, fun q => ?_⟩, ⟨⟨cu, tu2, cvs2, b9, t9, e3, hs _ p1 (nc_tup _), hs _ p2 (nc_tup _), p3, p4⟩, r⟩⟩
  obtain ⟨cd, od, kvs, e4, m4, hd, hf, hc⟩ := gT q
  exact ⟨cd, od, kvs, e4, hs _ m4 (nc_dict hd), hd, hf, hc⟩
section mid
theorem law_mid {w : World} {mean : ExcName → Option Value} {mg mb : Str → Option Value} {g : Heap} {L fa : Addr} {ccd : Value} {m : Str → Option Value} {cst : List (Addr × Obj)} {src bx sc : Addr} {os cT cH cS : Obj} {tbx : Tok} {s : Shared} {Q : Flow → Shared → Prop} {E : Value → Shared → Prop}
    {st en hi lw : Int} {k1 k2 k3 k4 k5 k6 k7 k8 k9 k10 k11 : Tok} {ds pl dcl acl : Addr} {vsp vdc vac : List Value} {np nd na n : Nat} {dcs acs : List Int} {vT vH : Option Value}
    (BL : Below callerA g [] g) (F : Fr g L s.heap m) (fb : m (Str.ofString "box") = some (.ref bx)) (fs : m (Str.ofString "scan") = some (.ref sc)) (X : (Mine.hd.heap_39 w.params).In g) (T : Top Mine.hd.view_39 (looseW Mine.hd.view_39 []) mean mg mb g)
    (N : News g L s.heap ((src, os) :: (bx, W.listOf #[.int 1 tbx] 0) :: (L + 1 + 1 + 1 + 1, cT) :: (L + 1 + 1 + 1, cH) :: cst)) (hbs : bx ≠ src) (hsT : src ≠ L + 1 + 1 + 1 + 1) (hsH : src ≠ L + 1 + 1 + 1) (hbT : bx ≠ L + 1 + 1 + 1 + 1) (hbH : bx ≠ L + 1 + 1 + 1)
    (o1 : ∀ p ∈ cst, p.1 ≠ src) (o2 : ∀ p ∈ cst, p.1 ≠ bx) (o3 : ∀ p ∈ cst, p.1 ≠ L + 1 + 1 + 1) (o4 : ∀ p ∈ cst, p.1 ≠ L + 1 + 1 + 1 + 1) (hs : IsSrc os) (dT : cT.data = Data.cell vT) (dH : cH.data = Data.cell vH)
    (hE : PassesOwn (model Challenge.rw_ok0140_01.row.prog w) (callerA.deeper (envOfC (Str.ofString "law") lawFn.1 L fa ccd)) (envOfC (Str.ofString "law") lawFn.1 L fa ccd) E)
    (hE2 : ∀ hx, PassesOwnAt (model Challenge.rw_ok0140_01.row.prog w) ((callerA.deeper (envOfC (Str.ofString "law") lawFn.1 L fa ccd)).mark hx) (callerA.deeper (envOfC (Str.ofString "law") lawFn.1 L fa ccd)) (envOfC (Str.ofString "law") lawFn.1 L fa ccd) E)
    (y1 : (L + 1, cS) ∈ cst) (d1 : cS.data = Data.cell (some (.ref src)))
    (y5 : (sc, instObj 248 ds) ∈ cst) (y6 : (ds, scanDict w pl dcl acl st en hi lw k1 k2 k3 k4 k5 k6 k7 k8 k9 k10 k11) ∈ cst) (y7 : (pl, W.listOf vsp.toArray np) ∈ cst) (y8 : (dcl, W.listOf vdc.toArray nd) ∈ cst) (y9 : (acl, W.listOf vac.toArray na) ∈ cst)
    (hdc : IntsAre vdc dcs) (hac : IntsAre vac acs) (l1 : vsp.length = n) (l2 : dcs.length = n) (l3 : acs.length = n) (hn : n ≤ 3) (hdr : ∀ x ∈ dcs, 0 ≤ x ∧ x < 3) (har : ∀ x ∈ acs, 0 ≤ x ∧ x < 3)
    (hret : ∀ (m' : Str → Option Value) (nw : List (Addr × Obj)) (h' : Heap) (tk' : Nat), Fr g L h' m' → News g L h' nw → Q (.ret (.bool true)) { s with heap := h', toks := tk' }) :
    wpAny (model Challenge.rw_ok0140_01.row.prog w) (callerA.deeper (envOfC (Str.ofString "law") lawFn.1 L fa ccd)) (execs (lawFn.2.drop 5) (envOfC (Str.ofString "law") lawFn.1 L fa ccd)) Q E s := by
  k_with_none
  k_with "my lt" => first | assumption | exact And.left (by assumption) | exact And.left (And.right (by assumption)) | exact And.right (by assumption) | exact And.left (And.right (And.right (by assumption))) | exact And.right (And.right (by assumption)) | exact And.left (And.right (And.right (And.right (by assumption)))) | exact And.right (And.right (And.right (by assumption))) | exact And.left (And.right (And.right (And.right (And.right (by assumption))))) | exact And.right (And.right (And.right (And.right (by assumption)))) | exact And.left (And.right (And.right (And.right (And.right (And.right (by assumption)))))) | exact And.right (And.right (And.right (And.right (And.right (by assumption))))) | exact And.left (And.right (And.right (And.right (And.right (And.right (And.right (by assumption))))))) | exact And.right (And.right (And.right (And.right (And.right (And.right (by assumption)))))) | exact And.left (And.right (And.right (And.right (And.right (And.right (And.right (And.right (by assumption)))))))) | exact And.right (And.right (And.right (And.right (And.right (And.right (And.right (by assumption))))))) | exact And.left (And.right (And.right (And.right (And.right (And.right (And.right (And.right (And.right (by assumption))))))))) | exact And.right (And.right (And.right (And.right (And.right (And.right (And.right (And.right (by assumption)))))))) | fail
  k_with "my kne" => first | assumption | (refine Ne.symm ?_; assumption) | (refine neN ?_; (try dsimp only); first | (refine Nat.ne_of_lt ?_; k_extra "my lt") | (refine Nat.ne_of_gt ?_; k_extra "my lt") | omega) | fail
  k_with "my room" => first | exact upR 0 (by assumption) rfl | exact upR 1 (by assumption) rfl | exact upR 2 (by assumption) rfl | exact upR 3 (by assumption) rfl | exact upR 4 (by assumption) rfl | exact upR 5 (by assumption) rfl | exact upR 6 (by assumption) rfl | exact upR 7 (by assumption) rfl | exact upR 8 (by assumption) rfl | fail
  k_with "my units" => first | exact upR 0 (by assumption) rfl | exact upR 1 (by assumption) rfl | exact upR 2 (by assumption) rfl | exact upR 3 (by assumption) rfl | exact upR 4 (by assumption) rfl | exact upR 5 (by assumption) rfl | exact upR 6 (by assumption) rfl | exact upR 7 (by assumption) rfl | exact upR 8 (by assumption) rfl | exact upR 9 (by assumption) rfl | exact upR 10 (by assumption) rfl | exact upR 11 (by assumption) rfl | exact upR 12 (by assumption) rfl | fail
  k_with "my sub" => first | exact List.forall_mem_nil _ | assumption | exact List.forall_mem_cons.mpr ⟨(by k_mem), (by k_extra "my sub")⟩ | (intro p9 hp9; repeat (first | exact hp9 | refine List.Mem.tail _ ?_))
  k_with "my ne" => first | exact List.forall_mem_nil _ | assumption | exact List.forall_mem_cons.mpr ⟨(by first | assumption | k_ne), (by k_extra "my ne")⟩
  k_with "my subA" => (intro p9 hp9; repeat' (first | exact hp9 | exact List.mem_append_left _ hp9 | exact List.mem_append_right _ hp9 | refine List.Mem.tail _ ?_))
  k_with "my memB" => first | assumption | exact List.Mem.head _ | (refine List.Mem.tail _ ?_; k_extra "my memB") | (refine List.mem_append_left _ ?_; k_extra "my memB") | (refine List.mem_append_right _ ?_; k_extra "my memB")
  k_with "my leafB" => first | assumption | (refine List.Mem.tail _ ?_; k_extra "my leafB") | (refine List.mem_append_left _ ?_; k_extra "my leafB") | (refine List.mem_append_right _ ?_; k_extra "my leafB")
  k_with "my subB" => first | exact List.forall_mem_nil _ | exact List.forall_mem_cons.mpr ⟨(by k_extra "my memB"), (by k_extra "my subB")⟩ | exact List.forall_mem_append.mpr ⟨(by k_extra "my subB"), (by k_extra "my subB")⟩ | (intro p9 hp9; k_extra "my leafB")
  k_with "exec For Name Call cons nil" => walk_at "my m31"
  k_with "setItem ref ref" => (refine halt ?_)
  k_with "call type:bytes" => (refine halt ?_)
  k_with "subscriptTail" => (k_here; (with_reducible show wpAny _ _ (subscriptTail _ _ (Value.ref _) (Value.ref _)) _ _ _); refine halt ?_)
  k_with "my mem" => first | assumption | exact List.Mem.head _ | (refine' List.Mem.tail _ ?_; k_mem)
  k_with "eval ListComp" => (refine halt ?_)
  k_with "exec Assign cons ListComp" => (refine halt ?_)
  k_with "CompSrc" => (refine halt ?_)
  k_with "pyIter ref" => (refine halt ?_)
  k_with "exec Try" => (refine halt ?_)
  k_with "call ref" => (k_here; (with_reducible show wpAny _ _ (call (Value.ref _) _) _ _ _); refine halt ?_)
  k_with "call type:range" => walk_at "my m24"
  k_with "newTuple" => (k_here; k_dflt (refine' kup_newTuple (by k_asm) (by k_asm) ?_ (by kmk_size)); walk_at "my t8")
  k_with "execs cons" => (k_here; dsimp only; k_gentoks)
  k_with "call ref" => (k_here; k_dflt (refine' take_c (by k_asm) (by k_asm) (by k_asm) (by k_asm) (by k_asm) (by first | exact rfl | assumption) (by k_updF) (by assumption) (by first | decide | omega) (by first | decide | omega) (by ktr_room) (by ktr_units) ?_); walk_at "my t1")
  k_with "call type:dict" => (refine halt ?_)
  k_with "CompSrcT" => (refine halt ?_)
  k_with "compareOp NotEq ref ref" => (refine halt ?_)
  k_with "compareOp Eq ref ref" => (refine halt ?_)
  k_with "call builtin:sorted" => (refine halt ?_)
  k_with "compareOp NotIn ref ref" => (refine halt ?_)
  k_with "execs cons" => ((with_reducible show wpAny _ _ (execs (Stmt.For _ _ _ _ _ :: _ :: _) _) _ _ _); refine halt ?_)
  k_with "my omega" => ((fail_if_success (fail_if_success omega (config := {}))); lia)
  have e1 : lawFn.1 = lawFn.1 := rfl
  have e2 : lawFn.2.drop 5 = lawFn.2.drop 5 := rfl
  conv at e1 => rhs; whnf
  conv at e2 => rhs; whnf
  have hE' := hE
  have hE2' := hE2
  rw [e1] at hE' hE2' ⊢
  rw [e2]
  show wpAny _ _ _ _ _ _
  replace hsT := neN hsT; replace hsH := neN hsH; replace hbs := neN hbs; replace hbT := neN hbT; replace hbH := neN hbH
  k_steps
  refine Halt.go ?_
  k_here
  k_dflt (refine' tables_c ?k1 ?k2 ?k3 ?k4 ?k5 ?kK ?kd ?ku ?_; (case k1 => k_asm); (case k2 => k_asm); (case k3 => k_asm); (case k4 => k_asm); (case k5 => k_asm); (case kK => first | exact rfl | assumption); (case kd => ktr_room); (case ku => ktr_units))
  intro tb dt qd cd xd oq oC ox z1 z2 z3 h17 tk17 F17 N17 loC hiC ab17 lt17 lt18 lt19 lt20
  have lo : ∀ p ∈ (src, os) :: (bx, W.listOf #[.int 1 tbx] 0) :: (L + 1 + 1 + 1 + 1, cT) :: (L + 1 + 1 + 1, cH) :: cst, p.1 < dt ∧ p.1 < tb ∧ p.1 < qd ∧ p.1 < cd ∧ p.1 < xd := fun p hp => by
    have h1 := ltN (ab17 p hp)
    have h2 := ltN lt17
    have h3 := ltN lt18
    have h4 := ltN lt19
    have h5 := ltN lt20
    refine ⟨h1, Nat.lt_trans h1 h2, Nat.lt_trans (Nat.lt_trans h1 h2) h3, Nat.lt_trans (Nat.lt_trans (Nat.lt_trans h1 h2) h3) h4, Nat.lt_trans (Nat.lt_trans (Nat.lt_trans (Nat.lt_trans h1 h2) h3) h4) h5⟩
  have NA : News g L h17 ((src, os) :: (bx, W.listOf #[.int 1 tbx] 0) :: (L + 1 + 1 + 1 + 1, cT) :: (L + 1 + 1 + 1, cH) :: (cd, oC) :: ((tb, instObj 157 dt) :: (dt, tabsDict w qd cd xd z1 z2 z3) :: (qd, oq) :: (xd, ox) :: cst)) := cb_drop N17 (by k_extra "my subB")
  have hup : ∀ q, q ∈ [(src, os), (bx, W.listOf #[.int 1 tbx] 0), (L + 1 + 1 + 1 + 1, cT), (L + 1 + 1 + 1, cH)] → cd ≠ q.1 ∧ (∀ p ∈ cst, p.1 ≠ q.1) → ∀ p ∈ (tb, instObj 157 dt) :: (dt, tabsDict w qd cd xd z1 z2 z3) :: (qd, oq) :: (xd, ox) :: cst, p.1 ≠ q.1 := fun q hq h => by
    have l9 := lo q ((show ∀ q ∈ [(src, os), (bx, W.listOf #[.int 1 tbx] 0), (L + 1 + 1 + 1 + 1, cT), (L + 1 + 1 + 1, cH)], q ∈ (src, os) :: (bx, W.listOf #[.int 1 tbx] 0) :: (L + 1 + 1 + 1 + 1, cT) :: (L + 1 + 1 + 1, cH) :: cst by k_extra "my subB") q hq)
    exact List.forall_mem_cons.mpr ⟨Nat.ne_of_gt l9.2.1, List.forall_mem_cons.mpr ⟨Nat.ne_of_gt l9.1, List.forall_mem_cons.mpr ⟨Nat.ne_of_gt l9.2.2.1, List.forall_mem_cons.mpr ⟨Nat.ne_of_gt l9.2.2.2.2, h.2⟩⟩⟩⟩
  have c1 : cd ≠ src := Nat.ne_of_gt (lo _ (.head _)).2.2.2.1
  have c2 : cd ≠ bx := Nat.ne_of_gt (lo _ (.tail _ (.head _))).2.2.2.1
  have c4 : cd ≠ L + 1 + 1 + 1 + 1 := Nat.ne_of_gt (lo _ (.tail _ (.tail _ (.head _)))).2.2.2.1
  have c3 : cd ≠ L + 1 + 1 + 1 := Nat.ne_of_gt (lo _ (.tail _ (.tail _ (.tail _ (.head _))))).2.2.2.1
  have p1 := hup (src, os) (.head _) ⟨c1, o1⟩
  have p2 := hup (bx, W.listOf #[.int 1 tbx] 0) (.tail _ (.head _)) ⟨c2, o2⟩
  have p4 := hup (L + 1 + 1 + 1 + 1, cT) (.tail _ (.tail _ (.head _))) ⟨c4, o4⟩
  have p3 := hup (L + 1 + 1 + 1, cH) (.tail _ (.tail _ (.tail _ (.head _)))) ⟨c3, o3⟩
  have pc : ∀ p ∈ (tb, instObj 157 dt) :: (dt, tabsDict w qd cd xd z1 z2 z3) :: (qd, oq) :: (xd, ox) :: cst, p.1 ≠ cd := List.forall_mem_cons.mpr ⟨Nat.ne_of_lt (Nat.lt_trans lt18 lt19), List.forall_mem_cons.mpr ⟨Nat.ne_of_lt (Nat.lt_trans lt17 (Nat.lt_trans lt18 lt19)), List.forall_mem_cons.mpr ⟨Nat.ne_of_lt lt19, List.forall_mem_cons.mpr ⟨Nat.ne_of_gt lt20, fun p hp => Nat.ne_of_lt (lo p (.tail _ (.tail _ (.tail _ (.tail _ hp))))).2.2.2.1⟩⟩⟩⟩
  have s1 : ∀ p ∈ cst, p ∈ (tb, instObj 157 dt) :: (dt, tabsDict w qd cd xd z1 z2 z3) :: (qd, oq) :: (xd, ox) :: cst := fun p hp => .tail _ (.tail _ (.tail _ (.tail _ hp)))
  have y3 : (tb, instObj 157 dt) ∈ (tb, instObj 157 dt) :: (dt, tabsDict w qd cd xd z1 z2 z3) :: (qd, oq) :: (xd, ox) :: cst := .head _
  have y4 : (dt, tabsDict w qd cd xd z1 z2 z3) ∈ (tb, instObj 157 dt) :: (dt, tabsDict w qd cd xd z1 z2 z3) :: (qd, oq) :: (xd, ox) :: cst := .tail _ (.head _)
  replace c1 := neN c1; replace c2 := neN c2; replace c3 := neN c3; replace c4 := neN c4
  clear hup lo ab17 lt17 lt18 lt19 lt20 N17 o1 o2 o3 o4
  generalize (tb, instObj 157 dt) :: (dt, tabsDict w qd cd xd z1 z2 z3) :: (qd, oq) :: (xd, ox) :: cst = cst2 at NA p1 p2 p3 p4 pc s1 y3 y4
  (try clear N)
  k_steps
  refine Halt.go ?_
  rename_i hd h22 oH loH hsH' fsH hiH fiH lH D9 h23 lD9 h24 h25 h26 oHd F26 N26 dHd
  have hm : mkFr [(Str.ofString "box", .ref bx), (Str.ofString "scan", .ref sc), (Str.ofString "tables", .ref tb)] [] (fun y => if y = Str.ofString "tables" then some (Value.ref tb) else m y) (fun y => if y = Str.ofString "tables" then some (Value.ref tb) else m y) = fun y => if y = Str.ofString "tables" then some (Value.ref tb) else m y := by
    refine FrIs.eq ⟨List.forall_mem_cons.mpr ⟨?_, List.forall_mem_cons.mpr ⟨?_, List.forall_mem_cons.mpr ⟨?_, List.forall_mem_nil _⟩⟩⟩, fun _ _ => rfl⟩
    · exact (if_neg (show ¬ Str.ofString "box" = Str.ofString "tables" by decide +kernel)).trans fb
    · exact (if_neg (show ¬ Str.ofString "scan" = Str.ofString "tables" by decide +kernel)).trans fs
    · exact if_pos rfl
  rw [← hm] at F26
  have hh1 : hd ≠ src := Nat.ne_of_gt lH.1
  have hh2 : hd ≠ bx := Nat.ne_of_gt lH.2.1
  have hh4 : hd ≠ L + 1 + 1 + 1 + 1 := Nat.ne_of_gt lH.2.2.1
  have hhc : cd ≠ hd := Nat.ne_of_lt lH.2.2.2.2.1
  have hhr : ∀ p ∈ cst2, p.1 ≠ hd := fun p hp => Nat.ne_of_lt (allLt_iff.mp lH.2.2.2.2.2 p hp)
  have NB : News g L h26 ((src, os) :: (bx, W.listOf #[.int 1 tbx] 0) :: (hd, oH) :: (cd, oC) :: (L + 1 + 1 + 1 + 1, cT) :: (L + 1 + 1 + 1, oHd) :: cst2) := cb_drop N26 (by k_extra "my subB")
  have hcc : L + 1 + 1 + 1 ≠ L + 1 + 1 + 1 + 1 := Nat.ne_of_lt (Nat.lt_succ_self _)
  have hh3 : hd ≠ L + 1 + 1 + 1 := Nat.ne_of_gt lH.2.2.2.1
  have off : Off4 src bx hd cd ((L + 1 + 1 + 1 + 1, cT) :: (L + 1 + 1 + 1, oHd) :: cst2) := List.forall_mem_cons.mpr ⟨⟨Ne.symm hsT, Ne.symm hbT, Ne.symm hh4, Ne.symm c4⟩, List.forall_mem_cons.mpr ⟨⟨Ne.symm hsH, Ne.symm hbH, Ne.symm hh3, Ne.symm c3⟩, fun p hp => ⟨p1 p hp, p2 p hp, hhr p hp, pc p hp⟩⟩⟩
  clear hE' hE2' e1 e2 N26 lH lD9 hm
  (try clear NA)
  refine law_rest (cS := cS) (cHd := oHd) BL F26 X T NB hbs hh1 hh2 c1 c2 hhc off (IsTD.ofInt hiH) (IsTD.ofInt hiC) hE (.tail _ (s1 _ y1)) d1 (.head _) dHd hs (.tail _ y3) (.tail _ y4) ?_
  clear F26 NB
  intro c u h27 tk27 hf F27 N27
  obtain ⟨hso, _, _, hTH, hTC, hes, hks, hof, hcs3, hel⟩ := hf
  have hTm : (L + 1 + 1 + 1 + 1, cT) ∈ c.tl := hcs3 _ (.head _)
  obtain ⟨rest, NR, hoff, hin, _⟩ := led_pull N27 (hd := [(src, c.os), (L + 1 + 1 + 1 + 1, cT)]) (List.forall_mem_cons.mpr ⟨.head _, List.forall_mem_cons.mpr ⟨.tail _ (.tail _ (.tail _ (.tail _ hTm))), List.forall_mem_nil _⟩⟩)
  have hinT : ∀ p ∈ c.tl, p.1 ≠ L + 1 + 1 + 1 + 1 → p ∈ rest := fun p hp h => hin p (.tail _ (.tail _ (.tail _ (.tail _ hp)))) (List.forall_mem_cons.mpr ⟨(hof p hp).1, List.forall_mem_cons.mpr ⟨h, List.forall_mem_nil _⟩⟩)
  have hinC : ∀ p ∈ cst, p ∈ rest := fun p hp => hinT p (hcs3 p (.tail _ (.tail _ (s1 p hp)))) (p4 p (s1 p hp))
  have hinC2 : ∀ p ∈ cst2, p ∈ rest := fun p hp => hinT p (hcs3 p (.tail _ (.tail _ hp))) (p4 p hp)
  have hes' : ∀ e ∈ c.es, EntOK w rest e := fun e he => ent_off (hes e he) fun p hp hnc => hinT p hp fun q => by
    have g1 := (N27 p (.tail _ (.tail _ (.tail _ (.tail _ hp))))).1
    have g2 := (N27 (L + 1 + 1 + 1 + 1, cT) (.tail _ (.tail _ (.tail _ (.tail _ hTm))))).1
    rw [q] at g1
    exact hnc vT ((congrArg Obj.data (Option.some.inj (g1.symm.trans g2))).trans dT)
  refine law_tail (rest := rest) (bx := bx) (oH := c.oH) (oC := c.oC) (cHd := oHd) BL F27 X T NR hsT (fun p hp => hoff p hp _ (.head _)) (fun p hp => hoff p hp _ (.tail _ (.head _))) hso dT hE hE2 (hinC _ y1) d1 (hinT _ (hcs3 _ (.tail _ (.head _))) hcc) dHd (hinC2 _ y3) (hinC2 _ y4)
    (hin _ (.tail _ (.tail _ (.head _))) (List.forall_mem_cons.mpr ⟨hh1, List.forall_mem_cons.mpr ⟨hh4, List.forall_mem_nil _⟩⟩)) (hin _ (.tail _ (.tail _ (.tail _ (.head _)))) (List.forall_mem_cons.mpr ⟨c1, List.forall_mem_cons.mpr ⟨c4, List.forall_mem_nil _⟩⟩)) loH loC hTH hTC hes' hks hel
    (hinC _ y5) (hinC _ y6) (hinC _ y7) (hinC _ y8) (hinC _ y9) hdc hac l1 l2 l3 hn hdr har ?_
  intro m' nw h28 tk28 F28 N28
  exact hret _ _ _ _ F28 N28
end mid
end
end Mine
-- XL
namespace Mine
section
open PyProof.Rows.LCg
/-- a made list of small ints, n of them -/
noncomputable def SmallRow (n : Nat) (v : Value) (tl : List (Addr × Obj)) : Prop := ∃ (a : Addr) (vs : List Value) (xs : List Int) (k : Nat), v = .ref a ∧ (a, W.listOf vs.toArray k) ∈ tl ∧ IntsAre vs xs ∧ xs.length = n ∧ ∀ x ∈ xs, 0 ≤ x ∧ x < 3
noncomputable def Sp (bx : Addr) (tbx : Tok) (L : Nat) (cT cH oM oS : Obj) (tl : List (Addr × Obj)) : List (Addr × Obj) := (bx, W.listOf #[.int 1 tbx] 0) :: (L + 1 + 1 + 1 + 1, cT) :: (L + 1 + 1 + 1, cH) :: (L + 1 + 1, oM) :: (L + 1, oS) :: tl
noncomputable def OffSp (bx : Addr) (L : Nat) (tl : List (Addr × Obj)) : Prop := ∀ p ∈ tl, p.1 ≠ bx ∧ p.1 ≠ L + 1 + 1 + 1 + 1 ∧ p.1 ≠ L + 1 + 1 + 1 ∧ p.1 ≠ L + 1 + 1 ∧ p.1 ≠ L + 1
noncomputable def InvS (n : Nat) (src bx : Addr) (tbx : Tok) (L : Nat) (cT cH oM oS : Obj) (i : Nat) (ys : List Value) (nw : List (Addr × Obj)) : Prop :=
  ∃ (os' : Obj) (tl : List (Addr × Obj)), nw = (src, os') :: Sp bx tbx L cT cH oM oS tl ∧ IsSrc os' ∧ (∀ p ∈ tl, p.1 ≠ src) ∧ OffSp bx L tl ∧ ys.length = i ∧ ∀ v ∈ ys, SmallRow n v tl
theorem SmallRow.mono {n : Nat} {v : Value} {tl tl' : List (Addr × Obj)} (h : SmallRow n v tl) (hs : ∀ p ∈ tl, p ∈ tl') : SmallRow n v tl' :=
  let ⟨a, vs, xs, k, e, hm, r⟩ := h; ⟨a, vs, xs, k, e, hs _ hm, r⟩
section law
local macro_rules | `(tactic| k_qdec) => `(tactic| first | exact nm9 | exact im9)
theorem law_thm : Challenge.rw_ok0140_01.Holds := by
  k_with_none
  k_with "my lt" => first | assumption | exact And.left (by assumption) | exact And.left (And.right (by assumption)) | exact And.right (by assumption) | exact And.left (And.right (And.right (by assumption))) | exact And.right (And.right (by assumption)) | exact And.left (And.right (And.right (And.right (by assumption)))) | exact And.right (And.right (And.right (by assumption))) | exact And.left (And.right (And.right (And.right (And.right (by assumption))))) | exact And.right (And.right (And.right (And.right (by assumption)))) | exact And.left (And.right (And.right (And.right (And.right (And.right (by assumption)))))) | exact And.right (And.right (And.right (And.right (And.right (by assumption))))) | exact And.left (And.right (And.right (And.right (And.right (And.right (And.right (by assumption))))))) | exact And.right (And.right (And.right (And.right (And.right (And.right (by assumption)))))) | exact And.left (And.right (And.right (And.right (And.right (And.right (And.right (And.right (by assumption)))))))) | exact And.right (And.right (And.right (And.right (And.right (And.right (And.right (by assumption))))))) | exact And.left (And.right (And.right (And.right (And.right (And.right (And.right (And.right (And.right (by assumption))))))))) | exact And.right (And.right (And.right (And.right (And.right (And.right (And.right (And.right (by assumption)))))))) | fail
  k_with "my kne" => first | assumption | (refine Ne.symm ?_; assumption) | (refine neN ?_; (try dsimp only); first | (refine Nat.ne_of_lt ?_; k_extra "my lt") | (refine Nat.ne_of_gt ?_; k_extra "my lt") | omega) | fail
  k_with "my room" => first | exact upR 0 (by assumption) rfl | exact upR 1 (by assumption) rfl | exact upR 2 (by assumption) rfl | exact upR 3 (by assumption) rfl | exact upR 4 (by assumption) rfl | exact upR 5 (by assumption) rfl | exact upR 6 (by assumption) rfl | exact upR 7 (by assumption) rfl | exact upR 8 (by assumption) rfl | fail
  k_with "my units" => first | exact upR 0 (by assumption) rfl | exact upR 1 (by assumption) rfl | exact upR 2 (by assumption) rfl | exact upR 3 (by assumption) rfl | exact upR 4 (by assumption) rfl | exact upR 5 (by assumption) rfl | exact upR 6 (by assumption) rfl | exact upR 7 (by assumption) rfl | exact upR 8 (by assumption) rfl | exact upR 9 (by assumption) rfl | exact upR 10 (by assumption) rfl | exact upR 11 (by assumption) rfl | exact upR 12 (by assumption) rfl | fail
  k_with "my sub" => first | exact List.forall_mem_nil _ | assumption | exact List.forall_mem_cons.mpr ⟨(by k_mem), (by k_extra "my sub")⟩ | (intro p9 hp9; repeat (first | exact hp9 | refine List.Mem.tail _ ?_))
  k_with "my ne" => first | exact List.forall_mem_nil _ | assumption | exact List.forall_mem_cons.mpr ⟨(by first | assumption | k_ne), (by k_extra "my ne")⟩
  k_with "my subA" => (intro p9 hp9; repeat' (first | exact hp9 | exact List.mem_append_left _ hp9 | exact List.mem_append_right _ hp9 | refine List.Mem.tail _ ?_))
  k_with "my memB" => first | assumption | exact List.Mem.head _ | (refine List.Mem.tail _ ?_; k_extra "my memB") | (refine List.mem_append_left _ ?_; k_extra "my memB") | (refine List.mem_append_right _ ?_; k_extra "my memB")
  k_with "my leafB" => first | assumption | (refine List.Mem.tail _ ?_; k_extra "my leafB") | (refine List.mem_append_left _ ?_; k_extra "my leafB") | (refine List.mem_append_right _ ?_; k_extra "my leafB")
  k_with "my subB" => first | exact List.forall_mem_nil _ | exact List.forall_mem_cons.mpr ⟨(by k_extra "my memB"), (by k_extra "my subB")⟩ | exact List.forall_mem_append.mpr ⟨(by k_extra "my subB"), (by k_extra "my subB")⟩ | (intro p9 hp9; k_extra "my leafB")
  k_with "my mem" => first | assumption | exact List.Mem.head _ | (refine' List.Mem.tail _ ?_; k_mem)
  k_with "eval ListComp" => (refine halt ?_)
  k_with "exec Assign cons ListComp" => (refine halt ?_)
  k_with "CompSrc" => (refine halt ?_)
  k_with "pyIter ref" => (refine halt ?_)
  k_with "call ref" => (k_here; (with_reducible show wpAny _ _ (call (Value.ref _) _) _ _ _); refine halt ?_)
  k_with "call ref" => (k_here; k_dflt (refine' take_c (by k_asm) (by k_asm) (by k_asm) (by k_asm) (by k_asm) (by first | exact rfl | assumption) (by k_updF) (by assumption) (by first | decide | omega) (by first | decide | omega) (by ktr_room) (by ktr_units) ?_); walk_at "my t1")
  k_with "call type:range" => walk_at "my m24"
  k_with "newTuple" => (k_here; k_dflt (refine' kup_newTuple (by k_asm) (by k_asm) ?_ (by kmk_size)); walk_at "my t8")
  k_with "execs cons" => (k_here; dsimp only; k_gentoks)
  k_with "execs cons" => ((with_reducible show wpAny _ _ (execs (Stmt.Assign _ _ _ :: Stmt.For _ _ _ _ _ :: _) _) _ _ _); refine halt ?_)
  k_with "my omega" => ((fail_if_success (fail_if_success omega (config := {}))); lia)
  refine holds_law said9 fun said => ?_
  refine holds_open (q := hd.view_39) (loose := []) (Xt := xt9) (XP := XL hd.view_39 []) (Yf := Hook.obs (kHook hd.heap_39 asK asK_is)) (Ya := Hook.val (kHook hd.heap_39 asK asK_is)) (YP := Hook.says (kHook hd.heap_39 asK asK_is)) (N := 5292) left9 (Hook.of _) (Hook.keeps _) (fun s e => xl_of s (Bool.and_eq_true_iff.mp e).1) XL.keeps (by rfl) (by rfl) (by rfl) (fun s e => recFacts_of (Bool.and_eq_true_iff.mp e).2) (by rfl) said ok9 ⟨rfl, rfl, rfl, rfl, rfl, by decide +kernel⟩ ⟨[WData.list []], by decide +kernel, by decide +kernel⟩ ?_
  clear said
  k_fill
  intro w s₀ s₁ mg mb G Y fa o pm cd doc dV kV ho hd hcd hD hmg hg args vals as hpre hlay hrd hwl hlo
  have KX := kIn_of Y
  w_strict (k_behind G ho hd hcd hD hmg hpre hlay hrd hwl hlo cd; (all_goals try k_fold); k_steps)
  refine Halt.go ?_
  rename_i h0 tk0 F0 cT cH cM cS eT eH eM eS N0 X0
  rename Below _ _ _ _ => BL
  rename Top _ _ _ _ _ _ => TL
  rename Heap.IsList _ _ _ => hLs
  rename IntsAre _ _ => hIs
  k_here
  k_dflt (refine' pool_core ?k1 ?k2 ?k3 ?k4 ?k5 ?kK hLs hIs ?kf ?kd ?ku ?_; (case k1 => k_asm); (case k2 => k_asm); (case k3 => k_asm); (case k4 => k_asm); (case k5 => k_asm); (case kK => first | exact rfl | assumption); (case kf => omega); (case kd => ktr_room); (case ku => ktr_units))
  intro src os h1 tk1 hs1 ls1 F1 N1
  replace ls1 := allLt_iff.mp ls1
  k_lt ls1
  w_strict (k_steps)
  rename_i bx h2 lbx D1 h3 lD1 h4 h5 oSrc dSrc h6 tk2 r9 os1 t9 h7 tk7 sSrc r0 r1 h8 oMany F8 N8 dMany
  obtain ⟨n, hn⟩ : ∃ n : Nat, 1 + r9 = (n : Int) := ⟨(1 + r9).toNat, by omega⟩
  rw [hn] at dMany
  have hn1 : 1 ≤ n := by omega
  have hn3 : n ≤ 3 := by omega
  clear hn r0 r1
  obtain ⟨tbx, NA⟩ : ∃ tbx, News _ _ h8 ((src, os1) :: (bx, W.listOf #[.int 1 tbx] 0) :: (s₁.heap.objs.size + 1 + 1 + 1 + 1, cT) :: (s₁.heap.objs.size + 1 + 1 + 1, cH) :: (s₁.heap.objs.size + 1 + 1, oMany) :: (s₁.heap.objs.size + 1, oSrc) :: []) := ⟨_, cb_drop N8 (by k_extra "my sub")⟩
  clear N8
  clear N0 X0
  refine Halt.go ?_
  refine LCg.Assign_ListComp_U F8 (by rfl) (by with_unfolding_all rfl) (by rfl) (by decide) (by rfl) (by decide) (by rfl) (by rfl) (by rfl) ?_
  w_strict (k_steps)
  rename_i h10 tk10 t10 u10 v10 R10 F10 N10 hk10
  clear hk10
  refine Halt.go ?_
  refine CompSrc.range (n := 2) rfl F10 N10 R10 (by decide) (by rfl) (by rw [sizeLine_eq]; omega) fun gg => rest_inv (n := 2) (InvS n src bx tbx s₁.heap.objs.size cT cH oMany oSrc) ?_ ?_ 2 0 [] _ (by omega) ⟨os1, [], rfl, sSrc, fun _ hp => absurd hp List.not_mem_nil, fun _ hp => absurd hp List.not_mem_nil, rfl, fun _ hv => absurd hv List.not_mem_nil⟩
  · clear R10 F10 N10
    rintro i ys _ v I oI C oC D2 m₂ h11 tk11 E' hi ⟨os', tl, rfl, hso, hoff, hoffs, hyl, hrow⟩ ⟨tv9, rfl⟩ hC hx F11 N11 off ne
    have osr := Off3.mem off (src, os') (.head _)
    have x1 : I ≠ src := Ne.symm osr.1
    have x2 : C ≠ src := Ne.symm osr.2.1
    have x3 : D2 ≠ src := Ne.symm osr.2.2
    clear osr
    unfold Sp at N11 off
    refine LCg.ListComp_U F11 (by rfl) (by decide) (by rfl) (by decide) (by rfl) ?_
    w_strict (k_steps)
    rename_i h12 tk12 t12 u12 v12 R12 F12 N12 hk12
    clear hk12
    refine Halt.go ?_
    refine CompSrc.range (n := n) rfl F12 N12 R12 (small_one (by omega) (by omega) (by omega) (by omega)) (by rw [rangeSize_nat]; omega) (by rw [sizeLine_eq]; omega) fun gg2 => rest_inv (n := n) (fun j zs nw => ∃ (os'' : Obj) (xs : List Int), nw = (I, oI) :: (C, oC) :: (D2, lst ys) :: (src, os'') :: Sp bx tbx s₁.heap.objs.size cT cH oMany oSrc tl ∧ IsSrc os'' ∧ zs.length = j ∧ IntsAre zs xs ∧ xs.length = j ∧ ∀ x ∈ xs, 0 ≤ x ∧ x < 3) ?_ ?_ n 0 [] _ (by omega) ⟨os', [], rfl, hso, rfl, .nil, rfl, fun x hx => absurd hx List.not_mem_nil⟩
    · clear R12 F12 N12
      rintro j zs _ v2 I2 oI2 C2 oC2 D3 m₃ h13 tk13 E'' hj ⟨os'', xs, rfl, hso2, hzl, hzi, hxl, hxb⟩ ⟨tv2, rfl⟩ hC2 hx2 F13 N13 off2 ne2
      unfold Sp at N13 off2
      have osr2 := Off3.mem off2 (src, os'') (.tail _ (.tail _ (.tail _ (.head _))))
      have x4 : I2 ≠ src := Ne.symm osr2.1
      have x5 : C2 ≠ src := Ne.symm osr2.2.1
      have x6 : D3 ≠ src := Ne.symm osr2.2.2
      clear osr2
      w_strict (k_steps)
      rename_i r13 o13a t13 h13a tk13a F13a N13a S13 r13a r13b
      refine CompEnd.intro F13a N13a ((I, oI) :: (C, oC) :: (D2, lst ys) :: (src, o13a) :: Sp bx tbx s₁.heap.objs.size cT cH oMany oSrc tl) (fun p hp => hp) off2 trivial ⟨o13a, xs ++ [r13], rfl, S13, by simp [hzl], hzi.append (.cons _ _ .nil), by simp [hxl], fun x hx => ?_⟩
      rcases List.mem_append.mp hx with hx | hx
      · exact hxb x hx
      · rw [List.mem_singleton.mp hx]; exact ⟨r13a, r13b⟩
    · rintro zs _ ⟨os'', xs, rfl, hso2, hzl, hzi, hxl, hxb⟩ D3 h13 tk13 F13 N13 o13
      unfold Sp at N13 o13
      w_strict (k_steps)
      rename Fr _ _ _ _ => F14
      rename News _ _ _ _ => N14
      refine CompEnd.intro F14 N14 ((src, os'') :: Sp bx tbx s₁.heap.objs.size cT cH oMany oSrc ((D3, lst zs) :: tl)) ?subn ?offn trivial ⟨os'', (D3, lst zs) :: tl, rfl, hso2, List.forall_mem_cons.mpr ⟨Ne.symm o13.2.2.2.1, hoff⟩, List.forall_mem_cons.mpr ⟨⟨Ne.symm o13.2.2.2.2.1, Ne.symm o13.2.2.2.2.2.1, Ne.symm o13.2.2.2.2.2.2.1, Ne.symm o13.2.2.2.2.2.2.2.1, Ne.symm o13.2.2.2.2.2.2.2.2.1⟩, hoffs⟩, by simp [hyl], fun v hv => ?_⟩
      case subn =>
        intro p hp
        simp only [Sp, List.mem_cons] at hp ⊢
        rcases hp with h | h | h | h | h | h | h | h | h | h | h <;> simp only [h, true_or, or_true]
      case offn =>
        exact ⟨off.1, off.2.1, off.2.2.1, off.2.2.2.1, off.2.2.2.2.1, off.2.2.2.2.2.1, ⟨Ne.symm o13.1, Ne.symm o13.2.1, Ne.symm o13.2.2.1⟩, off.2.2.2.2.2.2⟩
      rcases List.mem_append.mp hv with hv | hv
      · exact (hrow v hv).mono fun p hp => .tail _ hp
      · rw [List.mem_singleton.mp hv]; exact ⟨D3, zs, xs, _, rfl, .head _, hzi, hxl, hxb⟩
  · rintro ys _ ⟨os', tl, rfl, hso, hoff, hoffs, hyl, hrow⟩ D2 h11 tk11 F11 N11 o11
    unfold Sp at N11 o11
    have srcD2 : src ≠ D2 := o11.1
    have offD2 : ∀ p ∈ tl, p.1 ≠ D2 := off1_mem o11.2.2.2.2.2.2
    have oD2 : bx ≠ D2 ∧ s₁.heap.objs.size + 1 + 1 + 1 + 1 ≠ D2 ∧ s₁.heap.objs.size + 1 + 1 + 1 ≠ D2 ∧ s₁.heap.objs.size + 1 + 1 ≠ D2 ∧ s₁.heap.objs.size + 1 ≠ D2 := ⟨o11.2.1, o11.2.2.1, o11.2.2.2.1, o11.2.2.2.2.1, o11.2.2.2.2.2.1⟩
    w_strict (k_steps)
    refine Halt.go ?_
    have d2s := neN (Ne.symm srcD2)
    obtain ⟨v0, v1, rfl⟩ : ∃ v0 v1, ys = [v0, v1] := by
      match ys, hyl with
      | [a, b], _ => exact ⟨a, b, rfl⟩
    obtain ⟨dcl, vdc, dcs, kdc, rfl, mdc, idc, ldc, bdc⟩ := hrow v0 (.head _)
    obtain ⟨acl, vac, acs, kac, rfl, mac, iac, lac, bac⟩ := hrow v1 (.tail _ (.head _))
    k_here
    k_dflt (refine' one_c ?k1 ?k2 ?k3 ?k4 ?k5 ?kK ?kU ?km ?kn ?kS ?kt ?ktt ?kd ?ku ?_; (case k1 => k_asm); (case k2 => k_asm); (case k3 => k_asm); (case k4 => k_asm); (case k5 => k_asm); (case kK => first | exact rfl | assumption); (case kU => k_updF); (case km => k_mem); (case kn => k_ne); (case kS => assumption); (case kt => first | exact Nat.le_of_ble_eq_true rfl | omega); (case ktt => first | exact Nat.le_of_ble_eq_true rfl | omega); (case kd => ktr_room); (case ku => ktr_units))
    intro v9 os9 h14 tk14 mv F14 N14 hso9
    (try dsimp only at N14)
    obtain ⟨tA, st, en, hi, q1, q2, q3, rfl, N15⟩ : ∃ (tA : Addr) (st en hi : Int) (q1 q2 q3 : Tok), v9 = .ref tA ∧ News TL.heap s₁.heap.objs.size h14 ((tA, tupO [.int st q1, .int en q2, .int hi q3]) :: (D2, lst [.ref dcl, .ref acl]) :: (src, os9) :: Sp bx tbx s₁.heap.objs.size cT cH oMany oSrc tl) := by
      simp only [List.mem_cons, List.not_mem_nil, or_false] at mv
      rcases mv with rfl | rfl | rfl | rfl | rfl <;> exact ⟨_, _, _, _, _, _, _, rfl, cb_drop N14 (by k_extra "my sub")⟩
    clear N14 mv
    unfold Sp at N15
    w_strict (k_steps)
    refine Halt.go ?_
    k_here
    k_dflt (refine' scan_c ?k1 ?k2 ?k3 ?k4 ?k5 ?kK ?kd ?ku ?_; (case k1 => k_asm); (case k2 => k_asm); (case k3 => k_asm); (case k4 => k_asm); (case k5 => k_asm); (case kK => first | exact rfl | assumption); (case kd => ktr_room); (case ku => ktr_units))
    intro sc ds u1 u2 u3 u4 u5 u6 u7 u8 u9 u10 u11 h16 tk16 F16 N16 ab16 lt16
    w_strict (k_steps)
    refine Halt.go ?_
    rename_i Dp vsp cp h15 tkp hIp lDp h17 F17 N17
    have hlp : vsp.length = n := by
      have h1 := hIp.length
      rw [rangeKs_length] at h1
      omega
    have q1 : ∀ q : Addr × Obj, q ∈ (src, os9) :: (bx, W.listOf #[.int 1 tbx] 0) :: (s₁.heap.objs.size + 1 + 1 + 1 + 1, cT) :: (s₁.heap.objs.size + 1 + 1 + 1, cH) :: (s₁.heap.objs.size + 1 + 1, oMany) :: (s₁.heap.objs.size + 1, oSrc) :: tl → q.1 < ds := fun q hq => ab16 q (.tail _ (.tail _ (.tail _ hq)))
    have up : ∀ q : Addr × Obj, q ∈ (src, os9) :: (bx, W.listOf #[.int 1 tbx] 0) :: (s₁.heap.objs.size + 1 + 1 + 1 + 1, cT) :: (s₁.heap.objs.size + 1 + 1 + 1, cH) :: (s₁.heap.objs.size + 1 + 1, oMany) :: (s₁.heap.objs.size + 1, oSrc) :: tl → q.1 < Dp → s₁.heap.objs.size + 1 ≠ q.1 → (∀ p ∈ tl, p.1 ≠ q.1) →
        ∀ p ∈ (sc, instObj 248 ds) :: (ds, scanDict w Dp dcl acl st en hi 0 u1 u2 u3 u4 u5 u6 u7 u8 u9 u10 u11) :: (Dp, W.listOf vsp.toArray cp) :: (s₁.heap.objs.size + 1, oSrc) :: tl, p.1 ≠ q.1 := fun q hq h1 h2 h3 =>
      List.forall_mem_cons.mpr ⟨Nat.ne_of_gt (Nat.lt_trans (q1 q hq) lt16), List.forall_mem_cons.mpr ⟨Nat.ne_of_gt (q1 q hq), List.forall_mem_cons.mpr ⟨Nat.ne_of_gt h1, List.forall_mem_cons.mpr ⟨h2, h3⟩⟩⟩⟩
    have N18 : News TL.heap s₁.heap.objs.size h17 ((src, os9) :: (bx, W.listOf #[.int 1 tbx] 0) :: (s₁.heap.objs.size + 1 + 1 + 1 + 1, cT) :: (s₁.heap.objs.size + 1 + 1 + 1, cH) :: ((sc, instObj 248 ds) :: (ds, scanDict w Dp dcl acl st en hi 0 u1 u2 u3 u4 u5 u6 u7 u8 u9 u10 u11) :: (Dp, W.listOf vsp.toArray cp) :: (s₁.heap.objs.size + 1, oSrc) :: tl)) := cb_drop N17 (by k_extra "my subB")
    have w1 := up (src, os9) (.head _) lDp.2.2.1 (Nat.ne_of_lt ls1.2.2.2) hoff
    have w2 := up (bx, W.listOf #[.int 1 tbx] 0) (.tail _ (.head _)) lDp.2.2.2.1 (Nat.ne_of_lt lbx.2.2.2.2) fun p hp => (hoffs p hp).1
    have w4 := up (s₁.heap.objs.size + 1 + 1 + 1 + 1, cT) (.tail _ (.tail _ (.head _))) lDp.2.2.2.2.1 (Nat.ne_of_lt (show s₁.heap.objs.size + 1 < s₁.heap.objs.size + 1 + 1 + 1 + 1 by omega)) fun p hp => (hoffs p hp).2.1
    have w3 := up (s₁.heap.objs.size + 1 + 1 + 1, cH) (.tail _ (.tail _ (.tail _ (.head _)))) lDp.2.2.2.2.2.1 (Nat.ne_of_lt (show s₁.heap.objs.size + 1 < s₁.heap.objs.size + 1 + 1 + 1 by omega)) fun p hp => (hoffs p hp).2.2.1
    refine law_mid (sc := sc) (ds := ds) (pl := Dp) (dcl := dcl) (acl := acl) (n := n) (dcs := dcs) (acs := acs) BL F17 ?fb ?fs KX TL N18 (Nat.ne_of_gt lbx.1) (Nat.ne_of_gt ls1.1) (Nat.ne_of_gt ls1.2.1) (Nat.ne_of_gt lbx.2.1) (Nat.ne_of_gt lbx.2.2.1) w1 w2 w3 w4 hso9 eT eH ?hE ?hE2 (.tail _ (.tail _ (.tail _ (.head _)))) dSrc (.head _) (.tail _ (.head _)) (.tail _ (.tail _ (.head _))) (.tail _ (.tail _ (.tail _ (.tail _ mdc)))) (.tail _ (.tail _ (.tail _ (.tail _ mac)))) idc iac hlp ldc lac hn3 bdc bac ?hret
    case fb => with_unfolding_all rfl
    case fs => with_unfolding_all rfl
    case hE => passes_own
    case hE2 => intro hx; passes_own
    case hret =>
      intro m' nw h' tk' F19 N19
      k_steps
end law
end
end Mine
theorem PySem.Challenge.cw_ok0140_01_holds : PySem.Challenge.rw_ok0140_01.Holds := by
  exact Mine.law_thm
