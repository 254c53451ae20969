import PyProof.Rows.All
import Wide.All
import OpenK.AllK
import Wide.FinOn
import PySem.Challenge.RW_og0077_01
set_option Elab.async false
set_option compiler.extract_closed false
section
open PySem PySem.W PyProof.Rows
namespace Mine
abbrev PW : Program := PySem.Challenge.rw_og0077_01.prog
def fparts : Stmt → Option (Arguments × List Stmt × Scope)
  | .FunctionDef _ a b _ _ _ c _ _ _ => some (a, b, c)
  | _ => none
def inside : Stmt → List Stmt
  | .ClassDef _ _ _ b _ _ _ _ _ _ _ => b
  | _ => []
def fAt (i : Nat) : Option (Arguments × List Stmt × Scope) := (PW.main.body[i]?).bind fparts
def mAt (i j : Nat) : Option (Arguments × List Stmt × Scope) := ((PW.main.body[i]?).bind fun s => (inside s)[j]?).bind fparts
def pickL (l : List Stmt) : List Nat → List Stmt
  | [] => []
  | i :: r => match l[i]? with
    | some s => s :: pickL l r
    | none => []
/-- the part of the top that the law reads -/
noncomputable def hdView : Program := { PW with main := { PW.main with body := pickL PW.main.body [0, 2, 3, 5, 6, 8, 9, 10, 11, 12, 13, 14, 15, 17, 18, 19, 20, 21, 22, 23, 24, 25, 26, 27, 28, 29, 30, 31] } }
set_option maxRecDepth 100000 in
/-- what the top leaves: the objects that the law reaches; a def's own text is taken from the row -/
noncomputable def hdHeap : Params → Frag :=
  (fun {a0 : Arguments} {b0 : List Stmt} {c0 : Scope} (_ : fAt 0 = some (a0, b0, c0)) {a1 : Arguments} {b1 : List Stmt} {c1 : Scope} (_ : mAt 2 0 = some (a1, b1, c1)) {a2 : Arguments} {b2 : List Stmt} {c2 : Scope} (_ : mAt 2 1 = some (a2, b2, c2)) {a3 : Arguments} {b3 : List Stmt} {c3 : Scope} (_ : fAt 5 = some (a3, b3, c3)) {a4 : Arguments} {b4 : List Stmt} {c4 : Scope} (_ : fAt 6 = some (a4, b4, c4)) {a5 : Arguments} {b5 : List Stmt} {c5 : Scope} (_ : fAt 9 = some (a5, b5, c5)) {a6 : Arguments} {b6 : List Stmt} {c6 : Scope} (_ : fAt 10 = some (a6, b6, c6)) {a7 : Arguments} {b7 : List Stmt} {c7 : Scope} (_ : mAt 11 0 = some (a7, b7, c7)) {a8 : Arguments} {b8 : List Stmt} {c8 : Scope} (_ : mAt 11 1 = some (a8, b8, c8)) {a9 : Arguments} {b9 : List Stmt} {c9 : Scope} (_ : mAt 11 2 = some (a9, b9, c9)) {a10 : Arguments} {b10 : List Stmt} {c10 : Scope} (_ : mAt 11 3 = some (a10, b10, c10)) {a11 : Arguments} {b11 : List Stmt} {c11 : Scope} (_ : mAt 11 4 = some (a11, b11, c11)) {a12 : Arguments} {b12 : List Stmt} {c12 : Scope} (_ : fAt 12 = some (a12, b12, c12)) {a13 : Arguments} {b13 : List Stmt} {c13 : Scope} (_ : fAt 13 = some (a13, b13, c13)) {a14 : Arguments} {b14 : List Stmt} {c14 : Scope} (_ : fAt 14 = some (a14, b14, c14)) {a15 : Arguments} {b15 : List Stmt} {c15 : Scope} (_ : fAt 15 = some (a15, b15, c15)) {a16 : Arguments} {b16 : List Stmt} {c16 : Scope} (_ : fAt 17 = some (a16, b16, c16)) {a17 : Arguments} {b17 : List Stmt} {c17 : Scope} (_ : fAt 18 = some (a17, b17, c17)) {a18 : Arguments} {b18 : List Stmt} {c18 : Scope} (_ : fAt 19 = some (a18, b18, c18)) {a19 : Arguments} {b19 : List Stmt} {c19 : Scope} (_ : fAt 20 = some (a19, b19, c19)) {a20 : Arguments} {b20 : List Stmt} {c20 : Scope} (_ : fAt 21 = some (a20, b20, c20)) {a21 : Arguments} {b21 : List Stmt} {c21 : Scope} (_ : fAt 22 = some (a21, b21, c21)) {a22 : Arguments} {b22 : List Stmt} {c22 : Scope} (_ : fAt 23 = some (a22, b22, c22)) {a23 : Arguments} {b23 : List Stmt} {c23 : Scope} (_ : fAt 24 = some (a23, b23, c23)) {a24 : Arguments} {b24 : List Stmt} {c24 : Scope} (_ : fAt 25 = some (a24, b24, c24)) {a25 : Arguments} {b25 : List Stmt} {c25 : Scope} (_ : fAt 26 = some (a25, b25, c25)) {a26 : Arguments} {b26 : List Stmt} {c26 : Scope} (_ : fAt 27 = some (a26, b26, c26)) {a27 : Arguments} {b27 : List Stmt} {c27 : Scope} (_ : fAt 28 = some (a27, b27, c27)) {a28 : Arguments} {b28 : List Stmt} {c28 : Scope} (_ : fAt 29 = some (a28, b28, c28)) {a29 : Arguments} {b29 : List Stmt} {c29 : Scope} (_ : fAt 30 = some (a29, b29, c29)) {a30 : Arguments} {b30 : List Stmt} {c30 : Scope} (_ : fAt 31 = some (a30, b30, c30)) => (fun P => (nat_lit 2, ⟨Value.none, none, (Data.dict ([⟨(PyData.keyHash P (Str.ofString "type.__subclasses__.Exception.0")), (Value.str (Str.ofString "type.__subclasses__.Exception.0") 232), (Value.int 47 0)⟩, ⟨(PyData.keyHash P (Str.ofString "type.__subclasses__.Exception.n")), (Value.str (Str.ofString "type.__subclasses__.Exception.n") 233), (Value.int 1 0)⟩]).toArray 2), ([]).toArray⟩) ::
    (nat_lit 3, ⟨(Value.type "dict"), none, (Data.dict ([⟨(PyData.keyHash P (Str.ofString "__name__")), (Value.str (Str.ofString "__name__") 165), (Value.str (Str.ofString "law_og0077_01") 400)⟩, ⟨(PyData.keyHash P (Str.ofString "__doc__")), (Value.str (Str.ofString "__doc__") 166), Value.none⟩, ⟨(PyData.keyHash P (Str.ofString "__package__")), (Value.str (Str.ofString "__package__") 167), Value.none⟩, ⟨(PyData.keyHash P (Str.ofString "__loader__")), (Value.str (Str.ofString "__loader__") 168), (Value.builtin "__main__.__loader__#opaque")⟩, ⟨(PyData.keyHash P (Str.ofString "__spec__")), (Value.str (Str.ofString "__spec__") 169), Value.none⟩, ⟨(PyData.keyHash P (Str.ofString "__annotations__")), (Value.str (Str.ofString "__annotations__") 170), (Value.ref 6)⟩, ⟨(PyData.keyHash P (Str.ofString "__builtins__")), (Value.str (Str.ofString "__builtins__") 171), (Value.ref 4)⟩, ⟨(PyData.keyHash P (Str.ofString "__file__")), (Value.str (Str.ofString "__file__") 173), (Value.str (Str.ofString "/claim/cut.py") 172)⟩, ⟨(PyData.keyHash P (Str.ofString "__cached__")), (Value.str (Str.ofString "__cached__") 174), Value.none⟩, ⟨(PyData.keyHash P (Str.ofString "_wall")), (Value.str (Str.ofString "_wall") 193), (Value.ref 21)⟩, ⟨(PyData.keyHash P (Str.ofString "LedgerError")), (Value.str (Str.ofString "LedgerError") 235), (Value.ref 47)⟩, ⟨(PyData.keyHash P (Str.ofString "RunFault")), (Value.str (Str.ofString "RunFault") 251), (Value.ref 60)⟩, ⟨(PyData.keyHash P (Str.ofString "lies_at")), (Value.str (Str.ofString "lies_at") 262), (Value.ref 69)⟩, ⟨(PyData.keyHash P (Str.ofString "first_at")), (Value.str (Str.ofString "first_at") 272), (Value.ref 76)⟩, ⟨(PyData.keyHash P (Str.ofString "SEEKER_KINDS")), (Value.str (Str.ofString "SEEKER_KINDS") 276), (Value.str (Str.ofString "ALL LEADING FIRST CHARACTERS") 275)⟩, ⟨(PyData.keyHash P (Str.ofString "stretch_begin")), (Value.str (Str.ofString "stretch_begin") 285), (Value.ref 83)⟩, ⟨(PyData.keyHash P (Str.ofString "stretch_end")), (Value.str (Str.ofString "stretch_end") 294), (Value.ref 90)⟩, ⟨(PyData.keyHash P (Str.ofString "Seeker")), (Value.str (Str.ofString "Seeker") 363), (Value.ref 135)⟩, ⟨(PyData.keyHash P (Str.ofString "seeker_of")), (Value.str (Str.ofString "seeker_of") 374), (Value.ref 146)⟩, ⟨(PyData.keyHash P (Str.ofString "fits_in")), (Value.str (Str.ofString "fits_in") 387), (Value.ref 153)⟩, ⟨(PyData.keyHash P (Str.ofString "tallied")), (Value.str (Str.ofString "tallied") 393), (Value.ref 158)⟩, ⟨(PyData.keyHash P (Str.ofString "replaced_in")), (Value.str (Str.ofString "replaced_in") 399), (Value.ref 163)⟩, ⟨(PyData.keyHash P (Str.ofString "_law_pen")), (Value.str (Str.ofString "_law_pen") 407), (Value.ref 168)⟩, ⟨(PyData.keyHash P (Str.ofString "_law_draw")), (Value.str (Str.ofString "_law_draw") 420), (Value.ref 175)⟩, ⟨(PyData.keyHash P (Str.ofString "_law_pick")), (Value.str (Str.ofString "_law_pick") 428), (Value.ref 182)⟩, ⟨(PyData.keyHash P (Str.ofString "_law_text")), (Value.str (Str.ofString "_law_text") 434), (Value.ref 187)⟩, ⟨(PyData.keyHash P (Str.ofString "_law_row")), (Value.str (Str.ofString "_law_row") 440), (Value.ref 192)⟩, ⟨(PyData.keyHash P (Str.ofString "_law_places")), (Value.str (Str.ofString "_law_places") 446), (Value.ref 197)⟩, ⟨(PyData.keyHash P (Str.ofString "_law_span")), (Value.str (Str.ofString "_law_span") 452), (Value.ref 202)⟩, ⟨(PyData.keyHash P (Str.ofString "_law_is_hit")), (Value.str (Str.ofString "_law_is_hit") 464), (Value.ref 209)⟩, ⟨(PyData.keyHash P (Str.ofString "_law_walk")), (Value.str (Str.ofString "_law_walk") 470), (Value.ref 214)⟩, ⟨(PyData.keyHash P (Str.ofString "_law_counts")), (Value.str (Str.ofString "_law_counts") 476), (Value.ref 219)⟩, ⟨(PyData.keyHash P (Str.ofString "_law_exchanged")), (Value.str (Str.ofString "_law_exchanged") 488), (Value.ref 226)⟩, ⟨(PyData.keyHash P (Str.ofString "_law_count_cases")), (Value.str (Str.ofString "_law_count_cases") 495), (Value.ref 233)⟩, ⟨(PyData.keyHash P (Str.ofString "_law_exchange_cases")), (Value.str (Str.ofString "_law_exchange_cases") 502), (Value.ref 240)⟩, ⟨(PyData.keyHash P (Str.ofString "_law_refused")), (Value.str (Str.ofString "_law_refused") 512), (Value.ref 247)⟩, ⟨(PyData.keyHash P (Str.ofString "law")), (Value.str (Str.ofString "law") 518), (Value.ref 252)⟩]).toArray 37), ([]).toArray⟩) ::
    (nat_lit 15, ⟨(Value.type "tuple"), none, (Data.seq ([]).toArray 0), ([]).toArray⟩) ::
    (nat_lit 17, ⟨(Value.type "tuple"), none, (Data.seq ([(Value.str (Str.ofString "k") 190)]).toArray 0), ([]).toArray⟩) ::
    (nat_lit 18, ⟨(Value.type "tuple"), none, (Data.seq ([]).toArray 0), ([]).toArray⟩) ::
    (nat_lit 20, ⟨(Value.type "code"), none, (Data.fields ([(Value.str (Str.ofString "_wall") 187), (Value.str (Str.ofString "_wall") 188), (Value.str (Str.ofString "/claim/cut.py") 189), (Value.int 1 0), (Value.int 1 0), (Value.int 0 0), (Value.int 0 0), (Value.int 3 0), (Value.ref 15), (Value.bool Bool.true), (Value.int 181 0), (Value.ref 16), Value.none, (Value.ref 17), (Value.ref 18), (Value.ref 19), (Value.int 191 0), (Value.int 1 0), (Value.str (Str.ofString "/claim/cut.py") 192)]).toArray), ([]).toArray⟩) ::
    (nat_lit 21, ⟨(Value.type "function"), none, (Data.func (FuncData.mk (Str.ofString "_wall") (Str.ofString "_wall") a0 (FuncBody.stmts b0) c0 3 [] Value.none Value.none Value.none (Value.str (Str.ofString "__main__") 164) none (Value.ref 20) Value.none 0)), ([]).toArray⟩) ::
    (nat_lit 22, ⟨(Value.type "tuple"), none, (Data.seq ([(Value.type "Exception")]).toArray 0), ([]).toArray⟩) ::
    (nat_lit 29, ⟨(Value.type "tuple"), none, (Data.seq ([(Value.int 0 208), (Value.int 0 209)]).toArray 0), ([]).toArray⟩) ::
    (nat_lit 30, ⟨(Value.type "tuple"), none, (Data.seq ([(Value.ref 29)]).toArray 0), ([]).toArray⟩) ::
    (nat_lit 31, ⟨(Value.type "tuple"), none, (Data.seq ([]).toArray 0), ([]).toArray⟩) ::
    (nat_lit 33, ⟨(Value.type "tuple"), none, (Data.seq ([(Value.str (Str.ofString "self") 213), (Value.str (Str.ofString "what") 214), (Value.str (Str.ofString "at") 215)]).toArray 0), ([]).toArray⟩) ::
    (nat_lit 34, ⟨(Value.type "tuple"), none, (Data.seq ([]).toArray 0), ([]).toArray⟩) ::
    (nat_lit 36, ⟨(Value.type "code"), none, (Data.fields ([(Value.str (Str.ofString "__init__") 210), (Value.str (Str.ofString "LedgerError.__init__") 211), (Value.str (Str.ofString "/claim/cut.py") 212), (Value.int 7 0), (Value.int 3 0), (Value.int 0 0), (Value.int 0 0), (Value.int 3 0), (Value.ref 31), (Value.bool Bool.true), (Value.int 181 0), (Value.ref 32), Value.none, (Value.ref 33), (Value.ref 34), (Value.ref 35), (Value.int 216 0), (Value.int 7 0), (Value.str (Str.ofString "/claim/cut.py") 217)]).toArray), ([]).toArray⟩) ::
    (nat_lit 37, ⟨(Value.type "function"), none, (Data.func (FuncData.mk (Str.ofString "__init__") (Str.ofString "LedgerError.__init__") a1 (FuncBody.stmts b1) c1 3 [] (Value.ref 30) Value.none Value.none (Value.str (Str.ofString "ledgerspeak.errors") 194) none (Value.ref 36) Value.none 0)), ([]).toArray⟩) ::
    (nat_lit 38, ⟨(Value.type "tuple"), none, (Data.seq ([]).toArray 0), ([]).toArray⟩) ::
    (nat_lit 40, ⟨(Value.type "tuple"), none, (Data.seq ([(Value.str (Str.ofString "self") 222)]).toArray 0), ([]).toArray⟩) ::
    (nat_lit 41, ⟨(Value.type "tuple"), none, (Data.seq ([]).toArray 0), ([]).toArray⟩) ::
    (nat_lit 43, ⟨(Value.type "code"), none, (Data.fields ([(Value.str (Str.ofString "told") 219), (Value.str (Str.ofString "LedgerError.told") 220), (Value.str (Str.ofString "/claim/cut.py") 221), (Value.int 12 0), (Value.int 1 0), (Value.int 0 0), (Value.int 0 0), (Value.int 3 0), (Value.ref 38), (Value.bool Bool.true), (Value.int 181 0), (Value.ref 39), Value.none, (Value.ref 40), (Value.ref 41), (Value.ref 42), (Value.int 223 0), (Value.int 12 0), (Value.str (Str.ofString "/claim/cut.py") 224)]).toArray), ([]).toArray⟩) ::
    (nat_lit 44, ⟨(Value.type "function"), none, (Data.func (FuncData.mk (Str.ofString "told") (Str.ofString "LedgerError.told") a2 (FuncBody.stmts b2) c2 3 [] Value.none Value.none Value.none (Value.str (Str.ofString "ledgerspeak.errors") 194) none (Value.ref 43) Value.none 0)), ([]).toArray⟩) ::
    (nat_lit 45, ⟨(Value.type "tuple"), none, (Data.seq ([(Value.str (Str.ofString "at") 226), (Value.str (Str.ofString "what") 227)]).toArray 0), ([]).toArray⟩) ::
    (nat_lit 46, ⟨(Value.type "dict"), none, (Data.dict ([⟨(PyData.keyHash P (Str.ofString "__module__")), (Value.str (Str.ofString "__module__") 203), (Value.str (Str.ofString "ledgerspeak.errors") 194)⟩, ⟨(PyData.keyHash P (Str.ofString "__firstlineno__")), (Value.str (Str.ofString "__firstlineno__") 207), (Value.int 5 206)⟩, ⟨(PyData.keyHash P (Str.ofString "__init__")), (Value.str (Str.ofString "__init__") 218), (Value.ref 37)⟩, ⟨(PyData.keyHash P (Str.ofString "told")), (Value.str (Str.ofString "told") 225), (Value.ref 44)⟩, ⟨(PyData.keyHash P (Str.ofString "__static_attributes__")), (Value.str (Str.ofString "__static_attributes__") 228), (Value.ref 45)⟩, ⟨(PyData.keyHash P (Str.ofString "__weakref__")), (Value.str (Str.ofString "__weakref__") 230), (Value.ref 48)⟩, ⟨(PyData.keyHash P (Str.ofString "__doc__")), (Value.str (Str.ofString "__doc__") 231), Value.none⟩]).toArray 3), ([]).toArray⟩) ::
    (nat_lit 47, ⟨(Value.type "type"), none, (Data.cls ⟨(Str.ofString "LedgerError"), [(Value.type "Exception")], [(Value.ref 47), (Value.type "Exception"), (Value.type "BaseException"), (Value.type "object")], 46, (Str.ofString "LedgerError"), Bool.true, [], [(Value.ref 60)], Bool.false, none, Bool.false⟩), ([(some (Value.ref 22)), none, (some (Value.str (Str.ofString "LedgerError") 196)), (some (Value.str (Str.ofString "LedgerError") 204)), (some (Value.builtin "Exception.__new__")), (some (Value.bool Bool.true))]).toArray⟩) ::
    (nat_lit 48, ⟨(Value.type "getset_descriptor"), none, (Data.fields ([(Value.str (Str.ofString "__weakref__") 229), (Value.ref 47), (Value.builtin "ExceptionGroup.__weakref__"), Value.none]).toArray), ([]).toArray⟩) ::
    (nat_lit 51, ⟨(Value.type "tuple"), none, (Data.seq ([(Value.ref 47)]).toArray 0), ([]).toArray⟩) ::
    (nat_lit 58, ⟨(Value.type "tuple"), none, (Data.seq ([]).toArray 0), ([]).toArray⟩) ::
    (nat_lit 59, ⟨(Value.type "dict"), none, (Data.dict ([⟨(PyData.keyHash P (Str.ofString "__module__")), (Value.str (Str.ofString "__module__") 243), (Value.str (Str.ofString "ledgerspeak.errors") 194)⟩, ⟨(PyData.keyHash P (Str.ofString "__firstlineno__")), (Value.str (Str.ofString "__firstlineno__") 247), (Value.int 14 246)⟩, ⟨(PyData.keyHash P (Str.ofString "__static_attributes__")), (Value.str (Str.ofString "__static_attributes__") 248), (Value.ref 58)⟩, ⟨(PyData.keyHash P (Str.ofString "__doc__")), (Value.str (Str.ofString "__doc__") 249), Value.none⟩]).toArray 2), ([]).toArray⟩) ::
    (nat_lit 60, ⟨(Value.type "type"), none, (Data.cls ⟨(Str.ofString "RunFault"), [(Value.ref 47)], [(Value.ref 60), (Value.ref 47), (Value.type "Exception"), (Value.type "BaseException"), (Value.type "object")], 59, (Str.ofString "RunFault"), Bool.true, [], [], Bool.false, none, Bool.false⟩), ([(some (Value.ref 51)), none, (some (Value.str (Str.ofString "RunFault") 236)), (some (Value.str (Str.ofString "RunFault") 244)), (some (Value.builtin "Exception.__new__")), (some (Value.bool Bool.true))]).toArray⟩) ::
    (nat_lit 63, ⟨(Value.type "tuple"), none, (Data.seq ([]).toArray 0), ([]).toArray⟩) ::
    (nat_lit 65, ⟨(Value.type "tuple"), none, (Data.seq ([(Value.str (Str.ofString "octets") 257), (Value.str (Str.ofString "wanted") 258), (Value.str (Str.ofString "at") 259)]).toArray 0), ([]).toArray⟩) ::
    (nat_lit 66, ⟨(Value.type "tuple"), none, (Data.seq ([]).toArray 0), ([]).toArray⟩) ::
    (nat_lit 68, ⟨(Value.type "code"), none, (Data.fields ([(Value.str (Str.ofString "lies_at") 254), (Value.str (Str.ofString "lies_at") 255), (Value.str (Str.ofString "/claim/cut.py") 256), (Value.int 17 0), (Value.int 3 0), (Value.int 0 0), (Value.int 0 0), (Value.int 3 0), (Value.ref 63), (Value.bool Bool.true), (Value.int 181 0), (Value.ref 64), Value.none, (Value.ref 65), (Value.ref 66), (Value.ref 67), (Value.int 260 0), (Value.int 17 0), (Value.str (Str.ofString "/claim/cut.py") 261)]).toArray), ([]).toArray⟩) ::
    (nat_lit 69, ⟨(Value.type "function"), none, (Data.func (FuncData.mk (Str.ofString "lies_at") (Str.ofString "lies_at") a3 (FuncBody.stmts b3) c3 3 [] Value.none Value.none Value.none (Value.str (Str.ofString "ledgerspeak.stringing") 252) none (Value.ref 68) Value.none 0)), ([]).toArray⟩) ::
    (nat_lit 70, ⟨(Value.type "tuple"), none, (Data.seq ([]).toArray 0), ([]).toArray⟩) ::
    (nat_lit 72, ⟨(Value.type "tuple"), none, (Data.seq ([(Value.str (Str.ofString "octets") 266), (Value.str (Str.ofString "wanted") 267), (Value.str (Str.ofString "begin") 268), (Value.str (Str.ofString "at") 269)]).toArray 0), ([]).toArray⟩) ::
    (nat_lit 73, ⟨(Value.type "tuple"), none, (Data.seq ([]).toArray 0), ([]).toArray⟩) ::
    (nat_lit 75, ⟨(Value.type "code"), none, (Data.fields ([(Value.str (Str.ofString "first_at") 263), (Value.str (Str.ofString "first_at") 264), (Value.str (Str.ofString "/claim/cut.py") 265), (Value.int 19 0), (Value.int 3 0), (Value.int 0 0), (Value.int 0 0), (Value.int 3 0), (Value.ref 70), (Value.bool Bool.true), (Value.int 181 0), (Value.ref 71), Value.none, (Value.ref 72), (Value.ref 73), (Value.ref 74), (Value.int 270 0), (Value.int 19 0), (Value.str (Str.ofString "/claim/cut.py") 271)]).toArray), ([]).toArray⟩) ::
    (nat_lit 76, ⟨(Value.type "function"), none, (Data.func (FuncData.mk (Str.ofString "first_at") (Str.ofString "first_at") a4 (FuncBody.stmts b4) c4 3 [] Value.none Value.none Value.none (Value.str (Str.ofString "ledgerspeak.stringing") 252) none (Value.ref 75) Value.none 0)), ([]).toArray⟩) ::
    (nat_lit 77, ⟨(Value.type "tuple"), none, (Data.seq ([]).toArray 0), ([]).toArray⟩) ::
    (nat_lit 79, ⟨(Value.type "tuple"), none, (Data.seq ([(Value.str (Str.ofString "octets") 280), (Value.str (Str.ofString "after") 281), (Value.str (Str.ofString "at") 282)]).toArray 0), ([]).toArray⟩) ::
    (nat_lit 80, ⟨(Value.type "tuple"), none, (Data.seq ([]).toArray 0), ([]).toArray⟩) ::
    (nat_lit 82, ⟨(Value.type "code"), none, (Data.fields ([(Value.str (Str.ofString "stretch_begin") 277), (Value.str (Str.ofString "stretch_begin") 278), (Value.str (Str.ofString "/claim/cut.py") 279), (Value.int 28 0), (Value.int 2 0), (Value.int 0 0), (Value.int 0 0), (Value.int 3 0), (Value.ref 77), (Value.bool Bool.true), (Value.int 181 0), (Value.ref 78), Value.none, (Value.ref 79), (Value.ref 80), (Value.ref 81), (Value.int 283 0), (Value.int 28 0), (Value.str (Str.ofString "/claim/cut.py") 284)]).toArray), ([]).toArray⟩) ::
    (nat_lit 83, ⟨(Value.type "function"), none, (Data.func (FuncData.mk (Str.ofString "stretch_begin") (Str.ofString "stretch_begin") a5 (FuncBody.stmts b5) c5 3 [] Value.none Value.none Value.none (Value.str (Str.ofString "ledgerspeak.inspecting") 273) none (Value.ref 82) Value.none 0)), ([]).toArray⟩) ::
    (nat_lit 84, ⟨(Value.type "tuple"), none, (Data.seq ([]).toArray 0), ([]).toArray⟩) ::
    (nat_lit 86, ⟨(Value.type "tuple"), none, (Data.seq ([(Value.str (Str.ofString "octets") 289), (Value.str (Str.ofString "before") 290), (Value.str (Str.ofString "at") 291)]).toArray 0), ([]).toArray⟩) ::
    (nat_lit 87, ⟨(Value.type "tuple"), none, (Data.seq ([]).toArray 0), ([]).toArray⟩) ::
    (nat_lit 89, ⟨(Value.type "code"), none, (Data.fields ([(Value.str (Str.ofString "stretch_end") 286), (Value.str (Str.ofString "stretch_end") 287), (Value.str (Str.ofString "/claim/cut.py") 288), (Value.int 33 0), (Value.int 2 0), (Value.int 0 0), (Value.int 0 0), (Value.int 3 0), (Value.ref 84), (Value.bool Bool.true), (Value.int 181 0), (Value.ref 85), Value.none, (Value.ref 86), (Value.ref 87), (Value.ref 88), (Value.int 292 0), (Value.int 33 0), (Value.str (Str.ofString "/claim/cut.py") 293)]).toArray), ([]).toArray⟩) ::
    (nat_lit 90, ⟨(Value.type "function"), none, (Data.func (FuncData.mk (Str.ofString "stretch_end") (Str.ofString "stretch_end") a6 (FuncBody.stmts b6) c6 3 [] Value.none Value.none Value.none (Value.str (Str.ofString "ledgerspeak.inspecting") 273) none (Value.ref 89) Value.none 0)), ([]).toArray⟩) ::
    (nat_lit 98, ⟨(Value.type "tuple"), none, (Data.seq ([]).toArray 0), ([]).toArray⟩) ::
    (nat_lit 100, ⟨(Value.type "tuple"), none, (Data.seq ([(Value.str (Str.ofString "self") 310), (Value.str (Str.ofString "kind") 311), (Value.str (Str.ofString "wanted") 312), (Value.str (Str.ofString "begin") 313), (Value.str (Str.ofString "end") 314)]).toArray 0), ([]).toArray⟩) ::
    (nat_lit 101, ⟨(Value.type "tuple"), none, (Data.seq ([]).toArray 0), ([]).toArray⟩) ::
    (nat_lit 103, ⟨(Value.type "code"), none, (Data.fields ([(Value.str (Str.ofString "__init__") 307), (Value.str (Str.ofString "Seeker.__init__") 308), (Value.str (Str.ofString "/claim/cut.py") 309), (Value.int 40 0), (Value.int 5 0), (Value.int 0 0), (Value.int 0 0), (Value.int 3 0), (Value.ref 98), (Value.bool Bool.true), (Value.int 181 0), (Value.ref 99), Value.none, (Value.ref 100), (Value.ref 101), (Value.ref 102), (Value.int 315 0), (Value.int 40 0), (Value.str (Str.ofString "/claim/cut.py") 316)]).toArray), ([]).toArray⟩) ::
    (nat_lit 104, ⟨(Value.type "function"), none, (Data.func (FuncData.mk (Str.ofString "__init__") (Str.ofString "Seeker.__init__") a7 (FuncBody.stmts b7) c7 3 [] Value.none Value.none Value.none (Value.str (Str.ofString "ledgerspeak.inspecting") 273) none (Value.ref 103) Value.none 0)), ([]).toArray⟩) ::
    (nat_lit 105, ⟨(Value.type "tuple"), none, (Data.seq ([]).toArray 0), ([]).toArray⟩) ::
    (nat_lit 107, ⟨(Value.type "tuple"), none, (Data.seq ([(Value.str (Str.ofString "self") 321)]).toArray 0), ([]).toArray⟩) ::
    (nat_lit 108, ⟨(Value.type "tuple"), none, (Data.seq ([]).toArray 0), ([]).toArray⟩) ::
    (nat_lit 110, ⟨(Value.type "code"), none, (Data.fields ([(Value.str (Str.ofString "width") 318), (Value.str (Str.ofString "Seeker.width") 319), (Value.str (Str.ofString "/claim/cut.py") 320), (Value.int 48 0), (Value.int 1 0), (Value.int 0 0), (Value.int 0 0), (Value.int 3 0), (Value.ref 105), (Value.bool Bool.true), (Value.int 181 0), (Value.ref 106), Value.none, (Value.ref 107), (Value.ref 108), (Value.ref 109), (Value.int 322 0), (Value.int 48 0), (Value.str (Str.ofString "/claim/cut.py") 323)]).toArray), ([]).toArray⟩) ::
    (nat_lit 111, ⟨(Value.type "function"), none, (Data.func (FuncData.mk (Str.ofString "width") (Str.ofString "Seeker.width") a8 (FuncBody.stmts b8) c8 3 [] Value.none Value.none Value.none (Value.str (Str.ofString "ledgerspeak.inspecting") 273) none (Value.ref 110) Value.none 0)), ([]).toArray⟩) ::
    (nat_lit 112, ⟨(Value.type "tuple"), none, (Data.seq ([]).toArray 0), ([]).toArray⟩) ::
    (nat_lit 114, ⟨(Value.type "tuple"), none, (Data.seq ([(Value.str (Str.ofString "self") 328), (Value.str (Str.ofString "at") 329)]).toArray 0), ([]).toArray⟩) ::
    (nat_lit 115, ⟨(Value.type "tuple"), none, (Data.seq ([]).toArray 0), ([]).toArray⟩) ::
    (nat_lit 117, ⟨(Value.type "code"), none, (Data.fields ([(Value.str (Str.ofString "reach") 325), (Value.str (Str.ofString "Seeker.reach") 326), (Value.str (Str.ofString "/claim/cut.py") 327), (Value.int 51 0), (Value.int 2 0), (Value.int 0 0), (Value.int 0 0), (Value.int 3 0), (Value.ref 112), (Value.bool Bool.true), (Value.int 181 0), (Value.ref 113), Value.none, (Value.ref 114), (Value.ref 115), (Value.ref 116), (Value.int 330 0), (Value.int 51 0), (Value.str (Str.ofString "/claim/cut.py") 331)]).toArray), ([]).toArray⟩) ::
    (nat_lit 118, ⟨(Value.type "function"), none, (Data.func (FuncData.mk (Str.ofString "reach") (Str.ofString "Seeker.reach") a9 (FuncBody.stmts b9) c9 3 [] Value.none Value.none Value.none (Value.str (Str.ofString "ledgerspeak.inspecting") 273) none (Value.ref 117) Value.none 0)), ([]).toArray⟩) ::
    (nat_lit 119, ⟨(Value.type "tuple"), none, (Data.seq ([]).toArray 0), ([]).toArray⟩) ::
    (nat_lit 121, ⟨(Value.type "tuple"), none, (Data.seq ([(Value.str (Str.ofString "self") 336), (Value.str (Str.ofString "octets") 337), (Value.str (Str.ofString "at") 338)]).toArray 0), ([]).toArray⟩) ::
    (nat_lit 122, ⟨(Value.type "tuple"), none, (Data.seq ([]).toArray 0), ([]).toArray⟩) ::
    (nat_lit 124, ⟨(Value.type "code"), none, (Data.fields ([(Value.str (Str.ofString "is_fit") 333), (Value.str (Str.ofString "Seeker.is_fit") 334), (Value.str (Str.ofString "/claim/cut.py") 335), (Value.int 55 0), (Value.int 3 0), (Value.int 0 0), (Value.int 0 0), (Value.int 3 0), (Value.ref 119), (Value.bool Bool.true), (Value.int 181 0), (Value.ref 120), Value.none, (Value.ref 121), (Value.ref 122), (Value.ref 123), (Value.int 339 0), (Value.int 55 0), (Value.str (Str.ofString "/claim/cut.py") 340)]).toArray), ([]).toArray⟩) ::
    (nat_lit 125, ⟨(Value.type "function"), none, (Data.func (FuncData.mk (Str.ofString "is_fit") (Str.ofString "Seeker.is_fit") a10 (FuncBody.stmts b10) c10 3 [] Value.none Value.none Value.none (Value.str (Str.ofString "ledgerspeak.inspecting") 273) none (Value.ref 124) Value.none 0)), ([]).toArray⟩) ::
    (nat_lit 126, ⟨(Value.type "tuple"), none, (Data.seq ([]).toArray 0), ([]).toArray⟩) ::
    (nat_lit 128, ⟨(Value.type "tuple"), none, (Data.seq ([(Value.str (Str.ofString "self") 345), (Value.str (Str.ofString "at") 346)]).toArray 0), ([]).toArray⟩) ::
    (nat_lit 129, ⟨(Value.type "tuple"), none, (Data.seq ([]).toArray 0), ([]).toArray⟩) ::
    (nat_lit 131, ⟨(Value.type "code"), none, (Data.fields ([(Value.str (Str.ofString "took") 342), (Value.str (Str.ofString "Seeker.took") 343), (Value.str (Str.ofString "/claim/cut.py") 344), (Value.int 64 0), (Value.int 2 0), (Value.int 0 0), (Value.int 0 0), (Value.int 3 0), (Value.ref 126), (Value.bool Bool.true), (Value.int 181 0), (Value.ref 127), Value.none, (Value.ref 128), (Value.ref 129), (Value.ref 130), (Value.int 347 0), (Value.int 64 0), (Value.str (Str.ofString "/claim/cut.py") 348)]).toArray), ([]).toArray⟩) ::
    (nat_lit 132, ⟨(Value.type "function"), none, (Data.func (FuncData.mk (Str.ofString "took") (Str.ofString "Seeker.took") a11 (FuncBody.stmts b11) c11 3 [] Value.none Value.none Value.none (Value.str (Str.ofString "ledgerspeak.inspecting") 273) none (Value.ref 131) Value.none 0)), ([]).toArray⟩) ::
    (nat_lit 133, ⟨(Value.type "tuple"), none, (Data.seq ([(Value.str (Str.ofString "begin") 350), (Value.str (Str.ofString "end") 351), (Value.str (Str.ofString "is_done") 352), (Value.str (Str.ofString "kind") 353), (Value.str (Str.ofString "lead") 354), (Value.str (Str.ofString "wanted") 355)]).toArray 0), ([]).toArray⟩) ::
    (nat_lit 134, ⟨(Value.type "dict"), none, (Data.dict ([⟨(PyData.keyHash P (Str.ofString "__module__")), (Value.str (Str.ofString "__module__") 302), (Value.str (Str.ofString "ledgerspeak.inspecting") 273)⟩, ⟨(PyData.keyHash P (Str.ofString "__firstlineno__")), (Value.str (Str.ofString "__firstlineno__") 306), (Value.int 38 305)⟩, ⟨(PyData.keyHash P (Str.ofString "__init__")), (Value.str (Str.ofString "__init__") 317), (Value.ref 104)⟩, ⟨(PyData.keyHash P (Str.ofString "width")), (Value.str (Str.ofString "width") 324), (Value.ref 111)⟩, ⟨(PyData.keyHash P (Str.ofString "reach")), (Value.str (Str.ofString "reach") 332), (Value.ref 118)⟩, ⟨(PyData.keyHash P (Str.ofString "is_fit")), (Value.str (Str.ofString "is_fit") 341), (Value.ref 125)⟩, ⟨(PyData.keyHash P (Str.ofString "took")), (Value.str (Str.ofString "took") 349), (Value.ref 132)⟩, ⟨(PyData.keyHash P (Str.ofString "__static_attributes__")), (Value.str (Str.ofString "__static_attributes__") 356), (Value.ref 133)⟩, ⟨(PyData.keyHash P (Str.ofString "__dict__")), (Value.str (Str.ofString "__dict__") 358), (Value.ref 136)⟩, ⟨(PyData.keyHash P (Str.ofString "__weakref__")), (Value.str (Str.ofString "__weakref__") 360), (Value.ref 137)⟩, ⟨(PyData.keyHash P (Str.ofString "__doc__")), (Value.str (Str.ofString "__doc__") 361), Value.none⟩]).toArray 4), ([]).toArray⟩) ::
    (nat_lit 135, ⟨(Value.type "type"), none, (Data.cls ⟨(Str.ofString "Seeker"), [(Value.type "object")], [(Value.ref 135), (Value.type "object")], 134, (Str.ofString "Seeker"), Bool.true, [], [], Bool.false, none, Bool.false⟩), ([none, none, (some (Value.str (Str.ofString "Seeker") 295)), (some (Value.str (Str.ofString "Seeker") 303)), (some (Value.builtin "object.__new__")), (some (Value.bool Bool.true))]).toArray⟩) ::
    (nat_lit 136, ⟨(Value.type "getset_descriptor"), none, (Data.fields ([(Value.str (Str.ofString "__dict__") 357), (Value.ref 135), (Value.builtin "function.__dict__"), (Value.builtin "function.__dict__#set")]).toArray), ([]).toArray⟩) ::
    (nat_lit 137, ⟨(Value.type "getset_descriptor"), none, (Data.fields ([(Value.str (Str.ofString "__weakref__") 359), (Value.ref 135), (Value.builtin "ExceptionGroup.__weakref__"), Value.none]).toArray), ([]).toArray⟩) ::
    (nat_lit 140, ⟨(Value.type "tuple"), none, (Data.seq ([]).toArray 0), ([]).toArray⟩) ::
    (nat_lit 142, ⟨(Value.type "tuple"), none, (Data.seq ([(Value.str (Str.ofString "octets") 367), (Value.str (Str.ofString "kind") 368), (Value.str (Str.ofString "wanted") 369), (Value.str (Str.ofString "before") 370), (Value.str (Str.ofString "after") 371)]).toArray 0), ([]).toArray⟩) ::
    (nat_lit 143, ⟨(Value.type "tuple"), none, (Data.seq ([]).toArray 0), ([]).toArray⟩) ::
    (nat_lit 145, ⟨(Value.type "code"), none, (Data.fields ([(Value.str (Str.ofString "seeker_of") 364), (Value.str (Str.ofString "seeker_of") 365), (Value.str (Str.ofString "/claim/cut.py") 366), (Value.int 67 0), (Value.int 5 0), (Value.int 0 0), (Value.int 0 0), (Value.int 3 0), (Value.ref 140), (Value.bool Bool.true), (Value.int 181 0), (Value.ref 141), Value.none, (Value.ref 142), (Value.ref 143), (Value.ref 144), (Value.int 372 0), (Value.int 67 0), (Value.str (Str.ofString "/claim/cut.py") 373)]).toArray), ([]).toArray⟩) ::
    (nat_lit 146, ⟨(Value.type "function"), none, (Data.func (FuncData.mk (Str.ofString "seeker_of") (Str.ofString "seeker_of") a12 (FuncBody.stmts b12) c12 3 [] Value.none Value.none Value.none (Value.str (Str.ofString "ledgerspeak.inspecting") 273) none (Value.ref 145) Value.none 0)), ([]).toArray⟩) ::
    (nat_lit 147, ⟨(Value.type "tuple"), none, (Data.seq ([]).toArray 0), ([]).toArray⟩) ::
    (nat_lit 149, ⟨(Value.type "tuple"), none, (Data.seq ([(Value.str (Str.ofString "octets") 378), (Value.str (Str.ofString "seekers") 379), (Value.str (Str.ofString "found") 380), (Value.str (Str.ofString "at") 381), (Value.str (Str.ofString "taker") 382), (Value.str (Str.ofString "number") 383), (Value.str (Str.ofString "seeker") 384)]).toArray 0), ([]).toArray⟩) ::
    (nat_lit 150, ⟨(Value.type "tuple"), none, (Data.seq ([]).toArray 0), ([]).toArray⟩) ::
    (nat_lit 152, ⟨(Value.type "code"), none, (Data.fields ([(Value.str (Str.ofString "fits_in") 375), (Value.str (Str.ofString "fits_in") 376), (Value.str (Str.ofString "/claim/cut.py") 377), (Value.int 73 0), (Value.int 2 0), (Value.int 0 0), (Value.int 0 0), (Value.int 3 0), (Value.ref 147), (Value.bool Bool.true), (Value.int 181 0), (Value.ref 148), Value.none, (Value.ref 149), (Value.ref 150), (Value.ref 151), (Value.int 385 0), (Value.int 73 0), (Value.str (Str.ofString "/claim/cut.py") 386)]).toArray), ([]).toArray⟩) ::
    (nat_lit 153, ⟨(Value.type "function"), none, (Data.func (FuncData.mk (Str.ofString "fits_in") (Str.ofString "fits_in") a13 (FuncBody.stmts b13) c13 3 [] Value.none Value.none Value.none (Value.str (Str.ofString "ledgerspeak.inspecting") 273) none (Value.ref 152) Value.none 0)), ([]).toArray⟩) ::
    (nat_lit 154, ⟨(Value.type "tuple"), none, (Data.seq ([]).toArray 0), ([]).toArray⟩) ::
    (nat_lit 157, ⟨(Value.type "code"), none, (Data.fields ([(Value.str (Str.ofString "tallied") 388), (Value.str (Str.ofString "tallied") 389), (Value.str (Str.ofString "/claim/cut.py") 390), (Value.int 88 0), (Value.int 2 0), (Value.int 0 0), (Value.int 0 0), (Value.int 3 0), (Value.ref 154), (Value.bool Bool.true), (Value.int 181 0), (Value.ref 155), Value.none, Value.none, Value.none, (Value.ref 156), (Value.int 391 0), (Value.int 88 0), (Value.str (Str.ofString "/claim/cut.py") 392)]).toArray), ([]).toArray⟩) ::
    (nat_lit 158, ⟨(Value.type "function"), none, (Data.func (FuncData.mk (Str.ofString "tallied") (Str.ofString "tallied") a14 (FuncBody.stmts b14) c14 3 [] Value.none Value.none Value.none (Value.str (Str.ofString "ledgerspeak.inspecting") 273) none (Value.ref 157) Value.none 0)), ([]).toArray⟩) ::
    (nat_lit 159, ⟨(Value.type "tuple"), none, (Data.seq ([]).toArray 0), ([]).toArray⟩) ::
    (nat_lit 162, ⟨(Value.type "code"), none, (Data.fields ([(Value.str (Str.ofString "replaced_in") 394), (Value.str (Str.ofString "replaced_in") 395), (Value.str (Str.ofString "/claim/cut.py") 396), (Value.int 94 0), (Value.int 2 0), (Value.int 0 0), (Value.int 0 0), (Value.int 3 0), (Value.ref 159), (Value.bool Bool.true), (Value.int 181 0), (Value.ref 160), Value.none, Value.none, Value.none, (Value.ref 161), (Value.int 397 0), (Value.int 94 0), (Value.str (Str.ofString "/claim/cut.py") 398)]).toArray), ([]).toArray⟩) ::
    (nat_lit 163, ⟨(Value.type "function"), none, (Data.func (FuncData.mk (Str.ofString "replaced_in") (Str.ofString "replaced_in") a15 (FuncBody.stmts b15) c15 3 [] Value.none Value.none Value.none (Value.str (Str.ofString "ledgerspeak.inspecting") 273) none (Value.ref 162) Value.none 0)), ([]).toArray⟩) ::
    (nat_lit 164, ⟨(Value.type "tuple"), none, (Data.seq ([]).toArray 0), ([]).toArray⟩) ::
    (nat_lit 167, ⟨(Value.type "code"), none, (Data.fields ([(Value.str (Str.ofString "_law_pen") 402), (Value.str (Str.ofString "_law_pen") 403), (Value.str (Str.ofString "/claim/cut.py") 404), (Value.int 103 0), (Value.int 1 0), (Value.int 0 0), (Value.int 0 0), (Value.int 3 0), (Value.ref 164), (Value.bool Bool.true), (Value.int 181 0), (Value.ref 165), Value.none, Value.none, Value.none, (Value.ref 166), (Value.int 405 0), (Value.int 103 0), (Value.str (Str.ofString "/claim/cut.py") 406)]).toArray), ([]).toArray⟩) ::
    (nat_lit 168, ⟨(Value.type "function"), none, (Data.func (FuncData.mk (Str.ofString "_law_pen") (Str.ofString "_law_pen") a16 (FuncBody.stmts b16) c16 3 [] Value.none Value.none Value.none (Value.str (Str.ofString "law_og0077_01") 400) none (Value.ref 167) Value.none 0)), ([]).toArray⟩) ::
    (nat_lit 169, ⟨(Value.type "tuple"), none, (Data.seq ([]).toArray 0), ([]).toArray⟩) ::
    (nat_lit 171, ⟨(Value.type "tuple"), none, (Data.seq ([(Value.str (Str.ofString "pen") 411), (Value.str (Str.ofString "many") 412), (Value.str (Str.ofString "digit") 413), (Value.str (Str.ofString "turn") 414), (Value.str (Str.ofString "cell") 415), (Value.str (Str.ofString "great") 416), (Value.str (Str.ofString "mixed") 417)]).toArray 0), ([]).toArray⟩) ::
    (nat_lit 172, ⟨(Value.type "tuple"), none, (Data.seq ([]).toArray 0), ([]).toArray⟩) ::
    (nat_lit 174, ⟨(Value.type "code"), none, (Data.fields ([(Value.str (Str.ofString "_law_draw") 408), (Value.str (Str.ofString "_law_draw") 409), (Value.str (Str.ofString "/claim/cut.py") 410), (Value.int 105 0), (Value.int 2 0), (Value.int 0 0), (Value.int 0 0), (Value.int 3 0), (Value.ref 169), (Value.bool Bool.true), (Value.int 181 0), (Value.ref 170), Value.none, (Value.ref 171), (Value.ref 172), (Value.ref 173), (Value.int 418 0), (Value.int 105 0), (Value.str (Str.ofString "/claim/cut.py") 419)]).toArray), ([]).toArray⟩) ::
    (nat_lit 175, ⟨(Value.type "function"), none, (Data.func (FuncData.mk (Str.ofString "_law_draw") (Str.ofString "_law_draw") a17 (FuncBody.stmts b17) c17 3 [] Value.none Value.none Value.none (Value.str (Str.ofString "law_og0077_01") 400) none (Value.ref 174) Value.none 0)), ([]).toArray⟩) ::
    (nat_lit 176, ⟨(Value.type "tuple"), none, (Data.seq ([]).toArray 0), ([]).toArray⟩) ::
    (nat_lit 178, ⟨(Value.type "tuple"), none, (Data.seq ([(Value.str (Str.ofString "pen") 424), (Value.str (Str.ofString "some") 425)]).toArray 0), ([]).toArray⟩) ::
    (nat_lit 179, ⟨(Value.type "tuple"), none, (Data.seq ([]).toArray 0), ([]).toArray⟩) ::
    (nat_lit 181, ⟨(Value.type "code"), none, (Data.fields ([(Value.str (Str.ofString "_law_pick") 421), (Value.str (Str.ofString "_law_pick") 422), (Value.str (Str.ofString "/claim/cut.py") 423), (Value.int 122 0), (Value.int 2 0), (Value.int 0 0), (Value.int 0 0), (Value.int 3 0), (Value.ref 176), (Value.bool Bool.true), (Value.int 181 0), (Value.ref 177), Value.none, (Value.ref 178), (Value.ref 179), (Value.ref 180), (Value.int 426 0), (Value.int 122 0), (Value.str (Str.ofString "/claim/cut.py") 427)]).toArray), ([]).toArray⟩) ::
    (nat_lit 182, ⟨(Value.type "function"), none, (Data.func (FuncData.mk (Str.ofString "_law_pick") (Str.ofString "_law_pick") a18 (FuncBody.stmts b18) c18 3 [] Value.none Value.none Value.none (Value.str (Str.ofString "law_og0077_01") 400) none (Value.ref 181) Value.none 0)), ([]).toArray⟩) ::
    (nat_lit 183, ⟨(Value.type "tuple"), none, (Data.seq ([]).toArray 0), ([]).toArray⟩) ::
    (nat_lit 186, ⟨(Value.type "code"), none, (Data.fields ([(Value.str (Str.ofString "_law_text") 429), (Value.str (Str.ofString "_law_text") 430), (Value.str (Str.ofString "/claim/cut.py") 431), (Value.int 124 0), (Value.int 3 0), (Value.int 0 0), (Value.int 0 0), (Value.int 3 0), (Value.ref 183), (Value.bool Bool.true), (Value.int 181 0), (Value.ref 184), Value.none, Value.none, Value.none, (Value.ref 185), (Value.int 432 0), (Value.int 124 0), (Value.str (Str.ofString "/claim/cut.py") 433)]).toArray), ([]).toArray⟩) ::
    (nat_lit 187, ⟨(Value.type "function"), none, (Data.func (FuncData.mk (Str.ofString "_law_text") (Str.ofString "_law_text") a19 (FuncBody.stmts b19) c19 3 [] Value.none Value.none Value.none (Value.str (Str.ofString "law_og0077_01") 400) none (Value.ref 186) Value.none 0)), ([]).toArray⟩) ::
    (nat_lit 188, ⟨(Value.type "tuple"), none, (Data.seq ([]).toArray 0), ([]).toArray⟩) ::
    (nat_lit 191, ⟨(Value.type "code"), none, (Data.fields ([(Value.str (Str.ofString "_law_row") 435), (Value.str (Str.ofString "_law_row") 436), (Value.str (Str.ofString "/claim/cut.py") 437), (Value.int 126 0), (Value.int 2 0), (Value.int 0 0), (Value.int 0 0), (Value.int 3 0), (Value.ref 188), (Value.bool Bool.true), (Value.int 181 0), (Value.ref 189), Value.none, Value.none, Value.none, (Value.ref 190), (Value.int 438 0), (Value.int 126 0), (Value.str (Str.ofString "/claim/cut.py") 439)]).toArray), ([]).toArray⟩) ::
    (nat_lit 192, ⟨(Value.type "function"), none, (Data.func (FuncData.mk (Str.ofString "_law_row") (Str.ofString "_law_row") a20 (FuncBody.stmts b20) c20 3 [] Value.none Value.none Value.none (Value.str (Str.ofString "law_og0077_01") 400) none (Value.ref 191) Value.none 0)), ([]).toArray⟩) ::
    (nat_lit 193, ⟨(Value.type "tuple"), none, (Data.seq ([]).toArray 0), ([]).toArray⟩) ::
    (nat_lit 196, ⟨(Value.type "code"), none, (Data.fields ([(Value.str (Str.ofString "_law_places") 441), (Value.str (Str.ofString "_law_places") 442), (Value.str (Str.ofString "/claim/cut.py") 443), (Value.int 133 0), (Value.int 2 0), (Value.int 0 0), (Value.int 0 0), (Value.int 3 0), (Value.ref 193), (Value.bool Bool.true), (Value.int 181 0), (Value.ref 194), Value.none, Value.none, Value.none, (Value.ref 195), (Value.int 444 0), (Value.int 133 0), (Value.str (Str.ofString "/claim/cut.py") 445)]).toArray), ([]).toArray⟩) ::
    (nat_lit 197, ⟨(Value.type "function"), none, (Data.func (FuncData.mk (Str.ofString "_law_places") (Str.ofString "_law_places") a21 (FuncBody.stmts b21) c21 3 [] Value.none Value.none Value.none (Value.str (Str.ofString "law_og0077_01") 400) none (Value.ref 196) Value.none 0)), ([]).toArray⟩) ::
    (nat_lit 198, ⟨(Value.type "tuple"), none, (Data.seq ([]).toArray 0), ([]).toArray⟩) ::
    (nat_lit 201, ⟨(Value.type "code"), none, (Data.fields ([(Value.str (Str.ofString "_law_span") 447), (Value.str (Str.ofString "_law_span") 448), (Value.str (Str.ofString "/claim/cut.py") 449), (Value.int 135 0), (Value.int 3 0), (Value.int 0 0), (Value.int 0 0), (Value.int 3 0), (Value.ref 198), (Value.bool Bool.true), (Value.int 181 0), (Value.ref 199), Value.none, Value.none, Value.none, (Value.ref 200), (Value.int 450 0), (Value.int 135 0), (Value.str (Str.ofString "/claim/cut.py") 451)]).toArray), ([]).toArray⟩) ::
    (nat_lit 202, ⟨(Value.type "function"), none, (Data.func (FuncData.mk (Str.ofString "_law_span") (Str.ofString "_law_span") a22 (FuncBody.stmts b22) c22 3 [] Value.none Value.none Value.none (Value.str (Str.ofString "law_og0077_01") 400) none (Value.ref 201) Value.none 0)), ([]).toArray⟩) ::
    (nat_lit 203, ⟨(Value.type "tuple"), none, (Data.seq ([]).toArray 0), ([]).toArray⟩) ::
    (nat_lit 205, ⟨(Value.type "tuple"), none, (Data.seq ([(Value.str (Str.ofString "octets") 456), (Value.str (Str.ofString "row") 457), (Value.str (Str.ofString "span") 458), (Value.str (Str.ofString "stood") 459), (Value.str (Str.ofString "place") 460), (Value.str (Str.ofString "size") 461)]).toArray 0), ([]).toArray⟩) ::
    (nat_lit 206, ⟨(Value.type "tuple"), none, (Data.seq ([]).toArray 0), ([]).toArray⟩) ::
    (nat_lit 208, ⟨(Value.type "code"), none, (Data.fields ([(Value.str (Str.ofString "_law_is_hit") 453), (Value.str (Str.ofString "_law_is_hit") 454), (Value.str (Str.ofString "/claim/cut.py") 455), (Value.int 138 0), (Value.int 5 0), (Value.int 0 0), (Value.int 0 0), (Value.int 3 0), (Value.ref 203), (Value.bool Bool.true), (Value.int 181 0), (Value.ref 204), Value.none, (Value.ref 205), (Value.ref 206), (Value.ref 207), (Value.int 462 0), (Value.int 138 0), (Value.str (Str.ofString "/claim/cut.py") 463)]).toArray), ([]).toArray⟩) ::
    (nat_lit 209, ⟨(Value.type "function"), none, (Data.func (FuncData.mk (Str.ofString "_law_is_hit") (Str.ofString "_law_is_hit") a23 (FuncBody.stmts b23) c23 3 [] Value.none Value.none Value.none (Value.str (Str.ofString "law_og0077_01") 400) none (Value.ref 208) Value.none 0)), ([]).toArray⟩) ::
    (nat_lit 210, ⟨(Value.type "tuple"), none, (Data.seq ([]).toArray 0), ([]).toArray⟩) ::
    (nat_lit 213, ⟨(Value.type "code"), none, (Data.fields ([(Value.str (Str.ofString "_law_walk") 465), (Value.str (Str.ofString "_law_walk") 466), (Value.str (Str.ofString "/claim/cut.py") 467), (Value.int 143 0), (Value.int 2 0), (Value.int 0 0), (Value.int 0 0), (Value.int 3 0), (Value.ref 210), (Value.bool Bool.true), (Value.int 181 0), (Value.ref 211), Value.none, Value.none, Value.none, (Value.ref 212), (Value.int 468 0), (Value.int 143 0), (Value.str (Str.ofString "/claim/cut.py") 469)]).toArray), ([]).toArray⟩) ::
    (nat_lit 214, ⟨(Value.type "function"), none, (Data.func (FuncData.mk (Str.ofString "_law_walk") (Str.ofString "_law_walk") a24 (FuncBody.stmts b24) c24 3 [] Value.none Value.none Value.none (Value.str (Str.ofString "law_og0077_01") 400) none (Value.ref 213) Value.none 0)), ([]).toArray⟩) ::
    (nat_lit 215, ⟨(Value.type "tuple"), none, (Data.seq ([]).toArray 0), ([]).toArray⟩) ::
    (nat_lit 218, ⟨(Value.type "code"), none, (Data.fields ([(Value.str (Str.ofString "_law_counts") 471), (Value.str (Str.ofString "_law_counts") 472), (Value.str (Str.ofString "/claim/cut.py") 473), (Value.int 155 0), (Value.int 2 0), (Value.int 0 0), (Value.int 0 0), (Value.int 3 0), (Value.ref 215), (Value.bool Bool.true), (Value.int 181 0), (Value.ref 216), Value.none, Value.none, Value.none, (Value.ref 217), (Value.int 474 0), (Value.int 155 0), (Value.str (Str.ofString "/claim/cut.py") 475)]).toArray), ([]).toArray⟩) ::
    (nat_lit 219, ⟨(Value.type "function"), none, (Data.func (FuncData.mk (Str.ofString "_law_counts") (Str.ofString "_law_counts") a25 (FuncBody.stmts b25) c25 3 [] Value.none Value.none Value.none (Value.str (Str.ofString "law_og0077_01") 400) none (Value.ref 218) Value.none 0)), ([]).toArray⟩) ::
    (nat_lit 220, ⟨(Value.type "tuple"), none, (Data.seq ([]).toArray 0), ([]).toArray⟩) ::
    (nat_lit 222, ⟨(Value.type "tuple"), none, (Data.seq ([(Value.str (Str.ofString "octets") 480), (Value.str (Str.ofString "rows") 481), (Value.str (Str.ofString "found") 482), (Value.str (Str.ofString "place") 483), (Value.str (Str.ofString "taker") 484), (Value.str (Str.ofString "step") 485)]).toArray 0), ([]).toArray⟩) ::
    (nat_lit 223, ⟨(Value.type "tuple"), none, (Data.seq ([]).toArray 0), ([]).toArray⟩) ::
    (nat_lit 225, ⟨(Value.type "code"), none, (Data.fields ([(Value.str (Str.ofString "_law_exchanged") 477), (Value.str (Str.ofString "_law_exchanged") 478), (Value.str (Str.ofString "/claim/cut.py") 479), (Value.int 158 0), (Value.int 2 0), (Value.int 0 0), (Value.int 0 0), (Value.int 3 0), (Value.ref 220), (Value.bool Bool.true), (Value.int 181 0), (Value.ref 221), Value.none, (Value.ref 222), (Value.ref 223), (Value.ref 224), (Value.int 486 0), (Value.int 158 0), (Value.str (Str.ofString "/claim/cut.py") 487)]).toArray), ([]).toArray⟩) ::
    (nat_lit 226, ⟨(Value.type "function"), none, (Data.func (FuncData.mk (Str.ofString "_law_exchanged") (Str.ofString "_law_exchanged") a26 (FuncBody.stmts b26) c26 3 [] Value.none Value.none Value.none (Value.str (Str.ofString "law_og0077_01") 400) none (Value.ref 225) Value.none 0)), ([]).toArray⟩) ::
    (nat_lit 227, ⟨(Value.type "tuple"), none, (Data.seq ([]).toArray 0), ([]).toArray⟩) ::
    (nat_lit 229, ⟨(Value.type "tuple"), none, (Data.seq ([(Value.str (Str.ofString "rows") 492)]).toArray 0), ([]).toArray⟩) ::
    (nat_lit 230, ⟨(Value.type "tuple"), none, (Data.seq ([]).toArray 0), ([]).toArray⟩) ::
    (nat_lit 232, ⟨(Value.type "code"), none, (Data.fields ([(Value.str (Str.ofString "_law_count_cases") 489), (Value.str (Str.ofString "_law_count_cases") 490), (Value.str (Str.ofString "/claim/cut.py") 491), (Value.int 164 0), (Value.int 0 0), (Value.int 0 0), (Value.int 0 0), (Value.int 3 0), (Value.ref 227), (Value.bool Bool.true), (Value.int 181 0), (Value.ref 228), Value.none, (Value.ref 229), (Value.ref 230), (Value.ref 231), (Value.int 493 0), (Value.int 164 0), (Value.str (Str.ofString "/claim/cut.py") 494)]).toArray), ([]).toArray⟩) ::
    (nat_lit 233, ⟨(Value.type "function"), none, (Data.func (FuncData.mk (Str.ofString "_law_count_cases") (Str.ofString "_law_count_cases") a27 (FuncBody.stmts b27) c27 3 [] Value.none Value.none Value.none (Value.str (Str.ofString "law_og0077_01") 400) none (Value.ref 232) Value.none 0)), ([]).toArray⟩) ::
    (nat_lit 234, ⟨(Value.type "tuple"), none, (Data.seq ([]).toArray 0), ([]).toArray⟩) ::
    (nat_lit 236, ⟨(Value.type "tuple"), none, (Data.seq ([(Value.str (Str.ofString "rows") 499)]).toArray 0), ([]).toArray⟩) ::
    (nat_lit 237, ⟨(Value.type "tuple"), none, (Data.seq ([]).toArray 0), ([]).toArray⟩) ::
    (nat_lit 239, ⟨(Value.type "code"), none, (Data.fields ([(Value.str (Str.ofString "_law_exchange_cases") 496), (Value.str (Str.ofString "_law_exchange_cases") 497), (Value.str (Str.ofString "/claim/cut.py") 498), (Value.int 173 0), (Value.int 0 0), (Value.int 0 0), (Value.int 0 0), (Value.int 3 0), (Value.ref 234), (Value.bool Bool.true), (Value.int 181 0), (Value.ref 235), Value.none, (Value.ref 236), (Value.ref 237), (Value.ref 238), (Value.int 500 0), (Value.int 173 0), (Value.str (Str.ofString "/claim/cut.py") 501)]).toArray), ([]).toArray⟩) ::
    (nat_lit 240, ⟨(Value.type "function"), none, (Data.func (FuncData.mk (Str.ofString "_law_exchange_cases") (Str.ofString "_law_exchange_cases") a28 (FuncBody.stmts b28) c28 3 [] Value.none Value.none Value.none (Value.str (Str.ofString "law_og0077_01") 400) none (Value.ref 239) Value.none 0)), ([]).toArray⟩) ::
    (nat_lit 241, ⟨(Value.type "tuple"), none, (Data.seq ([]).toArray 0), ([]).toArray⟩) ::
    (nat_lit 243, ⟨(Value.type "tuple"), none, (Data.seq ([(Value.str (Str.ofString "octets") 506), (Value.str (Str.ofString "kind") 507), (Value.str (Str.ofString "wanted") 508), (Value.str (Str.ofString "given") 509)]).toArray 0), ([]).toArray⟩) ::
    (nat_lit 244, ⟨(Value.type "tuple"), none, (Data.seq ([]).toArray 0), ([]).toArray⟩) ::
    (nat_lit 246, ⟨(Value.type "code"), none, (Data.fields ([(Value.str (Str.ofString "_law_refused") 503), (Value.str (Str.ofString "_law_refused") 504), (Value.str (Str.ofString "/claim/cut.py") 505), (Value.int 179 0), (Value.int 1 0), (Value.int 0 0), (Value.int 0 0), (Value.int 3 0), (Value.ref 241), (Value.bool Bool.true), (Value.int 181 0), (Value.ref 242), Value.none, (Value.ref 243), (Value.ref 244), (Value.ref 245), (Value.int 510 0), (Value.int 179 0), (Value.str (Str.ofString "/claim/cut.py") 511)]).toArray), ([]).toArray⟩) ::
    (nat_lit 247, ⟨(Value.type "function"), none, (Data.func (FuncData.mk (Str.ofString "_law_refused") (Str.ofString "_law_refused") a29 (FuncBody.stmts b29) c29 3 [] Value.none Value.none Value.none (Value.str (Str.ofString "law_og0077_01") 400) none (Value.ref 246) Value.none 0)), ([]).toArray⟩) ::
    (nat_lit 248, ⟨(Value.type "tuple"), none, (Data.seq ([]).toArray 0), ([]).toArray⟩) ::
    (nat_lit 251, ⟨(Value.type "code"), none, (Data.fields ([(Value.str (Str.ofString "law") 513), (Value.str (Str.ofString "law") 514), (Value.str (Str.ofString "/claim/cut.py") 515), (Value.int 191 0), (Value.int 1 0), (Value.int 0 0), (Value.int 0 0), (Value.int 3 0), (Value.ref 248), (Value.bool Bool.true), (Value.int 181 0), (Value.ref 249), Value.none, Value.none, Value.none, (Value.ref 250), (Value.int 516 0), (Value.int 191 0), (Value.str (Str.ofString "/claim/cut.py") 517)]).toArray), ([]).toArray⟩) ::
    (nat_lit 252, ⟨(Value.type "function"), none, (Data.func (FuncData.mk (Str.ofString "law") (Str.ofString "law") a30 (FuncBody.stmts b30) c30 3 [] Value.none Value.none Value.none (Value.str (Str.ofString "law_og0077_01") 400) none (Value.ref 251) Value.none 0)), ([]).toArray⟩) :: [] : Params → Frag)) rfl rfl rfl rfl rfl rfl rfl rfl rfl rfl rfl rfl rfl rfl rfl rfl rfl rfl rfl rfl rfl rfl rfl rfl rfl rfl rfl rfl rfl rfl rfl
noncomputable def hdHook : Hook := kHook hdHeap [2, 3, 15, 17, 18, 20, 21, 22, 29, 30, 31, 33, 34, 36, 37, 38, 40, 41, 43, 44, 45, 46, 47, 48, 51, 58, 59, 60, 63, 65, 66, 68, 69, 70, 72, 73, 75, 76, 77, 79, 80, 82, 83, 84, 86, 87, 89, 90, 98, 100, 101, 103, 104, 105, 107, 108, 110, 111, 112, 114, 115, 117, 118, 119, 121, 122, 124, 125, 126, 128, 129, 131, 132, 133, 134, 135, 136, 137, 140, 142, 143, 145, 146, 147, 149, 150, 152, 153, 154, 157, 158, 159, 162, 163, 164, 167, 168, 169, 171, 172, 174, 175, 176, 178, 179, 181, 182, 183, 186, 187, 188, 191, 192, 193, 196, 197, 198, 201, 202, 203, 205, 206, 208, 209, 210, 213, 214, 215, 218, 219, 220, 222, 223, 225, 226, 227, 229, 230, 232, 233, 234, 236, 237, 239, 240, 241, 243, 244, 246, 247, 248, 251, 252] (fun _ => by kernel_rfl)
set_option maxRecDepth 100000 in
set_option maxHeartbeats 8000000 in
theorem hdLeft : LeftO PW hdView [Str.ofString "LedgerError"] (fun s => xlAt hdView [] s && recOk (RowW.records (OpenRow.toRowW (OpenLaw.row PySem.Challenge.rw_og0077_01))) s) hdHook.obs hdHook.val 3300 := by
  intro w
  kernel_rfl
end Mine
end
section
open PySem PySem.W PyProof.Rows PySem.Calls
namespace Mine
abbrev PG : Program := PySem.Challenge.rw_og0077_01.prog
abbrev Led := List (Addr × Obj)
abbrev Ns := Str → Option Value
abbrev TopC (mean : ExcName → Option Value) (mg mb : Ns) (h : Heap) : Prop := Top hdView (looseW hdView [Str.ofString "LedgerError"]) mean mg mb h
abbrev arnd (dp un : Nat) (gd : Option (List Code)) (env : Env) (outer : List Env) : Around := { handled := none, depth := dp, frames := some (env :: outer), guards := gd, units := un }
/-- what a call of a def does, whoever calls it -/
def Spec (w : World) (c : Nat) (f : Addr) (vs : List Value) (news : Led) (Ret : Value → Led → Prop) : Prop :=
  ∀ (dp un : Nat) (gd : Option (List Code)) (env : Env) (outer : List Env) (A₀ : Around) (mean : ExcName → Option Value) (mg mb : Ns) (base h₀ : Heap) (L : Addr) (m : Ns) (s : Shared) (Q E : Value → Shared → Prop),
    Below A₀ base outer h₀ → Fr h₀ L s.heap m → (hdHeap w.params).In h₀ → News h₀ L s.heap news → TopC mean mg mb h₀ → env.frame = some L → env.scope.kind = .function →
    dp + c < recursionLimit → un + 10 * c + 10 < cLine →
    (∀ v news' h' tk', Ret v news' → Fr h₀ L h' m → News h₀ L h' news' → Q v { s with heap := h', toks := tk' }) →
    wpAny (model PG w) (arnd dp un gd env outer) (call (.ref f) vs) Q E s
/-- a def that only reckons: the same ledger, one value but for its token -/
def SpecV (w : World) (c : Nat) (f : Addr) (vs : List Value) (V : Tok → Value) : Prop := ∀ news, Spec w c f vs news (fun v news' => (∀ p ∈ news, p ∈ news') ∧ ∃ t, v = V t)
theorem SpecV.call {w : World} {c : Nat} {f : Addr} {vs : List Value} {V : Tok → Value} (S : SpecV w c f vs V) {dp un : Nat} {gd : Option (List Code)} {env : Env} {outer : List Env} {A₀ : Around} {mean : ExcName → Option Value} {mg mb : Ns} {base h₀ : Heap} {L : Addr} {m : Ns} {s : Shared} {Q E : Value → Shared → Prop} {news : Led}
    (B : Below A₀ base outer h₀) (F : Fr h₀ L s.heap m) (X : (hdHeap w.params).In h₀) (N : News h₀ L s.heap news) (T : TopC mean mg mb h₀) (hf : env.frame = some L) (hk : env.scope.kind = .function)
    (hdp : dp + c < recursionLimit) (hun : un + 10 * c + 10 < cLine)
    (h : ∀ t h' tk', Fr h₀ L h' m → News h₀ L h' news → Q (V t) { s with heap := h', toks := tk' }) :
    wpAny (model PG w) (arnd dp un gd env outer) (call (.ref f) vs) Q E s :=
  S news dp un gd env outer A₀ mean mg mb base h₀ L m s Q E B F X N T hf hk hdp hun fun v news' h' tk' hr F' N' => by
    obtain ⟨hs, t, rfl⟩ := hr
    exact h t h' tk' F' fun p hp => N' p (hs p hp)

theorem Spec.call {w : World} {c : Nat} {f : Addr} {vs : List Value} {news : Led} {Ret : Value → Led → Prop} (S : Spec w c f vs news Ret) {dp un : Nat} {gd : Option (List Code)} {env : Env} {outer : List Env} {A₀ : Around} {mean : ExcName → Option Value} {mg mb : Ns} {base h₀ : Heap} {L : Addr} {m : Ns} {s : Shared} {Q E : Value → Shared → Prop}
    (B : Below A₀ base outer h₀) (F : Fr h₀ L s.heap m) (X : (hdHeap w.params).In h₀) (N : News h₀ L s.heap news) (T : TopC mean mg mb h₀) (hf : env.frame = some L) (hk : env.scope.kind = .function)
    (hdp : dp + c < recursionLimit) (hun : un + 10 * c + 10 < cLine)
    (h : ∀ v news' h' tk', Ret v news' → Fr h₀ L h' m → News h₀ L h' news' → Q v { s with heap := h', toks := tk' }) :
    wpAny (model PG w) (arnd dp un gd env outer) (call (.ref f) vs) Q E s := S dp un gd env outer A₀ mean mg mb base h₀ L m s Q E B F X N T hf hk hdp hun h
/-- the room that a call asks for, of the room that the caller was given -/
theorem room_of {dp C c d : Nat} (h : dp + C < recursionLimit) (hd : d = dp + 1) (hc : c + 1 ≤ C) : d + c < recursionLimit := by
  subst hd; omega
theorem room0 {dp C : Nat} (h : dp + C < recursionLimit) : dp < recursionLimit := by omega
theorem unit_of {un C c u : Nat} (h : un + 10 * C + 10 < cLine) (hu : u = un + 3) (hc : c + 1 ≤ C) : u + 10 * c + 10 < cLine := by
  subst hu; omega
theorem unit_at {un C c u : Nat} (h : un + 10 * C + 10 < cLine) (hu : u = un + 3) (hc : c ≤ 10 * C + 6) : u + c < cLine := by
  subst hu; omega
/-- a call out of a body that was given room C, of what asks for c -/
theorem SpecV.callB {w : World} {c : Nat} {f : Addr} {vs : List Value} {V : Tok → Value} (S : SpecV w c f vs V) {dp un dp₀ un₀ C : Nat} {gd : Option (List Code)} {env : Env} {outer : List Env} {A₀ : Around} {mean : ExcName → Option Value} {mg mb : Ns} {base h₀ : Heap} {L : Addr} {m : Ns} {s : Shared} {Q E : Value → Shared → Prop} {news : Led}
    (B : Below A₀ base outer h₀) (F : Fr h₀ L s.heap m) (X : (hdHeap w.params).In h₀) (N : News h₀ L s.heap news) (T : TopC mean mg mb h₀) (hf : env.frame = some L) (hk : env.scope.kind = .function)
    (hdp : dp₀ + C < recursionLimit) (hun : un₀ + 10 * C + 10 < cLine) (hd : dp = dp₀ + 1) (hu : un = un₀ + 3) (hc : c + 1 ≤ C)
    (h : ∀ t h' tk', Fr h₀ L h' m → News h₀ L h' news → Q (V t) { s with heap := h', toks := tk' }) :
    wpAny (model PG w) (arnd dp un gd env outer) (PySem.call (.ref f) vs) Q E s :=
  SpecV.call S B F X N T hf hk (by subst hd; omega) (by subst hu; omega) h
theorem Spec.callB {w : World} {c : Nat} {f : Addr} {vs : List Value} {news : Led} {Ret : Value → Led → Prop} (S : Spec w c f vs news Ret) {dp un dp₀ un₀ C : Nat} {gd : Option (List Code)} {env : Env} {outer : List Env} {A₀ : Around} {mean : ExcName → Option Value} {mg mb : Ns} {base h₀ : Heap} {L : Addr} {m : Ns} {s : Shared} {Q E : Value → Shared → Prop}
    (B : Below A₀ base outer h₀) (F : Fr h₀ L s.heap m) (X : (hdHeap w.params).In h₀) (N : News h₀ L s.heap news) (T : TopC mean mg mb h₀) (hf : env.frame = some L) (hk : env.scope.kind = .function)
    (hdp : dp₀ + C < recursionLimit) (hun : un₀ + 10 * C + 10 < cLine) (hd : dp = dp₀ + 1) (hu : un = un₀ + 3) (hc : c + 1 ≤ C)
    (h : ∀ v news' h' tk', Ret v news' → Fr h₀ L h' m → News h₀ L h' news' → Q v { s with heap := h', toks := tk' }) :
    wpAny (model PG w) (arnd dp un gd env outer) (PySem.call (.ref f) vs) Q E s :=
  Spec.call S B F X N T hf hk (by subst hd; omega) (by subst hu; omega) h
abbrev tupOf (vs : List Value) : Obj := { cls := .type "tuple", data := .seq vs.toArray }
section bytes
variable {w : World} {A : Around} {E : Value → Shared → Prop} {s : Shared} {Q : Value → Shared → Prop} {h₀ : Heap} {L : Addr} {m : Ns} {news : Led}
theorem len_b {b : List UInt8} {t : Tok} (hb : b.length ≤ 1000) (h : Q (.int (b.length : Nat) (s.toks + 1)) { s with toks := s.toks + 1 + 1 }) : wpAny (model PG w) A (call (.builtin "len") [.bytes b.toArray t]) Q E s :=
  len_bytes (by simp; omega) (by simpa using h)
theorem cut_b {value slice : PySem.Expr} {b : List UInt8} {t u v : Tok} {x y : Int} (hF : Fr h₀ L s.heap m) (hN : News h₀ L s.heap news) (hb : b.length ≤ 1000) (hx : 0 ≤ x) (hy : 0 ≤ y)
    (h : ∀ h' t' k, Fr h₀ L h' m → News h₀ L h' news → Q (.bytes ((b.drop x.toNat).take (y.toNat - x.toNat)).toArray t') { s with heap := h', toks := k })
    (hs : subscripted slice false (.bytes b.toArray t) (.ref s.heap.objs.size) = operate [.ref s.heap.objs.size, .bytes b.toArray t] (getItem (.bytes b.toArray t) (.ref s.heap.objs.size)) := by with_unfolding_all rfl)
    (ht : ∀ r, letTemporaryGo value (.bytes b.toArray t) r = pure () := by intro _; with_unfolding_all rfl) :
    wpAny (model PG w) A (subscriptTail value slice (.bytes b.toArray t) (.ref s.heap.objs.size)) Q E { s with heap := s.heap.push { cls := .type "slice", data := .fields #[.int x u, .int y v, .none] } } := by
  refine KBc.slice_K hF hN (ks := KBw.bInts b.toArray) rfl (.int x u) (.int y v) (by rw [KBw.ints_length]; simp; omega) (fun h' t' k F' N' _ => ?_) hs ht
  have e : KBy.picked b.toArray (some x) (some y) = ((b.drop x.toNat).take (y.toNat - x.toNat)).toArray := by
    obtain ⟨i, rfl⟩ := Int.eq_ofNat_of_zero_le hx
    obtain ⟨j, rfl⟩ := Int.eq_ofNat_of_zero_le hy
    rw [KBc.picked_eq]
    simp only [Option.elim, List.size_toArray, Int.toNat_natCast]
    rw [clipAt_nat, clipAt_nat]
    congr 1
    rcases Nat.le_total i b.length with hi | hi
    · rw [Nat.min_eq_left hi]
      rcases Nat.le_total j b.length with hj | hj
      · rw [Nat.min_eq_left hj]
      · rw [Nat.min_eq_right hj]
        rw [List.take_of_length_le (by rw [List.length_drop]; exact Nat.le_refl _), List.take_of_length_le (by rw [List.length_drop]; omega)]
    · rw [Nat.min_eq_right hi, List.drop_of_length_le (Nat.le_refl _), List.drop_of_length_le hi]; simp
  rw [e]
  exact h h' t' k F' N'
theorem add_b {b c : List UInt8} {t u : Tok} (hb : b.length ≤ 1000) (hc : c.length ≤ 1000) (h : ∀ t' k, Q (.bytes (b ++ c).toArray t') { s with toks := k }) : wpAny (model PG w) A (binaryOp .Add (.bytes b.toArray t) (.bytes c.toArray u)) Q E s :=
  KBy.add_bytes (by simp; omega) (by simpa using h)
theorem eq_b {b c : List UInt8} {t u : Tok} (h : Q (.bool (b == c)) s) : wpAny (model PG w) A (compareOp .Eq (.bytes b.toArray t) (.bytes c.toArray u)) Q E s :=
  eq_bytes (by simpa using h)
theorem ne_b {b c : List UInt8} {t u : Tok} (h : Q (.bool (b != c)) s) : wpAny (model PG w) A (compareOp .NotEq (.bytes b.toArray t) (.bytes c.toArray u)) Q E s :=
  ne_bytes (by simpa using h)
theorem newList_M {vs : List Value} (F : Fr h₀ L s.heap m) (N : News h₀ L s.heap news) (hsz : vs.length ≤ sizeLine)
    (h : ∀ l h', (∀ p ∈ news, p.1 < l) → Fr h₀ L h' m → News h₀ L h' ((l, listOf vs.toArray 0) :: news) → Q (.ref l) { s with heap := h' }) :
    wpAny (model PG w) A (newList vs) Q E s :=
  newList_N F N (fun h' F' N' => h _ h' (fun p hp => Heap.lt_size (N p hp).1) F' N') hsz
theorem newTuple_M {vs : List Value} (F : Fr h₀ L s.heap m) (N : News h₀ L s.heap news) (hsz : vs.length ≤ sizeLine)
    (h : ∀ l h', (∀ p ∈ news, p.1 < l) → Fr h₀ L h' m → News h₀ L h' ((l, tupOf vs) :: news) → Q (.ref l) { s with heap := h' }) :
    wpAny (model PG w) A (newTuple vs) Q E s :=
  newTuple_N F N (fun h' F' N' => h _ h' (fun p hp => Heap.lt_size (N p hp).1) F' N') hsz
theorem item_at {value slice : PySem.Expr} {l : Addr} {vs : List Value} {k i : Nat} {u : Tok} {v : Value} (N : News h₀ L s.heap news) (hm : (l, listOf vs.toArray k) ∈ news) (hi : i < 100000) (hx : vs[i]? = some v) (h : Q v s)
    (hs : subscripted slice false (.ref l) (.int (i : Int) u) = operate [.ref l, .int (i : Int) u] (getItem (.ref l) (.int (i : Int) u)) := by with_unfolding_all rfl) :
    wpAny (model PG w) A (subscriptTail value slice (.ref l) (.int (i : Int) u)) Q E s :=
  tail_any (Heap.IsList.typeIs ⟨_, (N _ hm).1, rfl, _, rfl⟩) slot_list_getitem.lookup (wpAny_getItem_list ⟨_, (N _ hm).1, rfl, _, rfl⟩ (by omega) (by omega) (by simpa using hx) h) hs
end bytes

/-- a frame whose names in l are told anew -/
def ov (l : List (Str × Option Value)) (m : Ns) : Ns := fun y => match l.lookup y with
  | some u => u
  | none => m y
def ovset (x : Str) (v : Option Value) : List (Str × Option Value) → List (Str × Option Value)
  | [] => [(x, v)]
  | (k, u) :: r => if k = x then (k, v) :: r else (k, u) :: ovset x v r
theorem ovset_lookup (x : Str) (v : Option Value) (y : Str) : ∀ l : List (Str × Option Value), (ovset x v l).lookup y = if y = x then some v else l.lookup y
  | [] => by
    by_cases h : y = x
    · simp [ovset, h]
    · have : (y == x) = false := by simpa using h
      simp [ovset, h, List.lookup, this]
  | (k, u) :: r => by
    unfold ovset
    by_cases hk : k = x
    · subst hk
      rw [if_pos rfl]
      by_cases h : y = k
      · simp [h]
      · have : (y == k) = false := by simpa using h
        simp [h, List.lookup, this]
    · rw [if_neg hk]
      by_cases h : y = k
      · have hx : ¬ y = x := fun e => hk (h ▸ e)
        rw [if_neg hx]
        simp [List.lookup, h]
      · have : (y == k) = false := by simpa using h
        simp only [List.lookup, this]
        exact ovset_lookup x v y r
theorem ov_pt {x y : Str} {v : Option Value} {l : List (Str × Option Value)} {m : Ns} : (if y = x then v else ov l m y) = ov (ovset x v l) m y := by
  unfold ov
  rw [ovset_lookup]
  by_cases h : y = x
  · rw [if_pos h, if_pos h]
  · rw [if_neg h, if_neg h]
theorem ov_if {x : Str} {v : Option Value} {l : List (Str × Option Value)} {m m₀ : Ns} (h : m = ov l m₀) : (fun y => if y = x then v else m y) = ov (ovset x v l) m₀ := by
  subst h
  funext y
  exact ov_pt
theorem ov_nil {m : Ns} : m = ov [] m := rfl
theorem ov_start {x : Str} {l : List (Str × Option Value)} {m : Ns} : m = ov l m → m = ov ((x, m x) :: l) m := by
  intro h
  funext y
  show m y = match (List.lookup y ((x, m x) :: l)) with | some u => u | none => m y
  by_cases hy : y = x
  · subst hy
    simp [List.lookup]
  · have : (y == x) = false := by simpa using hy
    simp only [List.lookup, this]
    exact congrFun h y
structure Enter (binds : List (Str × Value)) (mm : Ns) : Prop where
section enter
variable {w : World} {A₀ : Around} {E : Value → Shared → Prop} {s : Shared} {L : Addr} {h₀ base : Heap} {m mg mb : Ns} {news : Led} {mean : ExcName → Option Value} {Q : Value → Shared → Prop}
theorem enter_plain {dp un : Nat} {gd : Option (List Code)} {env : Env} {outer : List Env} {name qual : Str} {params : Arguments} {body : List Stmt} {scope : Scope} {dV kV doc pm cdv ct oc : Value} {an od : Option Addr} {osl : Array (Option Value)} {f : Addr} {vs : List Value} {binds : List (Str × Value)} {mm : Ns}
    (_hE : Enter binds mm)
    (B : Below A₀ base outer h₀) (F : Fr h₀ L s.heap m) (X₀ : (hdHeap w.params).In h₀) (N : News h₀ L s.heap news) (T : TopC mean mg mb h₀) (hf : env.frame = some L) (hke : env.scope.kind = .function)
    (ho : (hdHeap w.params).lookup f = some ⟨oc, od, .func (fnOf name qual params body scope dV kV doc pm an cdv ct), osl⟩) (hcd : codeIn (hdHeap w.params) cdv qual = true) (hroom : dp < recursionLimit)
    (hbind : BindsTo s (fnOf name qual params body scope dV kV doc pm an cdv ct) ⟨vs, []⟩ binds) (hloc : ∀ y ∈ binds, scope.names.lookup y.1 = some .local) (hmm : (fun y => binds.reverse.lookup y) = mm)
    (h : ∀ g L' h₁, Fr h₀ L g m → Fr g L' h₁ mm → News g L' h₁ news → Below (arnd dp un gd env outer) base (env :: outer) g → (hdHeap w.params).In g → TopC mean mg mb g → (∀ p ∈ news, p.1 < L') →
      wpAny (model PG w) ((arnd dp un gd env outer).deeper (envOf qual scope L' f cdv)) (execs body (envOf qual scope L' f cdv))
        (fun fl s' => LeaveK h₀ L m g (fun r s' => match r with | .ok (.ret v) => Q v s' | .ok _ => False | .error e => E e s') (match fl with | .ret v => v | _ => .none) s')
        (fun e s' => wpAny (model PG w) ((arnd dp un gd env outer).deeper (envOf qual scope L' f cdv)) (leaving (envOf qual scope L' f cdv) e) (fun _ s'' => E e s'') (fun e' s'' => E e' s'') s')
        { s with heap := h₁, toks := s.toks + binds.length })
    (hco : scope.isCoroutine = false) (hgen : scope.isGenerator = false) (hk : scope.kind = .function)
    (hcell : ∀ x ∈ scope.names, x.2 ≠ .cell) : wpAny (model PG w) (arnd dp un gd env outer) (call (.ref f) vs) Q E s := by
  subst hmm
  exact wpAny_call (callX_plain (cl := []) B F N T.nolimit rfl hf hke ((X₀.keeps F.keep) _ _ ho) rfl (codeRec_of (X₀.keeps F.keep) hcd) hroom hbind hloc (fun g L' h₁ FG F' N' B' st l => h g L' h₁ FG F' N' B' (X₀.keeps st) (T.keeps st) l) hcell hco hgen hk)
theorem enter_cells {dp un : Nat} {gd : Option (List Code)} {env : Env} {outer : List Env} {name qual : Str} {params : Arguments} {body : List Stmt} {scope : Scope} {dV kV doc pm cdv ct oc : Value} {an od : Option Addr} {osl : Array (Option Value)} {f : Addr} {vs : List Value} {binds : List (Str × Value)} {mm : Ns}
    (_hE : Enter binds mm)
    (B : Below A₀ base outer h₀) (F : Fr h₀ L s.heap m) (X₀ : (hdHeap w.params).In h₀) (N : News h₀ L s.heap news) (T : TopC mean mg mb h₀) (hf : env.frame = some L) (hke : env.scope.kind = .function)
    (ho : (hdHeap w.params).lookup f = some ⟨oc, od, .func (fnOf name qual params body scope dV kV doc pm an cdv ct), osl⟩) (hcd : codeIn (hdHeap w.params) cdv qual = true) (hroom : dp < recursionLimit)
    (hbind : BindsTo s (fnOf name qual params body scope dV kV doc pm an cdv ct) ⟨vs, []⟩ binds)
    (hkind : (binds.all fun y => scope.names.lookup y.1 == some .local || scope.names.lookup y.1 == some .cell) = true)
    (hnd : ((cellsFrom 0 scope.names []).map (·.1)).Nodup) (hmm : ∀ L', (bindL (envOfC qual scope L' f cdv).kindOf binds fun _ => none) = mm)
    (h : ∀ g L' h₁ tk cells, Fr h₀ L g m → Fr g L' h₁ mm → News g L' h₁ (cells ++ news) →
      CellsAre (bindC (envOfC qual scope L' f cdv).kindOf binds fun _ => none) (cellsFrom (L' + 1) scope.names []) cells → Below (arnd dp un gd env outer) base (env :: outer) g → (hdHeap w.params).In g → TopC mean mg mb g → (∀ p ∈ news, p.1 < L') →
      wpAny (model PG w) ((arnd dp un gd env outer).deeper (envOfC qual scope L' f cdv)) (execs body (envOfC qual scope L' f cdv))
        (fun fl s' => LeaveK h₀ L m g (fun r s' => match r with | .ok (.ret v) => Q v s' | .ok _ => False | .error e => E e s') (match fl with | .ret v => v | _ => .none) s')
        (fun e s' => wpAny (model PG w) ((arnd dp un gd env outer).deeper (envOfC qual scope L' f cdv)) (leaving (envOfC qual scope L' f cdv) e) (fun _ s'' => E e s'') (fun e' s'' => E e' s'') s')
        { s with heap := h₁, toks := tk })
    (hco : scope.isCoroutine = false) (hgen : scope.isGenerator = false) (hk : scope.kind = .function) : wpAny (model PG w) (arnd dp un gd env outer) (call (.ref f) vs) Q E s :=
  wpAny_call (callX_cells B F N T.nolimit rfl hf hke ((X₀.keeps F.keep) _ _ ho) rfl (codeRec_of (X₀.keeps F.keep) hcd) hroom hbind (kindsX hkind) hnd (fun g L' h₁ tk cells FG F' N' Y B' st l => h g L' h₁ tk cells FG (hmm L' ▸ F') N' Y B' (X₀.keeps st) (T.keeps st) l) hco hgen hk)
/-- what stands behind a def's body that does not raise -/
@[reducible] def LQ (h₀ : Heap) (L : Addr) (m : Ns) (g : Heap) (Q : Value → Shared → Prop) : Flow → Shared → Prop := fun fl s' => LeaveK h₀ L m g (fun r s' => match r with | .ok (.ret v) => Q v s' | _ => False) (match fl with | .ret v => v | _ => .none) s'
theorem LQ.to {h₀ g : Heap} {L : Addr} {m : Ns} {Q E : Value → Shared → Prop} {fl : Flow} {s' : Shared} : LQ h₀ L m g Q fl s' →
    LeaveK h₀ L m g (fun r s' => match r with | .ok (.ret v) => Q v s' | .ok _ => False | .error e => E e s') (match fl with | .ret v => v | _ => .none) s' := by
  rintro ⟨L', m', news', F', N', k⟩
  exact ⟨L', m', news', F', N', k⟩
theorem enter_plainN {dp un : Nat} {gd : Option (List Code)} {env : Env} {outer : List Env} {name qual : Str} {params : Arguments} {body : List Stmt} {scope : Scope} {dV kV doc pm cdv ct oc : Value} {an od : Option Addr} {osl : Array (Option Value)} {f : Addr} {vs : List Value} {binds : List (Str × Value)} {mm : Ns}
    (hE : Enter binds mm)
    (B : Below A₀ base outer h₀) (F : Fr h₀ L s.heap m) (X₀ : (hdHeap w.params).In h₀) (N : News h₀ L s.heap news) (T : TopC mean mg mb h₀) (hf : env.frame = some L) (hke : env.scope.kind = .function)
    (ho : (hdHeap w.params).lookup f = some ⟨oc, od, .func (fnOf name qual params body scope dV kV doc pm an cdv ct), osl⟩) (hcd : codeIn (hdHeap w.params) cdv qual = true) (hroom : dp < recursionLimit)
    (hbind : BindsTo s (fnOf name qual params body scope dV kV doc pm an cdv ct) ⟨vs, []⟩ binds) (hloc : ∀ y ∈ binds, scope.names.lookup y.1 = some .local) (hmm : (fun y => binds.reverse.lookup y) = mm)
    (h : ∀ g L' h₁, Fr h₀ L g m → Fr g L' h₁ mm → News g L' h₁ news → Below (arnd dp un gd env outer) base (env :: outer) g → (hdHeap w.params).In g → TopC mean mg mb g → (∀ p ∈ news, p.1 < L') →
      wpAny (model PG w) ((arnd dp un gd env outer).deeper (envOf qual scope L' f cdv)) (execs body (envOf qual scope L' f cdv)) (LQ h₀ L m g Q) (fun _ _ => False) { s with heap := h₁, toks := s.toks + binds.length })
    (hco : scope.isCoroutine = false) (hgen : scope.isGenerator = false) (hk : scope.kind = .function)
    (hcell : ∀ x ∈ scope.names, x.2 ≠ .cell) : wpAny (model PG w) (arnd dp un gd env outer) (call (.ref f) vs) Q E s :=
  enter_plain hE B F X₀ N T hf hke ho hcd hroom hbind hloc hmm (fun g L' h₁ FG F' N' B' X' T' lt => wpAny_mono (h g L' h₁ FG F' N' B' X' T' lt) (fun _ _ x => LQ.to x) fun _ _ x => x.elim) hco hgen hk hcell
theorem enter_cellsN {dp un : Nat} {gd : Option (List Code)} {env : Env} {outer : List Env} {name qual : Str} {params : Arguments} {body : List Stmt} {scope : Scope} {dV kV doc pm cdv ct oc : Value} {an od : Option Addr} {osl : Array (Option Value)} {f : Addr} {vs : List Value} {binds : List (Str × Value)} {mm : Ns}
    (hE : Enter binds mm)
    (B : Below A₀ base outer h₀) (F : Fr h₀ L s.heap m) (X₀ : (hdHeap w.params).In h₀) (N : News h₀ L s.heap news) (T : TopC mean mg mb h₀) (hf : env.frame = some L) (hke : env.scope.kind = .function)
    (ho : (hdHeap w.params).lookup f = some ⟨oc, od, .func (fnOf name qual params body scope dV kV doc pm an cdv ct), osl⟩) (hcd : codeIn (hdHeap w.params) cdv qual = true) (hroom : dp < recursionLimit)
    (hbind : BindsTo s (fnOf name qual params body scope dV kV doc pm an cdv ct) ⟨vs, []⟩ binds)
    (hkind : (binds.all fun y => scope.names.lookup y.1 == some .local || scope.names.lookup y.1 == some .cell) = true)
    (hnd : ((cellsFrom 0 scope.names []).map (·.1)).Nodup) (hmm : ∀ L', (bindL (envOfC qual scope L' f cdv).kindOf binds fun _ => none) = mm)
    (h : ∀ g L' h₁ tk cells, Fr h₀ L g m → Fr g L' h₁ mm → News g L' h₁ (cells ++ news) →
      CellsAre (bindC (envOfC qual scope L' f cdv).kindOf binds fun _ => none) (cellsFrom (L' + 1) scope.names []) cells → Below (arnd dp un gd env outer) base (env :: outer) g → (hdHeap w.params).In g → TopC mean mg mb g → (∀ p ∈ news, p.1 < L') →
      wpAny (model PG w) ((arnd dp un gd env outer).deeper (envOfC qual scope L' f cdv)) (execs body (envOfC qual scope L' f cdv)) (LQ h₀ L m g Q) (fun _ _ => False) { s with heap := h₁, toks := tk })
    (hco : scope.isCoroutine = false) (hgen : scope.isGenerator = false) (hk : scope.kind = .function) : wpAny (model PG w) (arnd dp un gd env outer) (call (.ref f) vs) Q E s :=
  enter_cells hE B F X₀ N T hf hke ho hcd hroom hbind hkind hnd hmm (fun g L' h₁ tk cells FG F' N' Y' B' X' T' lt => wpAny_mono (h g L' h₁ tk cells FG F' N' Y' B' X' T' lt) (fun _ _ x => LQ.to x) fun _ _ x => x.elim) hco hgen hk
/-- what stands behind a turn, as a word of its own -/
theorem opq_turn {A : Around} {t : Sem Unit} {u : Sem Flow} {T : Flow → Shared → Prop} (h : ∀ P : Flow → Shared → Prop, (∀ f s', T f s' → P f s') → wpAny (model PG w) A t (fun _ s₂ => wpAny (model PG w) A u P E s₂) E s) :
    wpAny (model PG w) A t (fun _ s₂ => wpAny (model PG w) A u T E s₂) E s := h T fun _ _ x => x
theorem opq_while {A : Around} {c : Sem Bool} {u : Sem Flow} {T : Flow → Shared → Prop} {T₀ : Shared → Prop} (h : ∀ (P : Flow → Shared → Prop) (P₀ : Shared → Prop), (∀ f s', T f s' → P f s') → (∀ s', T₀ s' → P₀ s') →
      wpAny (model PG w) A c (fun b s₂ => if b = true then wpAny (model PG w) A u P E s₂ else P₀ s₂) E s) :
    wpAny (model PG w) A c (fun b s₂ => if b = true then wpAny (model PG w) A u T E s₂ else T₀ s₂) E s := h T T₀ (fun _ _ x => x) fun _ x => x
theorem opq_post {A : Around} {α : Type} {t : Sem α} {T : α → Shared → Prop} (h : ∀ P : α → Shared → Prop, (∀ v s', T v s' → P v s') → wpAny (model PG w) A t P E s) : wpAny (model PG w) A t T E s := h T fun _ _ x => x
theorem opq_test {A : Around} {c : Sem Bool} {u : Sem Value} {T : Value → Shared → Prop} {T₀ : Shared → Prop} (h : ∀ (P : Value → Shared → Prop) (P₀ : Shared → Prop), (∀ f s', T f s' → P f s') → (∀ s', T₀ s' → P₀ s') →
      wpAny (model PG w) A c (fun b s₂ => if b = true then wpAny (model PG w) A u P E s₂ else P₀ s₂) E s) :
    wpAny (model PG w) A c (fun b s₂ => if b = true then wpAny (model PG w) A u T E s₂ else T₀ s₂) E s := h T T₀ (fun _ _ x => x) fun _ x => x
end enter
end Mine
end
section
open PySem PySem.W PyProof.Rows PySem.Calls PyProof.Rows.LCg
namespace Mine
section
variable {w : World} {A : Around} {s : Shared} {h₀ : Heap} {L : Addr} {m : Ns} {news : Led}
/-- a value that is run through: n items, the i-th as P says -/
def Src (w : World) (A : Around) (h₀ : Heap) (xv : Value) (n : Nat) (P : Nat → Value → Prop) (keep : Led) (s : Shared) : Prop :=
  ∀ (E : Value → Shared → Prop) (Q : Value → Shared → Prop),
    (∀ (o : Obj) (fp : List Addr) (St : Nat → Heap → Prop), Walks PG w A s.heap.objs.size fp [s.heap.objs.size] n P St →
      (∀ b ∈ fp, b = s.heap.objs.size ∨ (∃ q, h₀.get? b = some q) ∨ ∃ q, (b, q) ∈ keep) →
      (∀ i h, St i h → ∃ o, h.get? s.heap.objs.size = some o) →
      (∀ target i v (s' : Shared) (Q' : Unit → Shared → Prop) (E' : Value → Shared → Prop), St i s'.heap → Q' () s' → wpAny (model PG w) A (letOwnedTupleGo target (.ref s.heap.objs.size) v) Q' E' s') →
      o.isFreed = false → St 0 (s.heap.push o) → Q (.ref s.heap.objs.size) { s with heap := s.heap.push o }) →
    wpAny (model PG w) A (pyIter xv) Q E s
theorem letGo_other {E : Value → Shared → Prop} {target : Expr} {I : Addr} {v : Value} {Q' : Unit → Shared → Prop} {s' : Shared} {o : Obj} {n : String} (ho : s'.heap.get? I = some o) (hc : o.cls = .type n)
    (hn : (["enumerate", "zip", "dict_itemiterator", "dict_reverseitemiterator", "odict_iterator", "itertools.zip_longest", "itertools.pairwise"] : List String).contains n = false) (h : Q' () s') :
    wpAny (model PG w) A (letOwnedTupleGo target (.ref I) v) Q' E s' := by
  unfold letOwnedTupleGo
  cases target <;> first
    | exact wpAny_pure h
    | (cases v <;> first
        | exact wpAny_pure h
        | (refine wpAny_bind (wpAny_load ho ?_)
           rw [hc]
           cases o.data <;> first
             | exact wpAny_pure h
             | (dsimp only; rw [hn]; exact wpAny_pure h)))
theorem Src.listAt {ax : Addr} {vs : List Value} {keep : Led} (hh : A.handled = none) (hl : s.heap.IsList ax vs.toArray) (hk : (∃ q, h₀.get? ax = some q) ∨ ∃ q, (ax, q) ∈ keep) :
    Src w A h₀ (.ref ax) vs.length (fun i v => vs[i]? = some v) keep s := by
  intro E Q h
  have hlt : ax < s.heap.objs.size := by obtain ⟨_, e, _⟩ := hl; exact Heap.lt_size e
  refine wpAny_pyIter_list hl ?_
  have W := Walks.list (prog := PG) (w := w) hh s.heap.objs.size ax (Nat.ne_of_lt hlt) vs.toArray
  rw [show vs.toArray.size = vs.length from List.size_toArray ..] at W
  have W' : Walks PG w A s.heap.objs.size [s.heap.objs.size, ax] [s.heap.objs.size] vs.length (fun i v => vs[i]? = some v) (fun i h => h.IsListIter s.heap.objs.size ax i ∧ h.IsList ax vs.toArray) := by
    simpa using W
  refine h _ _ _ W' ?_ ?_ ?_ rfl ⟨⟨_, Heap.get?_push_size _ rfl, rfl, rfl⟩, hl.push _⟩
  · intro b hb
    rcases List.mem_cons.mp hb with e | hb
    · exact .inl e
    · rw [List.mem_singleton.mp hb]; exact .inr hk
  · rintro i h ⟨⟨o, ho, _⟩, _⟩
    exact ⟨o, ho⟩
  · intro target i v s' Q' E' st q
    exact letGo_listiter st.1 q
theorem Src.list {ax : Addr} {vs : List Value} {k : Nat} {keep : Led} (hh : A.handled = none) (N : News h₀ L s.heap keep) (hm : (ax, listOf vs.toArray k) ∈ keep) :
    Src w A h₀ (.ref ax) vs.length (fun i v => vs[i]? = some v) keep s :=
  Src.listAt hh ⟨_, (N _ hm).1, rfl, _, rfl⟩ (.inr ⟨_, hm⟩)
theorem Src.range {r : Addr} {a b : Int} {t u v : Tok} {n : Nat} (hh : A.handled = none) (hr : IsRange s.heap r a b 1 t u v) (hsm : Builtin.Range.small a b 1 = true) (hn : Builtin.Range.rangeSize a b 1 = (n : Int)) :
    Src w A h₀ (.ref r) n (fun i v => ∃ t, v = .int (a + (i : Int)) t) [] s := by
  intro E Q h
  refine wpAny_pyIter_range hr hsm ?_
  refine h _ _ _ (range_walks hh a n) ?_ ?_ ?_ rfl (by show IsRangeIter _ _ _ _ _; rw [hn]; simpa using Heap.get?_push_size _ rfl)
  · intro b hb
    exact .inl (List.mem_singleton.mp hb)
  · intro i h st
    exact ⟨_, st⟩
  · intro target i v s' Q' E' st q
    exact letGo_other st rfl (by decide) q
theorem Src.rangeB {r : Addr} {b : Int} {t u v : Tok} (hh : A.handled = none) (hr : IsRange s.heap r 0 b 1 t u v) (h0 : 0 ≤ b) (h1 : b ≤ 100000) :
    Src w A h₀ (.ref r) b.toNat (fun i v => ∃ t, v = .int ((i : Nat) : Int) t) [] s := by
  have := Src.range (h₀ := h₀) (w := w) (n := b.toNat) hh hr (PySem.small_one (by decide) (by decide) (by omega) (by omega)) (by unfold Builtin.Range.rangeSize; split <;> (try split) <;> omega)
  intro E Q h
  refine this E Q fun o fp St W => ?_
  have W' : Walks PG w A s.heap.objs.size fp [s.heap.objs.size] b.toNat (fun i v => ∃ t, v = .int ((i : Nat) : Int) t) St := by
    simpa using W
  exact h o fp St W'
theorem Src.rangeN {r : Addr} {n : Nat} {t u v : Tok} (hh : A.handled = none) (hr : IsRange s.heap r 0 (n : Int) 1 t u v) (h1 : n ≤ 100000) :
    Src w A h₀ (.ref r) n (fun i v => ∃ t, v = .int ((i : Nat) : Int) t) [] s := by
  simpa using Src.rangeB (h₀ := h₀) (w := w) hh hr (by omega) (by omega)
theorem Src.bytes {b : List UInt8} {t : Tok} (hh : A.handled = none) : Src w A h₀ (.bytes b.toArray t) b.length (fun i v => ∃ c t', b[i]? = some c ∧ v = .int (c.toNat : Int) t') [] s := by
  intro E Q h
  refine KBw.pyIter_bytes ?_
  have W := KBw.walks (prog := PG) (w := w) hh s.heap.objs.size b.toArray t
  have W' : Walks PG w A s.heap.objs.size [s.heap.objs.size] [s.heap.objs.size] b.length (fun i v => ∃ c t', b[i]? = some c ∧ v = .int (c.toNat : Int) t') (fun i h => KBw.IsBytesIter h s.heap.objs.size b.toArray t i) := by
    simpa using W
  refine h _ _ _ W' ?_ ?_ ?_ rfl ⟨_, Heap.get?_push_size _ rfl, rfl, rfl⟩
  · intro b hb
    exact .inl (List.mem_singleton.mp hb)
  · rintro i h ⟨o, ho, _⟩
    exact ⟨o, ho⟩
  · rintro target i v s' Q' E' ⟨o, ho, hc, _⟩ q
    exact letGo_other ho hc (by decide) q

/-- what a turn of a for leaves -/
def TEnd (h₀ : Heap) (L : Addr) (s₁ : Shared) (I : Addr) (oI : Obj) (J : Ns → Led → Prop) (Q : Flow → Shared → Prop) (f : Flow) (s₂ : Shared) : Prop := match f with
  | .ret v => Q (.ret v) s₂
  | .brk => Q .next s₂
  | _ => ∃ h' tk' m' news', s₂ = { s₁ with heap := h', toks := tk' } ∧ Fr h₀ L h' m' ∧ News h₀ L h' ((I, oI) :: news') ∧ (∀ p ∈ news', p.1 ≠ I) ∧ J m' news'
theorem TEnd.next {s₁ : Shared} {I : Addr} {oI : Obj} {J : Ns → Led → Prop} {Q : Flow → Shared → Prop} {h' : Heap} {tk' : Nat} {m' : Ns} {all : Led} (news' : Led) (F : Fr h₀ L h' m') (N : News h₀ L h' all) (sub : ∀ p ∈ (I, oI) :: news', p ∈ all) (off : ∀ p ∈ news', p.1 ≠ I) (hJ : J m' news') :
    TEnd h₀ L s₁ I oI J Q .next { s₁ with heap := h', toks := tk' } := ⟨h', tk', m', news', rfl, F, fun p hp => N p (sub p hp), off, hJ⟩
theorem TEnd.ret {s₁ s₂ : Shared} {I : Addr} {oI : Obj} {J : Ns → Led → Prop} {Q : Flow → Shared → Prop} {v : Value} (h : Q (.ret v) s₂) : TEnd h₀ L s₁ I oI J Q (.ret v) s₂ := h
theorem TEnd.brk {s₁ s₂ : Shared} {I : Addr} {oI : Obj} {J : Ns → Led → Prop} {Q : Flow → Shared → Prop} (h : Q .next s₂) : TEnd h₀ L s₁ I oI J Q .brk s₂ := h
inductive ForAt (w : World) (A : Around) (h₀ : Heap) (env : Env) (target : Expr) (body : List Stmt) (Q : Flow → Shared → Prop) (E : Value → Shared → Prop) (xv : Value) (s₁ : Shared) : Prop
  | intro (n : Nat) (P : Nat → Value → Prop) (keep : Led) (m : Ns) (news : Led) (J : Nat → Ns → Led → Prop) (src : Src w A h₀ xv n P keep s₁) (fr : Fr h₀ env.locals s₁.heap m) (nws : News h₀ env.locals s₁.heap news)
    (keeps : ∀ i m nw, J i m nw → ∀ p ∈ keep, p ∈ nw) (zero : J 0 m news)
    (turn : ∀ i v I oI m₁ news₁ h tk, i < n → P i v → J i m₁ news₁ → (∀ p ∈ news, p.1 < I) → (∀ p ∈ news₁, p.1 ≠ I) → Fr h₀ env.locals h m₁ → News h₀ env.locals h ((I, oI) :: news₁) →
      wpAny (model PG w) A (assign target env v) (fun _ s₂ => wpAny (model PG w) A (execs body env) (TEnd h₀ env.locals { s₁ with heap := h, toks := tk } I oI (J (i + 1)) Q) E s₂) E { s₁ with heap := h, toks := tk })
    (done : ∀ m₁ news₁ h tk, J n m₁ news₁ → Fr h₀ env.locals h m₁ → News h₀ env.locals h news₁ → Q .next { s₁ with heap := h, toks := tk }) : ForAt w A h₀ env target body Q E xv s₁
theorem for_src {target iter : Expr} {body : List Stmt} {pos : Pos} {env : Env} {Q : Flow → Shared → Prop} {E : Value → Shared → Prop} (F₀ : Fr h₀ env.locals s.heap m)
    (h : wpAny (model PG w) A (eval iter env) (ForAt w A h₀ env target body Q E) E s)
    (hs : ∀ x, foldedSetIterable iter env x = pure x := by intro _; rfl)
    (hE : PassesOwn (model PG w) A env E := by passes_own) :
    wpAny (model PG w) A (exec (.For target iter body [] pos) env) Q E s := by
  refine For_turns F₀ (wpAny_mono h (fun xv s₁ h₁ => ?_) fun _ _ e => e) hs hE
  obtain ⟨n, P, keep, m, news, J, S, F, N, hJk, hJ0, turn, done⟩ := h₁
  refine S _ _ fun o fp St W hfp hobj hgo hof hst => ?_
  have hI₀ : h₀.get? s₁.heap.objs.size = none := next_is_new F
  have hLI : env.locals ≠ s₁.heap.objs.size := Nat.ne_of_lt F.ns.lt
  have hIf : s₁.heap.objs.size ∈ fp := W.sub _ (List.mem_singleton.mpr rfl)
  refine ⟨s₁.heap.objs.size, fp, [s₁.heap.objs.size], n, _, _, St, m, news, J, rfl, KTurns.ofWalks W (fun i v s' Q' E' st q => hgo _ i v s' Q' E' st q), ?_, ?_, ?_, hst, F.push _, (fun p hp => ⟨Heap.get?_push_of_some _ (N p hp).1, (N p hp).2⟩), hJ0, ?_, ?_⟩
  · intro hL
    rcases hfp _ hL with e | ⟨q, e⟩ | ⟨q, e⟩
    · exact hLI e
    · exact absurd (Heap.lt_size e) (Nat.not_lt.mpr F.above)
    · exact (N _ (hJk _ _ _ hJ0 _ e)).2.1 rfl
  · intro b hb
    rw [List.mem_singleton.mp hb]
    exact hI₀
  · intro p hp hI
    exact absurd (Heap.lt_size (N p hp).1) ((List.mem_singleton.mp hI) ▸ Nat.lt_irrefl _)
  · intro i v m₁ news₁ h₁ tk₁ own hi hP hJ hoff hown hget hall st F₁ N₁
    obtain ⟨oI, hoI⟩ := hobj _ _ st
    have hIo : (s₁.heap.objs.size, oI) ∈ own := hall _ hIf hI₀ _ hoI
    have N₂ : News h₀ env.locals h₁ ((s₁.heap.objs.size, oI) :: news₁) := fun p hp => by
      rcases List.mem_cons.mp hp with rfl | hp
      · exact N₁ _ (List.mem_append_left _ hIo)
      · exact N₁ _ (List.mem_append_right _ hp)
    refine wpAny_mono (turn i v s₁.heap.objs.size oI m₁ news₁ h₁ tk₁ hi hP hJ (fun p hp => Heap.lt_size (N p hp).1) (fun p hp e => hoff p hp (List.mem_singleton.mpr e)) F₁ N₂) (fun _ s₂ h₂ => wpAny_mono h₂ (fun f s₃ h₃ => ?_) fun _ _ e => e) fun _ _ e => e
    have fin : (∃ h' tk' m' news', s₃ = { ({ s₁ with heap := h₁, toks := tk₁ } : Shared) with heap := h', toks := tk' } ∧ Fr h₀ env.locals h' m' ∧ News h₀ env.locals h' ((s₁.heap.objs.size, oI) :: news') ∧ (∀ p ∈ news', p.1 ≠ s₁.heap.objs.size) ∧ J (i + 1) m' news') →
        LoopStepU h₀ env.locals [s₁.heap.objs.size] own (J (i + 1)) { s₁ with heap := h₁, toks := tk₁ } .next s₃ := by
      rintro ⟨h', tk', m', news', rfl, F', N', off', hJ'⟩
      refine ⟨rfl, h', tk', m', news', rfl, F', fun p hp => ?_, fun p hp hI => off' p hp (List.mem_singleton.mp hI), hJ'⟩
      rcases List.mem_append.mp hp with hp | hp
      · have e0 := hget p hp
        have n0 := (N₁ p (List.mem_append_left _ hp)).2
        rcases hfp _ (hown p hp) with e | ⟨q, e⟩ | ⟨q, e⟩
        · rw [e] at e0
          have : p.2 = oI := Option.some.inj (e0.symm.trans hoI)
          have e2 : p = (s₁.heap.objs.size, oI) := Prod.ext e this
          rw [e2]
          exact N' _ List.mem_cons_self
        · rw [n0.2] at e; cases e
        · have e3 := (N₁ _ (List.mem_append_right _ (hJk _ _ _ hJ _ e))).1
          have : p.2 = q := Option.some.inj (e0.symm.trans e3)
          have e2 : p = (p.1, q) := Prod.ext rfl this
          rw [e2]
          exact N' _ (List.mem_cons_of_mem _ (hJk _ _ _ hJ' _ e))
      · exact N' _ (List.mem_cons_of_mem _ hp)
    cases f with
    | ret v => exact .ret h₃
    | brk => exact .brk h₃
    | next => exact .next (fin h₃)
    | cont => exact .cont (fin h₃)
  · intro h' tk m' news' F' N' _ hJ
    exact done m' news' h' tk hJ F' N'
end
end Mine
end
section
open PySem PySem.W PyProof.Rows PySem.Calls PyProof.Rows.LCg
namespace Mine
section
variable {w : World} {A : Around} {s : Shared} {h₀ : Heap} {L : Addr} {m : Ns} {news : Led} {E : Value → Shared → Prop}
abbrev tests (ifs : List Expr) (env : Env) : Sem Bool := forIn ifs true fun c r => if r = true then do let ok ← isTrue c env (eval c env); pure (ForInStep.yield ok) else pure (ForInStep.yield r)
theorem comp_loopG {elt target iter : Expr} {ifs : List Expr} {scope : Scope} {pos : Pos} {it acc : Value} {env : Env} {R : Result → Shared → Prop} (I : Nat → Shared → Prop)
    (turn : ∀ n s, I n s → wpAny (model PG w) A (pyNext it) (fun r s₁ => match r with
      | none => R (.ok .next) s₁
      | some v => wpAny (model PG w) A (letOwnedTupleGo target it v) (fun _ s₀ => wpAny (model PG w) A (assign target env v) (fun _ s₂ =>
          wpAny (model PG w) A (tests ifs env) (fun ok s₃ =>
            if ok = true then wpAny (model PG w) A (eval elt env) (fun x s₄ =>
              wpAny (model PG w) A (call (.builtin "list.append") [acc, x]) (fun _ s₅ => ∃ m, m < n ∧ I m s₅) (notedBy (model PG w) A env fun e s' => R (.error e) s') s₄) (notedBy (model PG w) A env fun e s' => R (.error e) s') s₃
            else ∃ m, m < n ∧ I m s₃) (notedBy (model PG w) A env fun e s' => R (.error e) s') s₂) (notedBy (model PG w) A env fun e s' => R (.error e) s') s₀) (notedBy (model PG w) A env fun e s' => R (.error e) s') s₁) (notedBy (model PG w) A env fun e s' => R (.error e) s') s)
    (n : Nat) (h : I n s) :
    codeAny (model PG w) A (.compLoop (.ListComp elt [⟨target, iter, ifs, 0⟩] scope pos) 0 it acc env) R s := by
  refine codeAny_loop rfl I (fun n s hI => ?_) n h
  show wpAny _ A ((compTurn (.ListComp elt [⟨target, iter, ifs, 0⟩] scope pos) 0 it acc env).onRaise (fun x => do noteFrame x env; theTreesLotGoes x)) _ _ s
  refine wpAny_noted ?_
  rw [compTurn_list]
  refine wpAny_bind (wpAny_standAt (wpAny_bind (wpAny_mono (turn n s hI) (fun r s₁ h₁ => ?_) fun _ _ h' => h')))
  cases r with
  | none => exact wpAny_pure h₁
  | some v =>
    refine wpAny_bind (wpAny_mono h₁ (fun _ s₀ h₀' => ?_) fun _ _ h' => h')
    refine wpAny_bind (wpAny_mono h₀' (fun _ s₂ h₂ => wpAny_bind (wpAny_mono h₂ (fun ok s₃ h₃ => ?_) fun _ _ h' => h')) fun _ _ h' => h')
    cases ok with
    | false => exact wpAny_pure ⟨rfl, h₃⟩
    | true =>
      exact wpAny_bind (wpAny_bind (wpAny_mono h₃ (fun x s₄ h₄ => wpAny_bind (wpAny_mono h₄ (fun _ s₅ h₅ => wpAny_pure (wpAny_pure ⟨rfl, h₅⟩)) fun _ _ h' => h')) fun _ _ h' => h'))

/-- what one item's reckoning in a comprehension leaves -/
def CEnd (h₀ : Heap) (L : Addr) (m : Ns) (s₁ : Shared) (I : Addr) (oI : Obj) (C : Addr) (oC : Obj) (D : Addr) (oD : Obj) (J : Value → Led → Prop) (y : Value) (s₂ : Shared) : Prop :=
  ∃ h' tk' news', s₂ = { s₁ with heap := h', toks := tk' } ∧ Fr h₀ L h' m ∧ News h₀ L h' ((I, oI) :: (C, oC) :: (D, oD) :: news') ∧ (∀ p ∈ news', p.1 ≠ I ∧ p.1 ≠ C ∧ p.1 ≠ D) ∧ J y news'
theorem CEnd.intro {s₁ : Shared} {I C D : Addr} {oI oC oD : Obj} {J : Value → Led → Prop} {y : Value} {h' : Heap} {tk' : Nat} {all : Led} (news' : Led) (F : Fr h₀ L h' m) (N : News h₀ L h' all) (sub : ∀ p ∈ (I, oI) :: (C, oC) :: (D, oD) :: news', p ∈ all)
    (off : ∀ p ∈ news', p.1 ≠ I ∧ p.1 ≠ C ∧ p.1 ≠ D) (hJ : J y news') : CEnd h₀ L m s₁ I oI C oC D oD J y { s₁ with heap := h', toks := tk' } := ⟨h', tk', news', rfl, F, fun p hp => N p (sub p hp), off, hJ⟩

/-- a comprehension's loop: the state between two items is J (how many; what was put; the ledger) -/
structure CompOK (w : World) (A : Around) (h₀ : Heap) (L : Addr) (m : Ns) (env : Env) (elt target : Expr) (ifs : List Expr) (scope : Scope) (cl : List (Str × Addr)) (s₂ : Shared) (n : Nat) (P : Nat → Value → Prop) (keep : Led) (news : Led)
    (J : Nat → List Value → Led → Prop) (Bd : Nat → Value → Ns → Prop) : Prop where
  keeps : ∀ i ys nw, J i ys nw → ∀ p ∈ keep, p ∈ nw
  zero : J 0 [] news
  size : n ≤ sizeLine
  binds : ∀ i v C (s' : Shared) (m' : Ns) (Q' : Unit → Shared → Prop) (E' : Value → Shared → Prop), i < n → P i v → s'.heap.Ns C m' → (∀ p ∈ keep, s'.heap.get? p.1 = some p.2) →
    (∀ h'' tk'' m'', h''.Ns C m'' → Bd i v m'' → (∀ b o, b ≠ C → s'.heap.get? b = some o → h''.get? b = some o) → Q' () { s' with heap := h'', toks := tk'' }) → wpAny (model PG w) A (assign target (compEnvC scope cl C env) v) Q' E' s'
  turn : ∀ i v ys news₁ I oI C oC D m₂ h tk (E' : Value → Shared → Prop), i < n → P i v → J i ys news₁ → ys.length ≤ i → NsObj oC m₂ → Bd i v m₂ → Fr h₀ L h m → News h₀ L h ((I, oI) :: (C, oC) :: (D, lst ys) :: news₁) → (∀ p ∈ news₁, p.1 ≠ I ∧ p.1 ≠ C ∧ p.1 ≠ D) → ((@Ne Nat I C) ∧ (@Ne Nat I D) ∧ (@Ne Nat C D)) →
    wpAny (model PG w) A (tests ifs (compEnvC scope cl C env)) (fun ok s₃ => if ok = true then
        wpAny (model PG w) A (eval elt (compEnvC scope cl C env)) (CEnd h₀ L m { s₂ with heap := h, toks := tk } I oI C oC D (lst ys) (fun y nw => J (i + 1) (ys ++ [y]) nw)) E' s₃
      else CEnd h₀ L m { s₂ with heap := h, toks := tk } I oI C oC D (lst ys) (fun _ nw => J (i + 1) ys nw) .none s₃) E' { s₂ with heap := h, toks := tk }

theorem comp_block {elt target iter : Expr} {ifs : List Expr} {scope : Scope} {cl : List (Str × Addr)} {pos : Pos} {env : Env} {s₁ s₂ : Shared} {o : Obj} {fp : List Addr} {n : Nat} {P : Nat → Value → Prop} {St : Nat → Heap → Prop} {keep : Led} {J : Nat → List Value → Led → Prop} {Bd : Nat → Value → Ns → Prop}
    {RR : Value → Addr → Result → Shared → Prop} (hs₂ : s₂ = { s₁ with heap := s₁.heap.push o })
    (W : Walks PG w A s₁.heap.objs.size fp [s₁.heap.objs.size] n P St) (hfp : ∀ b ∈ fp, b = s₁.heap.objs.size ∨ (∃ q, h₀.get? b = some q) ∨ ∃ q, (b, q) ∈ keep)
    (hobj : ∀ i h, St i h → ∃ o, h.get? s₁.heap.objs.size = some o)
    (hgo : ∀ target i v (s' : Shared) (Q' : Unit → Shared → Prop) (E' : Value → Shared → Prop), St i s'.heap → Q' () s' → wpAny (model PG w) A (letOwnedTupleGo target (.ref s₁.heap.objs.size) v) Q' E' s')
    (hst : St 0 (s₁.heap.push o)) (F : Fr h₀ L s₁.heap m) (N : News h₀ L s₁.heap news)
    (hcell : ∀ y ∈ scope.names, y.2 ≠ .cell) (hkind : scope.kind = .function)
    (OK : ∀ s₂, CompOK w A h₀ L m env elt target ifs scope cl s₂ n P keep news J Bd)
    (hRR : ∀ D C h tk m' ys news', J n ys news' → Fr h₀ L h m → News h₀ L h ((D, lst ys) :: news') → (∀ p ∈ news', p.1 ≠ D) → h.Ns C m' → h₀.get? C = none → h₀.get? D = none → C ≠ L → D ≠ L → C ≠ D → (∀ p ∈ news', p.1 ≠ C) → (∀ p ∈ news, p.1 < D) → RR (.ref D) C (.ok .next) { s₁ with heap := h, toks := tk }) :
    wpAny (model PG w) A (newList []) (fun acc s₃ => wpAny (model PG w) A (newFunctionEnv scope env.globals cl [] env.qual none .none (some env)) (fun cenv s₄ =>
      codeAny (model PG w) A (.compStart (.ListComp elt [⟨target, iter, ifs, 0⟩] scope pos) 0 (.ref s₁.heap.objs.size) acc { cenv with scope := relabel scope env }) (RR acc cenv.locals) s₄) E s₃) E s₂ := by
  have F₂ : Fr h₀ L s₂.heap m := by rw [hs₂]; exact F.push _
  have N₂ : News h₀ L s₂.heap news := by rw [hs₂]; exact fun p hp => ⟨Heap.get?_push_of_some _ (N p hp).1, (N p hp).2⟩
  have hI₀ : h₀.get? s₁.heap.objs.size = none := next_is_new F
  have hsz₂ : s₂.heap.objs.size = s₁.heap.objs.size + 1 := by rw [hs₂]; exact Heap.size_push _ _
  have hst : St 0 s₂.heap := by rw [hs₂]; exact hst
  have offI : ∀ p ∈ news, p.1 ≠ s₁.heap.objs.size := fun p hp => Nat.ne_of_lt (Heap.lt_size (N p hp).1)
  have hIL : L ≠ s₁.heap.objs.size := Nat.ne_of_lt F.ns.lt
  have RRs : ∀ D C h tk m' ys news', J n ys news' → Fr h₀ L h m → News h₀ L h ((D, lst ys) :: news') → (∀ p ∈ news', p.1 ≠ D) → h.Ns C m' → h₀.get? C = none → h₀.get? D = none → C ≠ L → D ≠ L → C ≠ D → (∀ p ∈ news', p.1 ≠ C) → (∀ p ∈ news, p.1 < D) → RR (.ref D) C (.ok .next) { s₂ with heap := h, toks := tk } := by
    rw [hs₂]; exact hRR
  clear hRR
  have OK := OK s₂
  have hfp₂ : ∀ b ∈ fp, b < s₂.heap.objs.size := fun b hb => by
    rw [hsz₂]
    rcases hfp b hb with e | ⟨q, e⟩ | ⟨q, e⟩
    · rw [e]; exact Nat.lt_succ_self _
    · exact Nat.lt_succ_of_lt (Heap.lt_size (F.keep _ _ e))
    · exact Nat.lt_succ_of_lt (Heap.lt_size (N _ (OK.keeps _ _ _ OK.zero _ e)).1)
  generalize hI : s₁.heap.objs.size = I at *
  refine wpAny_newObj_type (wpAny_newFunctionEnv hcell (by intro y hy; simp at hy) (fun h₁ hns₁ hsb₁ => ?_) hkind)
  dsimp only at hns₁ hsb₁ ⊢
  generalize hH2 : s₂.heap.push { cls := .type "list", dict := none, data := .seq ([] : List Value).toArray } = H2 at hns₁ hsb₁ ⊢
  have hC : H2.objs.size = s₂.heap.objs.size + 1 := by rw [← hH2, Heap.size_push]
  have hDC : s₂.heap.objs.size ≠ H2.objs.size := by rw [hC]; exact Nat.ne_of_lt (Nat.lt_succ_self _)
  have below : ∀ b, b < s₂.heap.objs.size → b ≠ H2.objs.size ∧ b ≠ s₂.heap.objs.size := fun b hb => ⟨by rw [hC]; exact Nat.ne_of_lt (Nat.lt_succ_of_lt hb), Nat.ne_of_lt hb⟩
  have hDf : s₂.heap.objs.size ∉ fp := fun hm => Nat.lt_irrefl _ (hfp₂ _ hm)
  have hCf : H2.objs.size ∉ fp := fun hm => by have := hfp₂ _ hm; rw [hC] at this; exact Nat.lt_irrefl _ (Nat.lt_of_succ_lt this)
  have hIf : I ∈ fp := W.sub I (List.mem_singleton.mpr rfl)
  have hIlt : I < s₂.heap.objs.size := hfp₂ I hIf
  have old : ∀ b o, s₂.heap.get? b = some o → h₁.get? b = some o := fun b o e => hsb₁.extBut b o (below b (Heap.lt_size e)).1 (Heap.get?_push_of_some _ (hH2 ▸ Heap.get?_push_of_some _ e))
  have hacc : h₁.get? s₂.heap.objs.size = some (lst []) := hsb₁.extBut _ _ hDC (Heap.get?_push_of_some _ (hH2 ▸ Heap.get?_push_size _ rfl))
  have hst₁ : St 0 h₁ := W.frame _ _ _ hst fun b _ o e => old b o e
  have fresh : ∀ a, s₂.heap.objs.size ≤ a → s₂.heap.get? a = none := fun a ha => by
    cases e : s₂.heap.get? a with
    | none => rfl
    | some o' => exact absurd (Heap.lt_size e) (Nat.not_lt.mpr ha)
  have fresh₀ : ∀ a, s₂.heap.objs.size ≤ a → h₀.get? a = none := fun a ha => by
    cases e : h₀.get? a with
    | none => rfl
    | some o' => have := F₂.keep a o' e; rw [fresh a ha] at this; cases this
  have hD₀ : h₀.get? s₂.heap.objs.size = none := fresh₀ _ (Nat.le_refl _)
  have hC₀ : h₀.get? H2.objs.size = none := fresh₀ _ (by rw [hC]; exact Nat.le_succ _)
  have hLlt : L < s₂.heap.objs.size := F₂.ns.lt
  have hDL : s₂.heap.objs.size ≠ L := Ne.symm (below L hLlt).2
  have hCL : H2.objs.size ≠ L := Ne.symm (below L hLlt).1
  have hCI : I ≠ H2.objs.size := (below I hIlt).1
  have hDI : I ≠ s₂.heap.objs.size := (below I hIlt).2
  have off₀ : ∀ p ∈ news, p.1 ≠ I ∧ p.1 ≠ H2.objs.size ∧ p.1 ≠ s₂.heap.objs.size := fun p hp => ⟨offI p hp, (below _ (Heap.lt_size (N₂ p hp).1)).1, (below _ (Heap.lt_size (N₂ p hp).1)).2⟩
  have loop : ∀ s₃ : Shared, s₃ = { s₂ with heap := h₁, toks := s₂.toks + ([] : List (Str × Value)).length } →
      codeAny (model PG w) A (.compLoop (.ListComp elt [⟨target, iter, ifs, 0⟩] scope pos) 0 (.ref I) (.ref s₂.heap.objs.size) (compEnvC scope cl H2.objs.size env))
        (RR (.ref s₂.heap.objs.size) H2.objs.size) s₃ := by
    rintro s₃ rfl
    refine comp_loopG
      (fun k s' => ∃ h' tk i ys m' news', s' = { s₂ with heap := h', toks := tk } ∧ i ≤ n ∧ k = n + 1 - i ∧ ys.length ≤ i ∧ St i h' ∧ Fr h₀ L h' m ∧ h'.Ns H2.objs.size m' ∧ News h₀ L h' ((s₂.heap.objs.size, lst ys) :: news') ∧
        (∀ p ∈ news', p.1 ≠ I ∧ p.1 ≠ H2.objs.size ∧ p.1 ≠ s₂.heap.objs.size) ∧ J i ys news') ?_ (n + 1)
      ⟨h₁, _, 0, [], _, news, rfl, Nat.zero_le _, rfl, Nat.le_refl _, hst₁, F₂.keeps old, hns₁, fun p hp => ?_, off₀, OK.zero⟩
    · rintro k s' ⟨h', tk, i, ys, m', news', rfl, hi, rfl, hyl, hst', F', hn', N', off', hJ'⟩
      by_cases hlt : i < n
      · refine W.item i _ _ _ hlt hst' fun v h₂ tk₂ hPv hst₂ hk₂ => ?_
        refine hgo _ _ _ _ _ _ hst₂ ?_
        have N₂ : News h₀ L h₂ ((s₂.heap.objs.size, lst ys) :: news') := news_but N' hk₂ fun p hp => by
          rcases List.mem_cons.mp hp with rfl | hp
          · exact Ne.symm hDI
          · exact (off' p hp).1
        refine OK.binds i v _ _ _ _ _ hlt hPv (hn'.at' fun o e => hk₂ _ o (by simpa using Ne.symm hCI) e) (fun p hp => (N₂ _ (List.mem_cons_of_mem _ (OK.keeps _ _ _ hJ' _ hp))).1) fun h₃ tk₃ m₃ hn₃ hB hs₃ => ?_
        have hst₃ : St (i + 1) h₃ := W.frame _ _ _ hst₂ fun b hb o e => hs₃ b o (fun q => hCf (by have q' : b = H2.objs.size := q; rw [← q']; exact hb)) e
        obtain ⟨oI, heI⟩ := hobj _ _ hst₃
        obtain ⟨oC, heC, hoC⟩ := ns_obj hn₃
        have F₂' : Fr h₀ L h₂ m := fr_but F' hk₂ hIL hI₀
        have F₃ : Fr h₀ L h₃ m := ⟨F₂'.ns.at' fun o e => hs₃ L o (Ne.symm hCL) e, fun b o e => hs₃ b o (fun q => by have q' : b = H2.objs.size := q; rw [q', hC₀] at e; cases e) (F₂'.keep b o e), F₂'.above⟩
        have N₃ : News h₀ L h₃ ((I, oI) :: (H2.objs.size, oC) :: (s₂.heap.objs.size, lst ys) :: news') := fun p hp => by
          rcases List.mem_cons.mp hp with rfl | hp
          · exact ⟨heI, Ne.symm hIL, hI₀⟩
          · rcases List.mem_cons.mp hp with rfl | hp
            · exact ⟨heC, hCL, hC₀⟩
            · have z := N₂ p hp
              refine ⟨hs₃ _ _ ?_ z.1, z.2⟩
              rcases List.mem_cons.mp hp with rfl | hp
              · exact hDC
              · exact (off' p hp).2.1
        have stand : ∀ (h₄ : Heap) (news₄ : Led), Fr h₀ L h₄ m → News h₀ L h₄ ((I, oI) :: (H2.objs.size, oC) :: (s₂.heap.objs.size, lst ys) :: news₄) → (∀ p ∈ keep, p ∈ news₄) → St (i + 1) h₄ := fun h₄ news₄ F₄ N₄ hk₄ => by
          refine W.frame _ _ _ hst₃ fun b hb o e => ?_
          rcases hfp b hb with e' | ⟨q, e'⟩ | ⟨q, e'⟩
          · subst e'
            rw [heI] at e
            rw [← e]
            exact (N₄ (b, oI) List.mem_cons_self).1
          · have := F₃.keep _ _ e'
            rw [this] at e
            rw [← e]
            exact F₄.keep _ _ e'
          · have h1 := (N₃ (b, q) (List.mem_cons_of_mem _ (List.mem_cons_of_mem _ (List.mem_cons_of_mem _ (OK.keeps _ _ _ hJ' _ e'))))).1
            rw [h1] at e
            rw [← e]
            exact (N₄ (b, q) (List.mem_cons_of_mem _ (List.mem_cons_of_mem _ (List.mem_cons_of_mem _ (hk₄ _ e'))))).1
        refine wpAny_mono (OK.turn i v ys news' I oI H2.objs.size oC s₂.heap.objs.size m₃ h₃ tk₃ _ hlt hPv hJ' hyl hoC hB F₃ N₃ off' ⟨hCI, hDI, Ne.symm hDC⟩) (fun ok s₄ h₄ => ?_) fun _ _ e => e
        cases ok with
        | true =>
          simp only [if_true] at h₄ ⊢
          refine wpAny_mono h₄ (fun y s₅ h₅ => ?_) fun _ _ e => e
          obtain ⟨h₄, tk₄, news₄, rfl, F₄, N₄, off₄, hJ₄⟩ := h₅
          have zC := (N₄ (H2.objs.size, oC) (List.mem_cons_of_mem _ List.mem_cons_self)).1
          have zD := (N₄ (s₂.heap.objs.size, lst ys) (List.mem_cons_of_mem _ (List.mem_cons_of_mem _ List.mem_cons_self))).1
          have N₄' : News h₀ L h₄ news₄ := fun p hp => N₄ p (List.mem_cons_of_mem _ (List.mem_cons_of_mem _ (List.mem_cons_of_mem _ hp)))
          have hst₄ := stand h₄ news₄ F₄ N₄ (OK.keeps _ _ _ hJ₄)
          refine append_at (hsz := by show ys.toArray.size ≤ sizeLine; rw [List.size_toArray]; exact Nat.le_trans (Nat.le_trans hyl hi) OK.size) zD fun h₅ hs₅ hD₅ => ?_
          refine ⟨n + 1 - (i + 1), by omega, h₅, tk₄, i + 1, ys ++ [y], _, news₄, rfl, hlt, rfl, by rw [List.length_append, List.length_singleton]; exact Nat.succ_le_succ hyl, W.frame _ _ _ hst₄ fun b hb o e => hs₅.extBut b o (fun q => hDf (q ▸ hb)) e, F₄.change hs₅ hDL hD₀,
            (hoC.ns zC).sameBut hs₅ (Ne.symm hDC), fun p hp => ?_, off₄, hJ₄⟩
          rcases List.mem_cons.mp hp with rfl | hp
          · exact ⟨hD₅.trans (congrArg some (lst_snoc ys y)), hDL, hD₀⟩
          · exact ⟨hs₅.extBut _ _ (off₄ p hp).2.2 (N₄' p hp).1, (N₄' p hp).2⟩
        | false =>
          simp only [Bool.false_eq_true, if_false] at h₄ ⊢
          obtain ⟨h₅, tk₄, news₄, rfl, F₄, N₄, off₄, hJ₄⟩ := h₄
          have zC := (N₄ (H2.objs.size, oC) (List.mem_cons_of_mem _ List.mem_cons_self)).1
          have hst₄ := stand h₅ news₄ F₄ N₄ (OK.keeps _ _ _ hJ₄)
          exact ⟨n + 1 - (i + 1), by omega, h₅, tk₄, i + 1, ys, _, news₄, rfl, hlt, rfl, Nat.le_succ_of_le hyl, hst₄, F₄, hoC.ns zC, fun p hp => N₄ p (List.mem_cons_of_mem _ (List.mem_cons_of_mem _ hp)), off₄, hJ₄⟩
      · obtain rfl : i = n := Nat.le_antisymm hi (Nat.not_lt.mp hlt)
        refine W.done _ _ _ hst' fun h₂ tk₂ hk₂ => ?_
        exact RRs _ _ h₂ tk₂ _ ys news' hJ' (fr_but F' hk₂ hIL hI₀) (news_but N' hk₂ fun p hp => by
          rcases List.mem_cons.mp hp with rfl | hp
          · exact Ne.symm hDI
          · exact (off' p hp).1) (fun p hp => (off' p hp).2.2) (hn'.at' fun o e => hk₂ _ o (by simpa using Ne.symm hCI) e) hC₀ hD₀ hCL hDL (Ne.symm hDC) (fun p hp => (off' p hp).2.1) (fun p hp => Heap.lt_size (N₂ p hp).1)
    · rcases List.mem_cons.mp hp with rfl | hp
      · exact ⟨hacc, hDL, hD₀⟩
      · exact ⟨old _ _ (N₂ p hp).1, (N₂ p hp).2⟩
  exact codeAny_compStart_list (loop _ rfl) (W.self 0 _ _ _ hst₁ (loop _ rfl))

/-- a comprehension's source is told, and what it makes -/
inductive CompAt (w : World) (A : Around) (h₀ : Heap) (L : Addr) (m : Ns) (env : Env) (elt target : Expr) (ifs : List Expr) (scope : Scope) (cl : List (Str × Addr)) (m' : Addr → Ns) (Q : Addr → Shared → Prop) (xv : Value) (s₁ : Shared) : Prop
  | intro (n : Nat) (P : Nat → Value → Prop) (keep news : Led) (J : Nat → List Value → Led → Prop) (Bd : Nat → Value → Ns → Prop) (src : Src w A h₀ xv n P keep s₁) (fr : Fr h₀ L s₁.heap m) (nws : News h₀ L s₁.heap news)
    (ok : ∀ s₂, CompOK w A h₀ L m env elt target ifs scope cl s₂ n P keep news J Bd) (done : ∀ D h tk ys news', J n ys news' → Fr h₀ L h (m' D) → News h₀ L h ((D, lst ys) :: news') → (∀ p ∈ news', p.1 ≠ D) → (∀ p ∈ news, p.1 < D) → Q D { s₁ with heap := h, toks := tk }) : CompAt w A h₀ L m env elt target ifs scope cl m' Q xv s₁
theorem comp_eval {elt target iter : Expr} {ifs : List Expr} {scope : Scope} {cl : List (Str × Addr)} {pos : Pos} {env : Env} {Q : Value → Shared → Prop} (_F : Fr h₀ L s.heap m)
    (hclos : closureFor scope env = pure cl) (hcell : ∀ y ∈ scope.names, y.2 ≠ .cell) (hkind : scope.kind = .function)
    (hnames : ∀ y ∈ scope.names, y.2 = .local → scope.names.lookup y.1 = some .local)
    (h : wpAny (model PG w) A (eval iter env) (CompAt w A h₀ L m env elt target ifs scope cl (fun _ => m) (fun D => Q (.ref D))) E s)
    (hs : ∀ x, foldedSetIterable iter env x = pure x := by intro _; rfl) :
    wpAny (model PG w) A (eval (.ListComp elt [⟨target, iter, ifs, 0⟩] scope pos) env) Q E s := by
  rw [eval_ListComp]
  refine wpAny_comprehension_free (use := none) rfl hs hclos hkind hnames (wpAny_mono h (fun xv s₁ h₁ => ?_) fun _ _ e => e)
  obtain ⟨n, P, keep, news, J, Bd, S, F, N, OK, fin⟩ := h₁
  refine S _ _ fun o fp St W hfp hobj hgo hof hst => ?_
  refine comp_block rfl W hfp hobj hgo hst F N hcell hkind OK ?_
  intro D C h tk m' ys news' hJ F' N' offD hn hC₀ hD₀ hCL hDL hCD offC ab
  refine ⟨m', hn, fun h'' hs'' => fin D h'' tk ys news' hJ (F'.change hs'' hCL hC₀) (fun p hp => ?_) offD ab⟩
  refine ⟨hs''.extBut _ _ ?_ (N' p hp).1, (N' p hp).2⟩
  rcases List.mem_cons.mp hp with rfl | hp
  · exact Ne.symm hCD
  · exact offC p hp
theorem comp_assign {elt target iter : Expr} {ifs : List Expr} {y : Str} {py : Pos} {scope : Scope} {cl : List (Str × Addr)} {pos spos : Pos} {env : Env} {Q : Flow → Shared → Prop} (_F : Fr h₀ L s.heap m) (hLe : env.locals = L)
    (hsw : swapsWith (.ListComp elt [⟨target, iter, ifs, 0⟩] scope pos) (some (.Name y py)) spos.line env = pure true)
    (hclos : closureFor scope env = pure cl) (hcell : ∀ z ∈ scope.names, z.2 ≠ .cell) (hkind : scope.kind = .function)
    (hnames : ∀ z ∈ scope.names, z.2 = .local → scope.names.lookup z.1 = some .local)
    (hy : env.kindOf y = some .local) (hp : (env.scope.kind == .class || (env.scope.kind == .module && env.locals != env.globals)) = false)
    (h : wpAny (model PG w) A (eval iter env) (CompAt w A h₀ L m env elt target ifs scope cl (fun D z => if z = y then some (.ref D) else m z) (fun _ => Q .next)) E s)
    (hs : ∀ x, foldedSetIterable iter env x = pure x := by intro _; rfl) :
    wpAny (model PG w) A (exec (.Assign [.Name y py] (.ListComp elt [⟨target, iter, ifs, 0⟩] scope pos) spos) env) Q E s := by
  subst hLe
  rw [exec_Assign_Name_used _ _ _ _ hsw]
  refine wpAny_bind (wpAny_standAt (wpAny_bind ?_))
  show wpAny _ A (do let _ ← comprehension (.ListComp elt [⟨target, iter, ifs, 0⟩] scope pos) scope env _ (newList []) false (eval iter env) (some (assign (.Name y py) env))) _ _ s
  refine wpAny_bind (wpAny_mono (wpAny_comprehension_free (use := some (assign (.Name y py) env)) (Q := fun _ s' => Q .next s') rfl hs hclos hkind hnames
    (wpAny_mono h (fun xv s₁ h₁ => ?_) fun _ _ e => e)) (fun _ s' hq => wpAny_pure (wpAny_pure hq)) fun _ _ e => e)
  obtain ⟨n, P, keep, news, J, Bd, S, F, N, OK, fin⟩ := h₁
  refine S _ _ fun o fp St W hfp hobj hgo hof hst => ?_
  refine comp_block rfl W hfp hobj hgo hst F N hcell hkind OK ?_
  intro D C h' tk m' ys news' hJ F' N' offD hn hC₀ hD₀ hCL hDL hCD offC ab
  show wpAny _ A (assign (.Name y py) env (.ref D)) _ _ _
  refine wpAny_assign_Name (wpAny_storeName_local hy F'.ns (fun h₂ hn₂ hs₂ => ?_) hp)
  have hL₀ : h₀.get? env.locals = none := Heap.get?_none_of_le F'.above
  have F₂ : Fr h₀ env.locals h₂ (fun z => if z = y then some (.ref D) else m z) := ⟨hn₂, fun b o e => hs₂.extBut b o (fun q => by rw [q, hL₀] at e; cases e) (F'.keep b o e), F'.above⟩
  refine ⟨m', hn.sameBut hs₂ hCL, fun h'' hs'' => fin D h'' _ ys news' hJ (F₂.change hs'' hCL hC₀) (fun p hp => ?_) offD ab⟩
  have z : h₂.get? p.1 = some p.2 := hs₂.extBut _ _ (N' p hp).2.1 (N' p hp).1
  refine ⟨hs''.extBut _ _ ?_ z, (N' p hp).2⟩
  rcases List.mem_cons.mp hp with rfl | hp
  · exact Ne.symm hCD
  · exact offC p hp

/-- the names that a target binds -/
def updN : List Str → List Value → Ns → Ns
  | x :: xs, v :: vs, m => updN xs vs (fun y => if y = x then some v else m y)
  | _, _, m => m
theorem binds_name {x : Str} {px : Pos} {scope : Scope} {cl : List (Str × Addr)} {env : Env} (hkind : scope.kind = .function) (hx : scope.names.lookup x = some .local) (v : Value) (C : Addr) (s' : Shared) (m' : Ns) (Q' : Unit → Shared → Prop) (E' : Value → Shared → Prop) (hn : s'.heap.Ns C m')
    (h : ∀ h'' tk'' m'', h''.Ns C m'' → m'' x = some v → (∀ b o, b ≠ C → s'.heap.get? b = some o → h''.get? b = some o) → Q' () { s' with heap := h'', toks := tk'' }) :
    wpAny (model PG w) A (assign (.Name x px) (compEnvC scope cl C env) v) Q' E' s' := by
  refine wpAny_assign_Name (wpAny_storeName_local (lookup_relabel_local hx) hn (fun h₃ hn₃ hs₃ => ?_) (by simp [compEnvC, relabel, hkind]))
  exact h h₃ _ _ hn₃ (by simp) hs₃.extBut
theorem assign_inOrder {env : Env} (hp : (env.scope.kind == .class || (env.scope.kind == .module && env.locals != env.globals)) = false) : ∀ (xs : List (Str × Pos)) (vs : List Value) (s' : Shared) (m' : Ns) (Q' : Unit → Shared → Prop) (E' : Value → Shared → Prop), xs.length = vs.length →
    (∀ x ∈ xs, env.kindOf x.1 = some .local) → s'.heap.Ns env.locals m' →
    (∀ h'' tk'', h''.Ns env.locals (updN (xs.map (·.1)) vs m') → (∀ b o, b ≠ env.locals → s'.heap.get? b = some o → h''.get? b = some o) → Q' () { s' with heap := h'', toks := tk'' }) →
    wpAny (model PG w) A (assignInOrder (xs.map fun x => assign (.Name x.1 x.2) env) vs) Q' E' s'
  | [], [], s', m', Q', E', _, _, hn, h => assignInOrder_nil (h s'.heap s'.toks hn fun _ _ _ e => e)
  | x :: xs, v :: vs, s', m', Q', E', hl, hk, hn, h => by
    show wpAny _ A (assignInOrder (assign (.Name x.1 x.2) env :: xs.map fun x => assign (.Name x.1 x.2) env) (v :: vs)) Q' E' s'
    refine assignInOrder_cons (wpAny_assign_Name (wpAny_storeName_local (hk x (.head _)) hn (fun h₂ hn₂ hs₂ => ?_) hp))
    refine assign_inOrder hp xs vs _ _ _ _ (Nat.succ.inj hl) (fun y hy => hk y (.tail _ hy)) hn₂ fun h₃ tk₃ hn₃ hk₃ => ?_
    exact h h₃ tk₃ hn₃ fun b o hb e => hk₃ b o hb (hs₂.extBut b o hb e)
  | [], _ :: _, _, _, _, _, hl, _, _, _ => nomatch hl
  | _ :: _, [], _, _, _, _, hl, _, _, _ => nomatch hl
theorem binds_tuple {elts : List Expr} {k : Nat} {pos : Pos} (xs : List (Str × Pos)) {scope : Scope} {cl : List (Str × Addr)} {env : Env} (hkind : scope.kind = .function) (hx : ∀ x ∈ xs, scope.names.lookup x.1 = some .local) (hh : A.handled = none)
    (T : Addr) (vs : List Value) (C : Addr) (s' : Shared) (m' : Ns) (Q' : Unit → Shared → Prop) (E' : Value → Shared → Prop) (ht : s'.heap.IsTuple T vs.toArray) (hl : xs.length = vs.length) (hn : s'.heap.Ns C m')
    (he : ∀ env : Env, (assignEach elts env).map (·.2) = xs.map (fun x => assign (.Name x.1 x.2) env)) (hst : ∀ env : Env, (assignEach elts env).findIdx? (·.1) = none)
    (h : ∀ h'' tk'', h''.Ns C (updN (xs.map (·.1)) vs m') → (∀ b o, b ≠ C → s'.heap.get? b = some o → h''.get? b = some o) → Q' () { s' with heap := h'', toks := tk'' }) :
    wpAny (model PG w) A (assign (.Tuple elts k pos) (compEnvC scope cl C env) (.ref T)) Q' E' s' := by
  have hlen : (assignEach elts (compEnvC scope cl C env)).length = vs.toArray.size := by
    have := congrArg List.length (he (compEnvC scope cl C env))
    simp only [List.length_map] at this
    rw [this, hl, List.size_toArray]
  refine wpAny_assign_Tuple hh ht hlen (hst _) fun h₁ he₁ => ?_
  have hC : C ≠ s'.heap.objs.size := Nat.ne_of_lt hn.lt
  have hn₁ : h₁.Ns C m' := hn.at' fun o e => he₁ _ o hC e
  rw [he]
  refine assign_inOrder (by simp [compEnvC, relabel, hkind]) xs vs _ m' _ _ hl (fun x hxm => lookup_relabel_local (hx x hxm)) hn₁ fun h₂ tk₂ hn₂ hk₂ => ?_
  exact h h₂ tk₂ hn₂ fun b o hb e => hk₂ b o hb (he₁ b o (Nat.ne_of_lt (Heap.lt_size e)) e)
end
end Mine
end
section
open PySem PySem.W PyProof.Rows PySem.Calls PyProof.Rows.LCg
namespace Mine
section
variable {w : World} {A : Around} {s : Shared} {h₀ : Heap} {L : Addr} {m : Ns} {news : Led} {E : Value → Shared → Prop} {env : Env} {Q : Flow → Shared → Prop}
/-- the value of a for's iterable: its turns are walked -/
def IterTurns (w : World) (A : Around) (h₀ : Heap) (env : Env) (target : Expr) (body : List Stmt) (Q : Flow → Shared → Prop) (E : Value → Shared → Prop) (xv : Value) (s₁ : Shared) : Prop :=
  wpAny (model PG w) A (pyIter xv) (fun it s₂ => TurnsAt PG w A h₀ env target body Q E it s₂) E s₁
theorem for_turns {target iter : Expr} {body : List Stmt} {pos : Pos} (F₀ : Fr h₀ env.locals s.heap m)
    (h : wpAny (model PG w) A (eval iter env) (IterTurns w A h₀ env target body Q E) E s)
    (hs : ∀ x, foldedSetIterable iter env x = pure x := by intro _; rfl)
    (hE : PassesOwn (model PG w) A env E := by passes_own) :
    wpAny (model PG w) A (exec (.For target iter body [] pos) env) Q E s := For_turns F₀ h hs hE
/-- what a turn over enumerate leaves -/
def EEnd (h₀ : Heap) (L : Addr) (s : Shared) (its : Led) (J : Ns → Led → Prop) (Q : Flow → Shared → Prop) (f : Flow) (s₃ : Shared) : Prop := match f with
  | .ret v => Q (.ret v) s₃
  | .brk => Q .next s₃
  | _ => ∃ h' tk' m' news', s₃ = { s with heap := h', toks := tk' } ∧ Fr h₀ L h' m' ∧ News h₀ L h' (its ++ news') ∧ (∀ p ∈ news', ∀ q ∈ its, p.1 ≠ q.1) ∧ J m' news'
theorem EEnd.next {its : Led} {J : Ns → Led → Prop} {h' : Heap} {tk' : Nat} {m' : Ns} {all : Led} (news' : Led) (F : Fr h₀ L h' m') (N : News h₀ L h' all) (sub : ∀ p ∈ its ++ news', p ∈ all) (off : ∀ p ∈ news', ∀ q ∈ its, p.1 ≠ q.1) (hJ : J m' news') :
    EEnd h₀ L s its J Q .next { s with heap := h', toks := tk' } := ⟨h', tk', m', news', rfl, F, fun p hp => N p (sub p hp), off, hJ⟩
theorem EEnd.ret {s₂ : Shared} {its : Led} {J : Ns → Led → Prop} {v : Value} (h : Q (.ret v) s₂) : EEnd h₀ L s its J Q (.ret v) s₂ := h
inductive EnumAt (w : World) (A : Around) (h₀ : Heap) (env : Env) (elts : List Expr) (k : Nat) (pos : Pos) (body : List Stmt) (Q : Flow → Shared → Prop) (E : Value → Shared → Prop) (l : Addr) (s : Shared) : Prop
  | intro (vs : List Value) (n : Nat) (m : Ns) (news : Led) (J : Nat → Ns → Led → Prop) (fr : Fr h₀ env.locals s.heap m) (nws : News h₀ env.locals s.heap news) (keeps : ∀ i m nw, J i m nw → (l, listOf vs.toArray n) ∈ nw) (zero : J 0 m news) (hh : A.handled = none)
    (turn : ∀ i v I oE oI T t m₁ news₁ h tk, vs[i]? = some v → J i m₁ news₁ → (∀ p ∈ news, p.1 < I) → (∀ p ∈ news₁, p.1 ≠ I + 1 ∧ p.1 ≠ I) → IsTup h T #[.int (i : Int) t, v] → Fr h₀ env.locals h m₁ → News h₀ env.locals h ((I + 1, oE) :: (I, oI) :: news₁) →
      wpAny (model PG w) A (assign (.Tuple elts k pos) env (.ref T)) (fun _ s₂ => wpAny (model PG w) A (execs body env) (EEnd h₀ env.locals { s with heap := h, toks := tk } [(I + 1, oE), (I, oI)] (J (i + 1)) Q) E s₂) E { s with heap := h, toks := tk })
    (done : ∀ m₁ news₁ h tk, J vs.length m₁ news₁ → Fr h₀ env.locals h m₁ → News h₀ env.locals h news₁ → Q .next { s with heap := h, toks := tk }) : EnumAt w A h₀ env elts k pos body Q E l s
theorem allObj_of {k : Led → Prop} : ∀ {ws : List (Addr × String)}, (∀ its, Objs ws its → k its) → AllObj ws k
  | [], h => h [] trivial
  | w :: r, h => fun o ho => allObj_of (ws := r) (k := fun its => k ((w.1, o) :: its)) fun its hi => h ((w.1, o) :: its) ⟨⟨rfl, ho⟩, hi⟩
theorem enumItems_get' : ∀ (vs : List Value) (a i : Nat) {it : Itm}, (enumItems a vs)[i]? = some it → ∃ v, vs[i]? = some v ∧ it = .pair (fun t => .int ((a + i : Nat) : Int) t) v := by
  intro vs a i it h
  have hl : i < vs.length := by
    have := List.getElem?_eq_some_iff.mp h
    obtain ⟨h1, _⟩ := this
    rwa [enumItems_length] at h1
  refine ⟨vs[i], by simp [hl], ?_⟩
  rw [enumItems_get vs a i (v := vs[i]) (by simp [hl])] at h
  exact (Option.some.inj h).symm
theorem enum_call {elts : List Expr} {k : Nat} {pos : Pos} {body : List Stmt} {l : Addr} (h : EnumAt w A h₀ env elts k pos body Q E l s) :
    wpAny (model PG w) A (call (.type "enumerate") [.ref l]) (IterTurns w A h₀ env (.Tuple elts k pos) body Q E) E s := by
  obtain ⟨vs, n, m, news, J, F, N, hJl, hJ0, hh, turn, done⟩ := h
  refine ktu_enum (xs := enumItems 0 vs) hh F N (hJl _ _ _ hJ0) rfl rfl rfl fun I hI => ?_
  have main : ∀ j i, i + j = vs.length → ∀ m₁ news₁, J i m₁ news₁ → (∀ p ∈ news₁, p.1 ≠ I + 1 ∧ p.1 ≠ I) →
      ItemsRest PG w A E h₀ env (.Tuple elts k pos) body Q s [(I + 1, "enumerate"), (I, "list_iterator")] [(l, listOf vs.toArray n)] ((enumItems 0 vs).drop i) m₁ news₁ := by
    intro j
    induction j with
    | zero =>
      intro i hi m₁ news₁ hJ _
      have : (enumItems 0 vs).drop i = [] := List.drop_eq_nil_of_le (by rw [enumItems_length]; omega)
      rw [this]
      intro h tk F₁ N₁
      exact done m₁ news₁ h tk (by rw [show vs.length = i by omega]; exact hJ) F₁ N₁
    | succ j ih =>
      intro i hi m₁ news₁ hJ hoff
      have hlt : i < (enumItems 0 vs).length := by rw [enumItems_length]; omega
      have hd : (enumItems 0 vs).drop i = (enumItems 0 vs)[i] :: (enumItems 0 vs).drop (i + 1) := List.drop_eq_getElem_cons hlt
      obtain ⟨v, hv, hit⟩ := enumItems_get' vs 0 i (it := (enumItems 0 vs)[i]) (by simp [hlt])
      rw [hd, hit]
      refine ItemsRest.pair fun T t h tk hT F₁ => allObj_of fun its hits N₁ => ?_
      obtain ⟨oE, oI, rfl⟩ : ∃ oE oI, its = [(I + 1, oE), (I, oI)] := by
        match its, hits with
        | [p, q], hits =>
          obtain ⟨⟨h1, _⟩, ⟨h2, _⟩, _⟩ := hits
          exact ⟨p.2, q.2, by rw [show p = (I + 1, p.2) from Prod.ext h1 rfl, show q = (I, q.2) from Prod.ext h2 rfl]⟩
        | [], hits => exact hits.elim
        | [_], hits => exact hits.2.elim
        | _ :: _ :: _ :: _, hits => exact hits.2.2.elim
      have hT' : IsTup h T #[.int (i : Int) t, v] := by simpa using hT
      refine wpAny_mono (turn i v I oE oI T t m₁ news₁ h tk hv hJ hI hoff hT' F₁ N₁) (fun _ s₂ h₂ => wpAny_mono h₂ (fun f s₃ h₃ => ?_) fun _ _ e => e) fun _ _ e => e
      have fin : (∃ h' tk' m' news', s₃ = { ({ s with heap := h, toks := tk } : Shared) with heap := h', toks := tk' } ∧ Fr h₀ env.locals h' m' ∧ News h₀ env.locals h' ([(I + 1, oE), (I, oI)] ++ news') ∧ (∀ p ∈ news', ∀ q ∈ [(I + 1, oE), (I, oI)], p.1 ≠ q.1) ∧ J (i + 1) m' news') →
          UnrEndW h₀ env.locals { s with heap := h, toks := tk } [(I + 1, oE), (I, oI)] (fun m' n' => SubL [(l, listOf vs.toArray n)] n' ∧ ItemsRest PG w A E h₀ env (.Tuple elts k pos) body Q s [(I + 1, "enumerate"), (I, "list_iterator")] [(l, listOf vs.toArray n)] ((enumItems 0 vs).drop (i + 1)) m' n') s₃ := by
        rintro ⟨h', tk', m', news', rfl, F', N', off', hJ'⟩
        exact ⟨h', tk', m', news', rfl, F', N', off', ⟨hJl _ _ _ hJ', trivial⟩, ih (i + 1) (by omega) m' news' hJ' fun p hp => ⟨off' p hp _ (.head _), off' p hp _ (.tail _ (.head _))⟩⟩
      cases f with
      | ret v => exact h₃
      | brk => exact h₃
      | next => exact fin h₃
      | cont => exact fin h₃
  refine main vs.length 0 (Nat.zero_add _) m news hJ0 fun p hp => ?_
  have := hI p hp
  exact ⟨Nat.ne_of_lt (Nat.lt_succ_of_lt this), Nat.ne_of_lt this⟩
inductive WhileAt (w : World) (A : Around) (h₀ : Heap) (env : Env) (test : Expr) (body : List Stmt) (Q : Flow → Shared → Prop) (E : Value → Shared → Prop) (s : Shared) : Prop
  | intro (J : Nat → Ns → Led → Prop) (n₀ : Nat) (m : Ns) (news : Led) (fr : Fr h₀ env.locals s.heap m) (nws : News h₀ env.locals s.heap news) (zero : J n₀ m news)
    (turn : ∀ n m₁ news₁ h₁ tk₁, Fr h₀ env.locals h₁ m₁ → News h₀ env.locals h₁ news₁ → J n m₁ news₁ →
      wpAny (model PG w) A (isTrue test env (eval test env)) (fun b s₂ =>
        if b = true then wpAny (model PG w) A (execs body env) (WhileStep h₀ env.locals s J n) E s₂ else Q .next s₂) E { s with heap := h₁, toks := tk₁ }) : WhileAt w A h₀ env test body Q E s
theorem while_at {test : Expr} {body : List Stmt} {pos : Pos} (_F₀ : Fr h₀ env.locals s.heap m) (h : WhileAt w A h₀ env test body Q E s) (hE : PassesOwn (model PG w) A env E := by passes_own) :
    wpAny (model PG w) A (exec (.While test body [] pos) env) Q E s := by
  obtain ⟨J, n₀, m, news, F, N, hJ, turn⟩ := h
  exact While_inv J F N hJ turn hE
end
end Mine
end
section
open PySem PySem.W PyProof.Rows PySem.Calls PyProof.Rows.LCg
namespace Mine
section
variable {w : World} {A : Around} {s : Shared} {h₀ : Heap} {L : Addr} {m : Ns} {news news' : Led} {E : Value → Shared → Prop}
theorem len_l {l : Addr} {vs : List Value} {k : Nat} {Q : Value → Shared → Prop} (N : News h₀ L s.heap news) (hm : (l, listOf vs.toArray k) ∈ news) (hz : vs.length ≤ 100000) (h : Q (.int (vs.length : Nat) (s.toks + 1)) { s with toks := s.toks + 1 + 1 }) :
    wpAny (model PG w) A (call (.builtin "len") [.ref l]) Q E s :=
  KM.len_K N hm (n := vs.length) (by simp) (by omega) h
theorem rep_one {v : Value} (n : Nat) : (List.replicate n [v]).flatten = List.replicate n v := by
  induction n with
  | zero => rfl
  | succ n ih => rw [List.replicate_succ, List.flatten_cons, ih, List.replicate_succ]; rfl
theorem mul_one {l : Addr} {z : Int} {t u : Tok} {n : Nat} {Q : Value → Shared → Prop} (F : Fr h₀ L s.heap m) (N : News h₀ L s.heap news) (hm : (l, listOf #[.int z t] 0) ∈ news) (hz : n ≤ 100000)
    (h : ∀ D h', Fr h₀ L h' m → News h₀ L h' ((D, listOf (List.replicate n (.int z t)).toArray 0) :: news) → (∀ p ∈ news, p.1 < D) → Q (.ref D) { s with heap := h' }) :
    wpAny (model PG w) A (binaryOp .Mult (.ref l) (.int (n : Int) u)) Q E s := by
  refine KM.mul (vs := [.int z t]) (ns := [z]) F N ⟨_, (N _ hm).1, rfl, _, rfl⟩ (IntsAre.cons _ _ IntsAre.nil) (by omega) (by omega) (by simp; omega) ?_
  intro D h' F' N' lt _ _ _ _ _ _
  rw [Int.toNat_natCast, rep_one] at N'
  exact h D h' F' N' lt
theorem set_nat {D : Addr} {vs : List Value} {n i : Nat} {u : Tok} {v : Value} {Q : Unit → Shared → Prop} (F : Fr h₀ L s.heap m) (N : News h₀ L s.heap news) (hi : i < vs.length) (hb : i < 100000)
    (U : Upd D (listOf vs.toArray n) (listOf (vs.set i v).toArray n) news news') (h : ∀ h', Fr h₀ L h' m → News h₀ L h' news' → Q () { s with heap := h' }) :
    wpAny (model PG w) A (setItem (.ref D) (.int (i : Int) u) v) Q E s := by
  obtain ⟨pre, post, rfl, rfl, a, b⟩ := U.split
  have z := N (D, listOf vs.toArray n) (List.mem_append.mpr (.inr (.head _)))
  refine ki_setAt z.1 (by omega) (by omega) (by simp; omega) (h _ (F.change (Heap.SameBut.update ..) z.2.1 z.2.2) (ki_turn _ N a b ?_ ?_))
  · show vs.toArray.setIfInBounds (i : Int).toNat v = (vs.set i v).toArray
    simp
  · rw [if_pos (by simp)]
theorem tup_at {value slice : PySem.Expr} {l : Addr} {vs : List Value} {i : Nat} {u : Tok} {v : Value} {Q : Value → Shared → Prop} (N : News h₀ L s.heap news) (hm : (l, tupOf vs) ∈ news) (hi : i < 100000) (hx : vs[i]? = some v) (h : Q v s)
    (hs : subscripted slice false (.ref l) (.int (i : Int) u) = operate [.ref l, .int (i : Int) u] (getItem (.ref l) (.int (i : Int) u)) := by with_unfolding_all rfl) :
    wpAny (model PG w) A (subscriptTail value slice (.ref l) (.int (i : Int) u)) Q E s := by
  have ht : IsTup s.heap l vs.toArray := ⟨_, (N _ hm).1, rfl, _, rfl⟩
  have hl : i < vs.length := (List.getElem?_eq_some_iff.mp hx).1
  exact tail_any ⟨_, (N _ hm).1, rfl⟩ PyProof.Rows.slot_tuple_getitem.lookup (getItem_tuple ht (by omega) (by omega) (PySem.seqIndex_of (by omega) (by simpa using hl)) (by simpa using hx) h) hs
theorem cut_to {value slice : PySem.Expr} {b : List UInt8} {t v : Tok} {y : Nat} {Q : Value → Shared → Prop} (hF : Fr h₀ L s.heap m) (hN : News h₀ L s.heap news) (hb : b.length ≤ 1000)
    (h : ∀ h' t' k, Fr h₀ L h' m → News h₀ L h' news → Q (.bytes (b.take y).toArray t') { s with heap := h', toks := k })
    (hs : subscripted slice false (.bytes b.toArray t) (.ref s.heap.objs.size) = operate [.ref s.heap.objs.size, .bytes b.toArray t] (getItem (.bytes b.toArray t) (.ref s.heap.objs.size)) := by with_unfolding_all rfl)
    (ht : ∀ r, letTemporaryGo value (.bytes b.toArray t) r = pure () := by intro _; with_unfolding_all rfl) :
    wpAny (model PG w) A (subscriptTail value slice (.bytes b.toArray t) (.ref s.heap.objs.size)) Q E { s with heap := s.heap.push { cls := .type "slice", data := .fields #[.none, .int (y : Int) v, .none] } } := by
  refine KBc.slice_K hF hN (ks := KBw.bInts b.toArray) rfl .none (.int (y : Int) v) (by rw [KBw.ints_length]; simp; omega) (fun h' t' k F' N' _ => ?_) hs ht
  have e : KBy.picked b.toArray none (some (y : Int)) = (b.take y).toArray := by
    rw [KBc.picked_eq]
    simp only [Option.elim, List.size_toArray]
    rw [clipAt_nat]
    congr 1
    simp only [List.drop_zero, Nat.sub_zero]
    rcases Nat.le_total y b.length with hj | hj
    · rw [Nat.min_eq_left hj]
    · rw [Nat.min_eq_right hj, List.take_of_length_le (Nat.le_refl _), List.take_of_length_le hj]
  rw [e]
  exact h h' t' k F' N'
theorem cut_from {value slice : PySem.Expr} {b : List UInt8} {t v : Tok} {x : Int} {Q : Value → Shared → Prop} (hF : Fr h₀ L s.heap m) (hN : News h₀ L s.heap news) (hb : b.length ≤ 1000) (hx : 0 ≤ x)
    (h : ∀ h' t' k, Fr h₀ L h' m → News h₀ L h' news → Q (.bytes (b.drop x.toNat).toArray t') { s with heap := h', toks := k })
    (hs : subscripted slice false (.bytes b.toArray t) (.ref s.heap.objs.size) = operate [.ref s.heap.objs.size, .bytes b.toArray t] (getItem (.bytes b.toArray t) (.ref s.heap.objs.size)) := by with_unfolding_all rfl)
    (ht : ∀ r, letTemporaryGo value (.bytes b.toArray t) r = pure () := by intro _; with_unfolding_all rfl) :
    wpAny (model PG w) A (subscriptTail value slice (.bytes b.toArray t) (.ref s.heap.objs.size)) Q E { s with heap := s.heap.push { cls := .type "slice", data := .fields #[.int x v, .none, .none] } } := by
  refine KBc.slice_K hF hN (ks := KBw.bInts b.toArray) rfl (.int x v) .none (by rw [KBw.ints_length]; simp; omega) (fun h' t' k F' N' _ => ?_) hs ht
  have e : KBy.picked b.toArray (some x) none = (b.drop x.toNat).toArray := by
    obtain ⟨x, rfl⟩ := Int.eq_ofNat_of_zero_le hx
    rw [KBc.picked_eq]
    simp only [Option.elim, List.size_toArray, Int.toNat_natCast]
    rw [clipAt_nat]
    congr 1
    rcases Nat.le_total x b.length with hj | hj
    · rw [Nat.min_eq_left hj, List.take_of_length_le (by rw [List.length_drop]; exact Nat.le_refl _)]
    · rw [Nat.min_eq_right hj, List.drop_of_length_le hj, List.drop_of_length_le (Nat.le_refl _)]; simp
  rw [e]
  exact h h' t' k F' N'
theorem ne_ints {a b : Addr} {vs us : List Value} {k k' : Nat} {ns ms : List Int} {Q : Value → Shared → Prop} (N : News h₀ L s.heap news) (hm : (a, listOf vs.toArray k) ∈ news) (hi : IntsAre vs ns) (hm' : (b, listOf us.toArray k') ∈ news) (hi' : IntsAre us ms) (hu : A.units + 64 < cLine)
    (h : Q (.bool (!decide (ns = ms))) s) : wpAny (model PG w) A (compareOp .NotEq (.ref a) (.ref b)) Q E s :=
  ne_intsK ⟨_, (N _ hm).1, rfl, _, rfl⟩ hi ⟨_, (N _ hm').1, rfl, _, rfl⟩ hi' hu h
theorem add_l {l b : Addr} {vs ws : List Value} {k k' : Nat} {Q : Value → Shared → Prop} (F : Fr h₀ L s.heap m) (N : News h₀ L s.heap news) (hm : (l, listOf vs.toArray k) ∈ news) (hm' : (b, listOf ws.toArray k') ∈ news) (hz : vs.length + ws.length ≤ 100000)
    (h : ∀ D h', Fr h₀ L h' m → News h₀ L h' ((D, listOf (vs ++ ws).toArray 0) :: news) → (∀ p ∈ news, p.1 < D) → Q (.ref D) { s with heap := h' }) : wpAny (model PG w) A (binaryOp .Add (.ref l) (.ref b)) Q E s :=
  add_lists F N ⟨_, (N _ hm).1, rfl, _, rfl⟩ ⟨_, (N _ hm').1, rfl, _, rfl⟩ (fun h' F' N' => h _ h' F' N' fun p hp => Heap.lt_size (N p hp).1) (Nat.le_trans hz (Nat.le_of_ble_eq_true rfl))
end
end Mine
end
section
open PySem PySem.W PyProof.Rows PySem.Calls PyProof.Rows.LCg
namespace Mine
inductive Lit where
  | byt (b : List UInt8)
  | str (x : Str)
  | int (n : Int)
  | non
  | tup (ds : List Lit)
  | lst (ds : List Lit)
mutual
/-- a value that is this datum, told by the ledger -/
def Den (news : Led) : Lit → Value → Prop
  | .byt b, v => ∃ t, v = .bytes b.toArray t
  | .str x, v => ∃ t, v = .str x t
  | .int n, v => ∃ t, v = .int n t
  | .non, v => v = .none
  | .tup ds, v => ∃ T vs, v = .ref T ∧ (T, tupOf vs) ∈ news ∧ DenL news ds vs
  | .lst ds, v => ∃ T vs n, v = .ref T ∧ (T, listOf (List.toArray vs) n) ∈ news ∧ DenL news ds vs
def DenL (news : Led) : List Lit → List Value → Prop
  | [], vs => vs = []
  | d :: ds, vs => ∃ v r, vs = v :: r ∧ Den news d v ∧ DenL news ds r
end
mutual
theorem Den.mono {a b : Led} (s : ∀ p ∈ a, p ∈ b) : ∀ (d : Lit) (v : Value), Den a d v → Den b d v
  | .byt _, _, h => h
  | .str _, _, h => h
  | .int _, _, h => h
  | .non, _, h => h
  | .tup ds, _, ⟨T, vs, e, hm, hd⟩ => ⟨T, vs, e, s _ hm, DenL.mono s ds vs hd⟩
  | .lst ds, _, ⟨T, vs, n, e, hm, hd⟩ => ⟨T, vs, n, e, s _ hm, DenL.mono s ds vs hd⟩
theorem DenL.mono {a b : Led} (s : ∀ p ∈ a, p ∈ b) : ∀ (ds : List Lit) (vs : List Value), DenL a ds vs → DenL b ds vs
  | [], _, h => h
  | d :: ds, _, ⟨v, r, e, h1, h2⟩ => ⟨v, r, e, Den.mono s d v h1, DenL.mono s ds r h2⟩
end
theorem DenL.length {a : Led} : ∀ (ds : List Lit) (vs : List Value), DenL a ds vs → vs.length = ds.length
  | [], _, h => by rw [h]; rfl
  | d :: ds, _, ⟨v, r, e, h1, h2⟩ => by rw [e]; exact congrArg (· + 1) (DenL.length ds r h2)
mutual
inductive LitE : Expr → Lit → Prop
  | byt (b : List UInt8) (k : Nat) (pos : Pos) : LitE (.Constant (.bytes b) k pos) (.byt b)
  | str (x : Str) (k : Nat) (pos : Pos) : LitE (.Constant (.str x) k pos) (.str x)
  | int (n : Int) (k : Nat) (pos : Pos) : LitE (.Constant (.int n) k pos) (.int n)
  | non (k : Nat) (pos : Pos) : LitE (.Constant .none k pos) .non
  | tup (es : List Expr) (ds : List Lit) (k : Nat) (pos : Pos) : LitEs es ds → ds.length ≤ 1000 → LitE (.Tuple es k pos) (.tup ds)
  | lst (es : List Expr) (ds : List Lit) (pos : Pos) : LitEs es ds → ds.length ≤ 1000 → LitE (.List es pos) (.lst ds)
inductive LitEs : List Expr → List Lit → Prop
  | nil : LitEs [] []
  | cons (e : Expr) (es : List Expr) (d : Lit) (ds : List Lit) : LitE e d → LitEs es ds → LitEs (e :: es) (d :: ds)
end
theorem LitE.star {e : Expr} {d : Lit} (h : LitE e d) (es : List Expr) (env : Env) : starEach (e :: es) env = (false, eval e env) :: starEach es env := by
  cases h <;> rfl
mutual
theorem lit_eval {w : World} {A : Around} {E : Value → Shared → Prop} {h₀ : Heap} {L : Addr} {m : Ns} {env : Env} : ∀ {e : Expr} {d : Lit}, LitE e d → ∀ {s : Shared} {news : Led} {Q : Value → Shared → Prop}, Fr h₀ L s.heap m → News h₀ L s.heap news →
    (∀ v new h' tk', (∀ p ∈ new, ∀ q ∈ news, q.1 < p.1) → Den new d v → Fr h₀ L h' m → News h₀ L h' (new ++ news) → Q v { s with heap := h', toks := tk' }) → wpAny (model PG w) A (eval e env) Q E s
  | _, _, .byt b k pos, s, news, Q, F, N, h => Constant_bytes (h _ [] s.heap _ (fun _ hp => nomatch hp) ⟨_, rfl⟩ F N)
  | _, _, .str x k pos, s, news, Q, F, N, h => wpAny_Constant_str (h _ [] s.heap _ (fun _ hp => nomatch hp) ⟨_, rfl⟩ F N)
  | _, _, .int n k pos, s, news, Q, F, N, h => wpAny_Constant_int (h _ [] s.heap _ (fun _ hp => nomatch hp) ⟨_, rfl⟩ F N)
  | _, _, .non k pos, s, news, Q, F, N, h => wpAny_Constant_none (h _ [] s.heap s.toks (fun _ hp => nomatch hp) rfl F N)
  | _, _, .tup es ds k pos hes hl, s, news, Q, F, N, h => by
    refine PyProof.Rows.Tuple_ (lits_eval hes F N fun vs new h' tk' lt hd F' N' => ?_)
    refine newTuple_M F' N' (Nat.le_trans (by rw [hd.length]; exact hl) (Nat.le_of_ble_eq_true rfl)) fun l h'' lt2 F'' N'' => ?_
    refine h _ ((l, tupOf vs) :: new) _ _ (fun p hp q hq => ?_) ⟨l, vs, rfl, .head _, DenL.mono (fun p hp => .tail _ hp) _ _ hd⟩ F'' N''
    rcases List.mem_cons.mp hp with rfl | hp
    · exact lt2 q (List.mem_append_right _ hq)
    · exact lt p hp q hq
  | _, _, .lst es ds pos hes hl, s, news, Q, F, N, h => by
    refine PyProof.Rows.List_ (lits_eval hes F N fun vs new h' tk' lt hd F' N' => ?_)
    refine newList_M F' N' (Nat.le_trans (by rw [hd.length]; exact hl) (Nat.le_of_ble_eq_true rfl)) fun l h'' lt2 F'' N'' => ?_
    refine h _ ((l, listOf (List.toArray vs) 0) :: new) _ _ (fun p hp q hq => ?_) ⟨l, vs, 0, rfl, .head _, DenL.mono (fun p hp => .tail _ hp) _ _ hd⟩ F'' N''
    rcases List.mem_cons.mp hp with rfl | hp
    · exact lt2 q (List.mem_append_right _ hq)
    · exact lt p hp q hq
theorem lits_eval {w : World} {A : Around} {E : Value → Shared → Prop} {h₀ : Heap} {L : Addr} {m : Ns} {env : Env} {pos : Pos} : ∀ {es : List Expr} {ds : List Lit}, LitEs es ds → ∀ {s : Shared} {news : Led} {Q : List Value → Shared → Prop}, Fr h₀ L s.heap m → News h₀ L s.heap news →
    (∀ vs new h' tk', (∀ p ∈ new, ∀ q ∈ news, q.1 < p.1) → DenL new ds vs → Fr h₀ L h' m → News h₀ L h' (new ++ news) → Q vs { s with heap := h', toks := tk' }) → wpAny (model PG w) A (spliced (backTo pos (starEach es env))) Q E s
  | _, _, .nil, s, news, Q, F, N, h => spliced_none (h [] [] s.heap s.toks (fun _ hp => nomatch hp) rfl F N)
  | _, _, .cons e es d ds he hes, s, news, Q, F, N, h => by
    refine spliced_more (lit_eval he F N fun v new h' tk' lt hd F' N' => ?_) (he.star es env)
    refine lits_eval hes F' N' fun vs new2 h'' tk'' lt2 hds F'' N'' => ?_
    refine h (v :: vs) (new2 ++ new) h'' tk'' (fun p hp q hq => ?_) ⟨v, vs, rfl, Den.mono (fun p hp => List.mem_append_right _ hp) _ _ hd, DenL.mono (fun p hp => List.mem_append_left _ hp) _ _ hds⟩ F'' (by rw [List.append_assoc]; exact N'')
    rcases List.mem_append.mp hp with hp | hp
    · exact lt2 p hp q (List.mem_append_right _ hq)
    · exact lt p hp q hq
end
theorem Upd.app {D : Addr} {o o' : Obj} {l l' : Led} : ∀ {new : Led}, (∀ p ∈ new, p.1 ≠ D) → Upd D o o' l l' → Upd D o o' (new ++ l) (new ++ l')
  | [], _, U => U
  | p :: r, h, U => Upd.tail (h p (.head _)) (Upd.app (fun q hq => h q (.tail _ hq)) U)
theorem Upd.app2 {D : Addr} {o o' : Obj} {l l' new : Led} (lt : ∀ p ∈ new, ∀ q ∈ l, q.1 < p.1) (U : Upd D o o' l l') : Upd D o o' (new ++ l) (new ++ l') := by
  refine Upd.app (fun p hp => ?_) U
  obtain ⟨pre, post, e, _⟩ := U.split
  exact Nat.ne_of_gt (lt p hp (D, o) (by rw [e]; exact List.mem_append_right _ (.head _)))
theorem Upd.head2 {D : Addr} {o o' : Obj} {r : Led} (lt : ∀ p ∈ r, p.1 < D) : Upd D o o' ((D, o) :: r) ((D, o') :: r) := Upd.head fun p hp => Nat.ne_of_lt (lt p hp)
theorem DenL.append {a : Led} : ∀ {ds es : List Lit} {vs us : List Value}, DenL a ds vs → DenL a es us → DenL a (ds ++ es) (vs ++ us)
  | [], _, _, _, h, k => by rw [show _ = _ from h]; exact k
  | _ :: _, _, _, _, ⟨v, r, e, h1, h2⟩, k => by rw [e]; exact ⟨v, _, rfl, h1, DenL.append h2 k⟩
theorem app_l {w : World} {A : Around} {E : Value → Shared → Prop} {s : Shared} {h₀ : Heap} {L D : Addr} {m : Ns} {news news' : Led} {vs : List Value} {n : Nat} {x : Value} {Q : Value → Shared → Prop} (F : Fr h₀ L s.heap m) (N : News h₀ L s.heap news)
    (U : Upd D (listOf vs.toArray n) (listOf (vs ++ [x]).toArray (n + 1)) news news') (hz : vs.length ≤ 100000)
    (h : ∀ h', Fr h₀ L h' m → News h₀ L h' news' → Q .none { s with heap := h' }) : wpAny (model PG w) A (call (.builtin "list.append") [.ref D, x]) Q E s :=
  append_K F N (its := vs.toArray) (by rw [List.push_toArray]; exact U) h (by rw [List.size_toArray]; exact Nat.le_trans hz (Nat.le_of_ble_eq_true rfl))
theorem Upd.app3 {D : Addr} {o o' o₀ : Obj} {l l' l₀ new : Led} (lt : ∀ p ∈ new, ∀ q ∈ l₀, q.1 < p.1) (hm : (D, o₀) ∈ l₀) (U : Upd D o o' l l') : Upd D o o' (new ++ l) (new ++ l') :=
  Upd.app (fun p hp => Nat.ne_of_gt (lt p hp (D, o₀) hm)) U
theorem DenL.one {a : Led} {d : Lit} {v : Value} (h : Den a d v) : DenL a [d] [v] := ⟨v, [], rfl, h, rfl⟩
theorem DenL.cast {a : Led} {ds ds' : List Lit} {vs : List Value} (e : ds = ds') (h : DenL a ds vs) : DenL a ds' vs := e ▸ h
theorem lit_list {w : World} {A : Around} {E : Value → Shared → Prop} {h₀ : Heap} {L : Addr} {m : Ns} {env : Env} {es : List Expr} {ds : List Lit} {pos : Pos} (hes : LitEs es ds) (hl : ds.length ≤ 1000) {s : Shared} {news : Led} {Q : Value → Shared → Prop} (F : Fr h₀ L s.heap m) (N : News h₀ L s.heap news)
    (h : ∀ l vs new h' tk', (∀ p ∈ new, ∀ q ∈ news, q.1 < p.1) → (∀ p ∈ new ++ news, p.1 < l) → DenL new ds vs → vs.length = ds.length → Fr h₀ L h' m → News h₀ L h' ((l, listOf (List.toArray vs) 0) :: (new ++ news)) → Q (.ref l) { s with heap := h', toks := tk' }) : wpAny (model PG w) A (eval (.List es pos) env) Q E s := by
  refine PyProof.Rows.List_ (lits_eval hes F N fun vs new h' tk' lt hd F' N' => ?_)
  refine newList_M F' N' (Nat.le_trans (by rw [hd.length]; exact hl) (Nat.le_of_ble_eq_true rfl)) fun l h'' lt2 F'' N'' => ?_
  exact h l vs new h'' tk' lt lt2 hd (hd.length) F'' N''
end Mine
end
section
open PySem PySem.W PyProof.Rows PySem.Calls PyProof.Rows.LCg PySem.Spec
namespace Mine
theorem reads_bools (h : Heap) : ∀ bs : List Bool, ∃ as, ReadsAll h (bs.map Value.bool) (bs.map PyData.bool) as
  | [] => ⟨_, .nil⟩
  | b :: r => let ⟨_, q⟩ := reads_bools h r; ⟨_, .cons (.bool b) q⟩
theorem bools_lay : ∀ bs : List Bool, PyData.canLayAll0 (bs.map PyData.bool) = true ∧ PyData.depthAll (bs.map PyData.bool) ≤ 1
  | [] => ⟨rfl, Nat.zero_le _⟩
  | b :: r => by
    obtain ⟨h1, h2⟩ := bools_lay r
    refine ⟨?_, ?_⟩
    · simp only [List.map_cons, PyData.canLayAll0, PyData.canLay0, h1, Bool.and_self]
    · simp only [List.map_cons, PyData.depthAll, PyData.depth]
      omega
theorem bools_any (b : Bool) : ∀ bs : List Bool, ((bs.map PyData.bool).any fun y => PyData.eqv y (.bool b)) = decide (b ∈ bs)
  | [] => rfl
  | c :: r => by
    rw [List.map_cons, List.any_cons, bools_any b r]
    have : PyData.eqv (.bool c) (.bool b) = (c == b) := rfl
    rw [this]
    cases b <;> cases c <;> simp
theorem in_bools {w : World} {A : Around} {E : Value → Shared → Prop} {s : Shared} {h₀ : Heap} {L D : Addr} {news : Led} {bs : List Bool} {b : Bool} {n : Nat} {Q : Value → Shared → Prop} (N : News h₀ L s.heap news) (hm : (D, listOf (bs.map Value.bool).toArray n) ∈ news) (hu : A.units + 64 < cLine)
    (h : Q (.bool (decide (b ∈ bs))) s) : wpAny (model PG w) A (compareOp .In (.bool b) (.ref D)) Q E s := by
  obtain ⟨as, q⟩ := reads_bools s.heap bs
  obtain ⟨l1, l2⟩ := bools_lay bs
  refine SeqAt.in_list_reads (xs := bs.map PyData.bool) (d := .bool b) (reads_list_at (N _ hm).1 rfl rfl (by simpa using q)) (Reads.bool b) l1 rfl ?_ (by rw [bools_any]; exact h)
  have := Nat.min_le_left (PyData.depthAll (bs.map PyData.bool)) (PyData.bool b).depth
  omega
/-- the ledger but for what lies at d -/
def wo (d : Addr) (l : Led) : Led := l.filter fun p => !decide (p.1 = d)
theorem mem_wo {d : Addr} {l : Led} {p : Addr × Obj} : p ∈ wo d l ↔ p ∈ l ∧ p.1 ≠ d := by
  unfold wo
  rw [List.mem_filter]
  simp
theorem wo_off {d : Addr} {l : Led} : ∀ p ∈ wo d l, p.1 ≠ d := fun _ h => (mem_wo.mp h).2
theorem News.pull {h₀ h : Heap} {L d : Addr} {o : Obj} {l : Led} (N : News h₀ L h l) (hm : (d, o) ∈ l) : News h₀ L h ((d, o) :: wo d l) := fun p hp => by
  rcases List.mem_cons.mp hp with rfl | hp
  · exact N _ hm
  · exact N _ (mem_wo.mp hp).1
theorem led_less {h₀ h : Heap} {L : Addr} {a b : Led} (N : News h₀ L h b) (s : ∀ p ∈ a, p ∈ b) : News h₀ L h a := fun p hp => N p (s p hp)
/-- a ledger tells of each address one thing -/
theorem News.fun {h₀ h : Heap} {L : Addr} {l : Led} (N : News h₀ L h l) {a b : Addr} {o o' : Obj} (ha : (a, o) ∈ l) (hb : (b, o') ∈ l) (hn : o ≠ o') : a ≠ b := by
  rintro rfl
  exact hn (Option.some.inj ((N _ ha).1.symm.trans (N _ hb).1))
section
variable {w : World} {A : Around} {E : Value → Shared → Prop} {s : Shared} {h₀ : Heap} {L D : Addr} {m : Ns} {news : Led}
theorem app_f {vs : List Value} {n : Nat} {x : Value} {Q : Value → Shared → Prop} (F : Fr h₀ L s.heap m) (N : News h₀ L s.heap news) (hm : (D, listOf vs.toArray n) ∈ news) (hz : vs.length ≤ 100000)
    (h : ∀ h', Fr h₀ L h' m → News h₀ L h' ((D, listOf (vs ++ [x]).toArray (n + 1)) :: wo D news) → Q .none { s with heap := h' }) : wpAny (model PG w) A (call (.builtin "list.append") [.ref D, x]) Q E s :=
  app_l F (News.pull N hm) (Upd.head wo_off) hz h
theorem set_f {vs : List Value} {n i : Nat} {u : Tok} {v : Value} {Q : Unit → Shared → Prop} (F : Fr h₀ L s.heap m) (N : News h₀ L s.heap news) (hm : (D, listOf vs.toArray n) ∈ news) (hi : i < vs.length) (hb : i < 100000)
    (h : ∀ h', Fr h₀ L h' m → News h₀ L h' ((D, listOf (vs.set i v).toArray n) :: wo D news) → Q () { s with heap := h' }) :
    wpAny (model PG w) A (setItem (.ref D) (.int (i : Int) u) v) Q E s :=
  set_nat F (News.pull N hm) hi hb (Upd.head wo_off) h
theorem cell_f {x : Str} {c : Addr} {o : Obj} {v₀ : Option Value} {v : Value} {a : Addr} {cn : Str} {cs : Scope} {ccd : Value} {cl : List (Str × Addr)} {Q : Unit → Shared → Prop} (F : Fr h₀ L s.heap m) (N : News h₀ L s.heap news) (hc : cl.lookup x = some c) (hm : (c, o) ∈ news) (hd : o.data = .cell v₀)
    (h : ∀ h' o', Fr h₀ L h' m → News h₀ L h' ((c, o') :: wo c news) → o'.data = .cell (some v) → Q () { s with heap := h' })
    (hk : cs.kind = .function := by rfl) (hx : (envX cn cs L a ccd cl).kindOf x = some .cell := by rfl) : wpAny (model PG w) A (storeName (envX cn cs L a ccd cl) x v) Q E s :=
  storeX_C F (News.pull N hm) hc (UpdF.head wo_off) hd h hk hx
/-- an empty list display -/
theorem list_nil {env : Env} {pos : Pos} {Q : Value → Shared → Prop} (F : Fr h₀ L s.heap m) (N : News h₀ L s.heap news)
    (h : ∀ l h', (∀ p ∈ news, p.1 < l) → Fr h₀ L h' m → News h₀ L h' ((l, listOf #[] 0) :: news) → Q (.ref l) { s with heap := h' }) : wpAny (model PG w) A (eval (.List [] pos) env) Q E s :=
  PyProof.Rows.List_ (spliced_none (newList_M (vs := []) F N (Nat.zero_le _) h))
end
end Mine
end
section
open PySem PySem.W PyProof.Rows PySem.Calls PyProof.Rows.LCg
namespace Mine
section
variable {w : World} {A : Around} {s : Shared} {h₀ : Heap} {L : Addr} {m : Ns} {news : Led} {E : Value → Shared → Prop}
/-- the variables of a comprehension whose one name is a cell -/
theorem fnEnv_one {scope : Scope} {x : Str} {cl : List (Str × Addr)} {globals : Addr} {qual : Str} {outer : Env} {Q : Env → Shared → Prop} (hcf : ∀ n, cellsFrom n scope.names cl = (x, n) :: cl)
    (hpc : ∀ h : Heap, pushCells h scope.names = h.push { cls := .type "cell", data := .cell none })
    (h : Q (newEnv scope s.heap.objs.size globals ((x, s.heap.objs.size + 1) :: cl) qual none .none (some outer) builtinsNs) { s with heap := (s.heap.push { cls := .type "dict", data := .dict #[] }).push { cls := .type "cell", data := .cell none } }) :
    wpAny (model PG w) A (newFunctionEnv scope globals cl [] qual none .none (some outer)) Q E s := by
  simp only [newFunctionEnv, Option.isSome_some, if_true]
  refine wpAny_bind (wpAny_alloc ?_)
  refine wpAny_bind (wpAny_layCells _ (fun name kind cells => by cases hkc : kind == NameKind.cell <;> simp [hkc]) _ _ _ _ ?_)
  rw [show ({ s with heap := s.heap.push { cls := .type "dict", data := .dict #[] } } : Shared).heap.objs.size = s.heap.objs.size + 1 from Heap.size_push ..]
  rw [hcf, hpc]
  refine wpAny_bind ?_
  rw [List.forIn_nil]
  exact wpAny_pure (wpAny_pure h)
structure CompKOK (w : World) (A : Around) (h₀ : Heap) (L : Addr) (m : Ns) (env : Env) (elt : Expr) (x : Str) (ifs : List Expr) (scope : Scope) (cl : List (Str × Addr)) (s₂ : Shared) (n : Nat) (P : Nat → Value → Prop) (keep : Led) (news : Led)
    (J : Nat → List Value → Led → Prop) : Prop where
  keeps : ∀ i ys nw, J i ys nw → ∀ p ∈ keep, p ∈ nw
  zero : J 0 [] news
  size : n ≤ sizeLine
  turn : ∀ i v ys news₁ I oI C oC D K oK h tk (E' : Value → Shared → Prop), i < n → P i v → J i ys news₁ → ys.length ≤ i → oK.data = .cell (some v) → Fr h₀ L h m → News h₀ L h ((I, oI) :: (C, oC) :: (D, lst ys) :: (K, oK) :: news₁) → (∀ p ∈ news₁, p.1 ≠ I ∧ p.1 ≠ C ∧ p.1 ≠ D ∧ p.1 ≠ K) →
      ((@Ne Nat I C) ∧ (@Ne Nat I D) ∧ (@Ne Nat C D) ∧ (@Ne Nat K I) ∧ (@Ne Nat K C) ∧ (@Ne Nat K D)) →
    wpAny (model PG w) A (tests ifs (compEnvC scope ((x, K) :: cl) C env)) (fun ok s₃ => if ok = true then
        wpAny (model PG w) A (eval elt (compEnvC scope ((x, K) :: cl) C env)) (CEnd h₀ L m { s₂ with heap := h, toks := tk } I oI C oC D (lst ys) (fun y nw => ∃ nw1, nw = (K, oK) :: nw1 ∧ (∀ p ∈ nw1, p.1 ≠ K) ∧ J (i + 1) (ys ++ [y]) nw1)) E' s₃
      else CEnd h₀ L m { s₂ with heap := h, toks := tk } I oI C oC D (lst ys) (fun _ nw => ∃ nw1, nw = (K, oK) :: nw1 ∧ (∀ p ∈ nw1, p.1 ≠ K) ∧ J (i + 1) ys nw1) .none s₃) E' { s₂ with heap := h, toks := tk }
theorem comp_blockK {elt iter : Expr} {x : Str} {px : Pos} {ifs : List Expr} {scope : Scope} {cl : List (Str × Addr)} {pos : Pos} {env : Env} {s₁ s₂ : Shared} {o : Obj} {fp : List Addr} {n : Nat} {P : Nat → Value → Prop} {St : Nat → Heap → Prop} {keep : Led} {J : Nat → List Value → Led → Prop}
    {RR : Value → Addr → Result → Shared → Prop} (hs₂ : s₂ = { s₁ with heap := s₁.heap.push o })
    (W : Walks PG w A s₁.heap.objs.size fp [s₁.heap.objs.size] n P St) (hfp : ∀ b ∈ fp, b = s₁.heap.objs.size ∨ (∃ q, h₀.get? b = some q) ∨ ∃ q, (b, q) ∈ keep)
    (hobj : ∀ i h, St i h → ∃ o, h.get? s₁.heap.objs.size = some o)
    (hgo : ∀ target i v (s' : Shared) (Q' : Unit → Shared → Prop) (E' : Value → Shared → Prop), St i s'.heap → Q' () s' → wpAny (model PG w) A (letOwnedTupleGo target (.ref s₁.heap.objs.size) v) Q' E' s')
    (hst : St 0 (s₁.heap.push o)) (F : Fr h₀ L s₁.heap m) (N : News h₀ L s₁.heap news)
    (hcf : ∀ n, cellsFrom n scope.names cl = (x, n) :: cl) (hpc : ∀ h : Heap, pushCells h scope.names = h.push { cls := .type "cell", data := .cell none }) (hkind : scope.kind = .function)
    (hbi : env.builtins = builtinsNs) (hx : ∀ K C, (compEnvC scope ((x, K) :: cl) C env).kindOf x = some .cell)
    (OK : ∀ s₂, CompKOK w A h₀ L m env elt x ifs scope cl s₂ n P keep news J)
    (hRR : ∀ D C h tk m' ys news', J n ys news' → Fr h₀ L h m → News h₀ L h ((D, lst ys) :: news') → (∀ p ∈ news', p.1 ≠ D) → h.Ns C m' → h₀.get? C = none → h₀.get? D = none → C ≠ L → D ≠ L → C ≠ D → (∀ p ∈ news', p.1 ≠ C) → (∀ p ∈ news, p.1 < D) → RR (.ref D) C (.ok .next) { s₁ with heap := h, toks := tk }) :
    wpAny (model PG w) A (newList []) (fun acc s₃ => wpAny (model PG w) A (newFunctionEnv scope env.globals cl [] env.qual none .none (some env)) (fun cenv s₄ =>
      codeAny (model PG w) A (.compStart (.ListComp elt [⟨.Name x px, iter, ifs, 0⟩] scope pos) 0 (.ref s₁.heap.objs.size) acc { cenv with scope := relabel scope env }) (RR acc cenv.locals) s₄) E s₃) E s₂ := by
  have F₂ : Fr h₀ L s₂.heap m := by rw [hs₂]; exact F.push _
  have N₂ : News h₀ L s₂.heap news := by rw [hs₂]; exact fun p hp => ⟨Heap.get?_push_of_some _ (N p hp).1, (N p hp).2⟩
  have hI₀ : h₀.get? s₁.heap.objs.size = none := next_is_new F
  have hsz₂ : s₂.heap.objs.size = s₁.heap.objs.size + 1 := by rw [hs₂]; exact Heap.size_push _ _
  have hst : St 0 s₂.heap := by rw [hs₂]; exact hst
  have offI : ∀ p ∈ news, p.1 ≠ s₁.heap.objs.size := fun p hp => Nat.ne_of_lt (Heap.lt_size (N p hp).1)
  have hIL : L ≠ s₁.heap.objs.size := Nat.ne_of_lt F.ns.lt
  have RRs : ∀ D C h tk m' ys news', J n ys news' → Fr h₀ L h m → News h₀ L h ((D, lst ys) :: news') → (∀ p ∈ news', p.1 ≠ D) → h.Ns C m' → h₀.get? C = none → h₀.get? D = none → C ≠ L → D ≠ L → C ≠ D → (∀ p ∈ news', p.1 ≠ C) → (∀ p ∈ news, p.1 < D) → RR (.ref D) C (.ok .next) { s₂ with heap := h, toks := tk } := by
    rw [hs₂]; exact hRR
  clear hRR
  have OK := OK s₂
  have hfp₂ : ∀ b ∈ fp, b < s₂.heap.objs.size := fun b hb => by
    rw [hsz₂]
    rcases hfp b hb with e | ⟨q, e⟩ | ⟨q, e⟩
    · rw [e]; exact Nat.lt_succ_self _
    · exact Nat.lt_succ_of_lt (Heap.lt_size (F.keep _ _ e))
    · exact Nat.lt_succ_of_lt (Heap.lt_size (N _ (OK.keeps _ _ _ OK.zero _ e)).1)
  generalize hI : s₁.heap.objs.size = I at *
  refine wpAny_newObj_type (fnEnv_one hcf hpc ?_)
  dsimp only
  generalize hH2 : s₂.heap.push { cls := .type "list", dict := none, data := .seq ([] : List Value).toArray } = H2
  have hC : H2.objs.size = s₂.heap.objs.size + 1 := by rw [← hH2, Heap.size_push]
  generalize hh₁ : (H2.push { cls := .type "dict", data := .dict #[] }).push { cls := .type "cell", data := .cell none } = h₁
  have hK : H2.objs.size + 1 = s₂.heap.objs.size + 1 + 1 := by rw [hC]
  have hDC : s₂.heap.objs.size ≠ H2.objs.size := by rw [hC]; exact Nat.ne_of_lt (Nat.lt_succ_self _)
  have hDK : s₂.heap.objs.size ≠ H2.objs.size + 1 := by rw [hC]; exact Nat.ne_of_lt (Nat.lt_succ_of_lt (Nat.lt_succ_self _))
  have hCK : H2.objs.size ≠ H2.objs.size + 1 := Nat.ne_of_lt (Nat.lt_succ_self _)
  have below : ∀ b, b < s₂.heap.objs.size → b ≠ H2.objs.size ∧ b ≠ s₂.heap.objs.size ∧ b ≠ H2.objs.size + 1 := fun b hb => ⟨by rw [hC]; exact Nat.ne_of_lt (Nat.lt_succ_of_lt hb), Nat.ne_of_lt hb, by rw [hC]; exact Nat.ne_of_lt (Nat.lt_succ_of_lt (Nat.lt_succ_of_lt hb))⟩
  have hDf : s₂.heap.objs.size ∉ fp := fun hm => Nat.lt_irrefl _ (hfp₂ _ hm)
  have hKf : H2.objs.size + 1 ∉ fp := fun hm => by have := hfp₂ _ hm; rw [hC] at this; exact Nat.lt_irrefl _ (Nat.lt_of_succ_lt (Nat.lt_of_succ_lt this))
  have hIf : I ∈ fp := W.sub I (List.mem_singleton.mpr rfl)
  have hIlt : I < s₂.heap.objs.size := hfp₂ I hIf
  have push2 : ∀ b o, H2.get? b = some o → h₁.get? b = some o := fun b o e => by rw [← hh₁]; exact Heap.get?_push_of_some _ (Heap.get?_push_of_some _ e)
  have old : ∀ b o, s₂.heap.get? b = some o → h₁.get? b = some o := fun b o e => push2 b o (hH2 ▸ Heap.get?_push_of_some _ e)
  have hacc : h₁.get? s₂.heap.objs.size = some (lst []) := push2 _ _ (hH2 ▸ Heap.get?_push_size _ rfl)
  have hns₁ : h₁.Ns H2.objs.size (fun _ => none) := by
    rw [← hh₁]
    exact (Heap.Ns.new H2 (.type "dict")).keeps (fun b o e => Heap.get?_push_of_some _ e)
  have hcell₁ : ∃ oK : Obj, h₁.get? (H2.objs.size + 1) = some oK ∧ oK.data = .cell none := by
    refine ⟨{ cls := .type "cell", data := .cell none }, ?_, rfl⟩
    rw [← hh₁]
    have := Heap.get?_push_size (o := { cls := .type "cell", data := .cell none }) (H2.push { cls := .type "dict", data := .dict #[] }) rfl
    rw [Heap.size_push] at this
    exact this
  have hst₁ : St 0 h₁ := W.frame _ _ _ hst fun b _ o e => old b o e
  have fresh : ∀ a, s₂.heap.objs.size ≤ a → s₂.heap.get? a = none := fun a ha => by
    cases e : s₂.heap.get? a with
    | none => rfl
    | some o' => exact absurd (Heap.lt_size e) (Nat.not_lt.mpr ha)
  have fresh₀ : ∀ a, s₂.heap.objs.size ≤ a → h₀.get? a = none := fun a ha => by
    cases e : h₀.get? a with
    | none => rfl
    | some o' => have := F₂.keep a o' e; rw [fresh a ha] at this; cases this
  have hD₀ : h₀.get? s₂.heap.objs.size = none := fresh₀ _ (Nat.le_refl _)
  have hC₀ : h₀.get? H2.objs.size = none := fresh₀ _ (by rw [hC]; exact Nat.le_succ _)
  have hK₀ : h₀.get? (H2.objs.size + 1) = none := fresh₀ _ (by rw [hC]; exact Nat.le_succ_of_le (Nat.le_succ _))
  have hLlt : L < s₂.heap.objs.size := F₂.ns.lt
  have hDL : s₂.heap.objs.size ≠ L := Ne.symm (below L hLlt).2.1
  have hCL : H2.objs.size ≠ L := Ne.symm (below L hLlt).1
  have hKL : H2.objs.size + 1 ≠ L := Ne.symm (below L hLlt).2.2
  have hCI : I ≠ H2.objs.size := (below I hIlt).1
  have hDI : I ≠ s₂.heap.objs.size := (below I hIlt).2.1
  have hKI : I ≠ H2.objs.size + 1 := (below I hIlt).2.2
  have off₀ : ∀ p ∈ news, p.1 ≠ I ∧ p.1 ≠ H2.objs.size ∧ p.1 ≠ s₂.heap.objs.size ∧ p.1 ≠ H2.objs.size + 1 := fun p hp => by
    have := below _ (Heap.lt_size (N₂ p hp).1)
    exact ⟨offI p hp, this.1, this.2.1, this.2.2⟩
  generalize hKe : H2.objs.size + 1 = K at *
  have loop : ∀ s₃ : Shared, s₃ = { s₂ with heap := h₁ } →
      codeAny (model PG w) A (.compLoop (.ListComp elt [⟨.Name x px, iter, ifs, 0⟩] scope pos) 0 (.ref I) (.ref s₂.heap.objs.size) (compEnvC scope ((x, K) :: cl) H2.objs.size env))
        (RR (.ref s₂.heap.objs.size) H2.objs.size) s₃ := by
    rintro s₃ rfl
    refine comp_loopG
      (fun k s' => ∃ h' tk i ys m' oK vK news', s' = { s₂ with heap := h', toks := tk } ∧ i ≤ n ∧ k = n + 1 - i ∧ ys.length ≤ i ∧ St i h' ∧ Fr h₀ L h' m ∧ h'.Ns H2.objs.size m' ∧ h'.get? K = some oK ∧ oK.data = .cell vK ∧ News h₀ L h' ((s₂.heap.objs.size, lst ys) :: news') ∧
        (∀ p ∈ news', p.1 ≠ I ∧ p.1 ≠ H2.objs.size ∧ p.1 ≠ s₂.heap.objs.size ∧ p.1 ≠ K) ∧ J i ys news') ?_ (n + 1) ?_
    · rintro k s' ⟨h', tk, i, ys, m', oK0, vK, news', rfl, hi, rfl, hyl, hst', F', hn', hK', hKd, N', off', hJ'⟩
      by_cases hlt : i < n
      · refine W.item i _ _ _ hlt hst' fun v h₂ tk₂ hPv hst₂ hk₂ => ?_
        refine hgo _ _ _ _ _ _ hst₂ ?_
        have N₂ : News h₀ L h₂ ((s₂.heap.objs.size, lst ys) :: news') := news_but N' hk₂ fun p hp => by
          rcases List.mem_cons.mp hp with rfl | hp
          · exact Ne.symm hDI
          · exact (off' p hp).1
        have hK₂ : h₂.get? K = some oK0 := hk₂ _ _ (by simpa using Ne.symm hKI) hK'
        refine wpAny_assign_Name (wpAny_storeName_cell (c := K) hkind (hx K _) (by simp [compEnvC]) ⟨oK0, hK₂, hKd⟩ fun h₃ hv₃ hsb₃ => ?_)
        obtain ⟨oK, heK, hdK⟩ := hv₃
        have hs₃ : ∀ b o, b ≠ K → h₂.get? b = some o → h₃.get? b = some o := fun b o hb e => hsb₃.extBut b o hb e
        have hst₃ : St (i + 1) h₃ := W.frame _ _ _ hst₂ fun b hb o e => hs₃ b o (fun q => hKf (by have q' : b = K := q; rw [← q']; exact hb)) e
        obtain ⟨oI, heI⟩ := hobj _ _ hst₃
        have hn₃ : h₃.Ns H2.objs.size m' := (hn'.at' fun o e => hk₂ _ o (by simpa using Ne.symm hCI) e).at' fun o e => hs₃ _ o hCK e
        obtain ⟨oC, heC, hoC⟩ := ns_obj hn₃
        have F₂' : Fr h₀ L h₂ m := fr_but F' hk₂ hIL hI₀
        have F₃ : Fr h₀ L h₃ m := ⟨F₂'.ns.at' fun o e => hs₃ L o (Ne.symm hKL) e, fun b o e => hs₃ b o (fun q => by have q' : b = K := q; rw [q', hK₀] at e; cases e) (F₂'.keep b o e), F₂'.above⟩
        have N₃ : News h₀ L h₃ ((I, oI) :: (H2.objs.size, oC) :: (s₂.heap.objs.size, lst ys) :: (K, oK) :: news') := fun p hp => by
          rcases List.mem_cons.mp hp with rfl | hp
          · exact ⟨heI, Ne.symm hIL, hI₀⟩
          rcases List.mem_cons.mp hp with rfl | hp
          · exact ⟨heC, hCL, hC₀⟩
          rcases List.mem_cons.mp hp with rfl | hp
          · have z := N₂ _ (List.mem_cons_self ..)
            exact ⟨hs₃ _ _ hDK z.1, z.2⟩
          rcases List.mem_cons.mp hp with rfl | hp
          · exact ⟨heK, hKL, hK₀⟩
          · have z := N₂ p (List.mem_cons_of_mem _ hp)
            exact ⟨hs₃ _ _ (off' p hp).2.2.2 z.1, z.2⟩
        have stand : ∀ (h₄ : Heap) (news₄ : Led), Fr h₀ L h₄ m → News h₀ L h₄ ((I, oI) :: (H2.objs.size, oC) :: (s₂.heap.objs.size, lst ys) :: news₄) → (∀ p ∈ keep, p ∈ news₄) → St (i + 1) h₄ := fun h₄ news₄ F₄ N₄ hk₄ => by
          refine W.frame _ _ _ hst₃ fun b hb o e => ?_
          rcases hfp b hb with e' | ⟨q, e'⟩ | ⟨q, e'⟩
          · subst e'
            rw [heI] at e
            rw [← e]
            exact (N₄ (b, oI) List.mem_cons_self).1
          · have := F₃.keep _ _ e'
            rw [this] at e
            rw [← e]
            exact F₄.keep _ _ e'
          · have h1 := (N₃ (b, q) (List.mem_cons_of_mem _ (List.mem_cons_of_mem _ (List.mem_cons_of_mem _ (List.mem_cons_of_mem _ (OK.keeps _ _ _ hJ' _ e')))))).1
            rw [h1] at e
            rw [← e]
            exact (N₄ (b, q) (List.mem_cons_of_mem _ (List.mem_cons_of_mem _ (List.mem_cons_of_mem _ (hk₄ _ e'))))).1
        refine wpAny_mono (OK.turn i v ys news' I oI H2.objs.size oC s₂.heap.objs.size K oK h₃ _ _ hlt hPv hJ' hyl hdK F₃ N₃ off' ⟨hCI, hDI, Ne.symm hDC, Ne.symm hKI, Ne.symm hCK, Ne.symm hDK⟩) (fun ok s₄ h₄ => ?_) fun _ _ e => e
        cases ok with
        | true =>
          simp only [if_true] at h₄ ⊢
          refine wpAny_mono h₄ (fun y s₅ h₅ => ?_) fun _ _ e => e
          obtain ⟨h₄, tk₄, news₄, rfl, F₄, N₄, off₄, nw1, rfl, offK, hJ₄⟩ := h₅
          have zC := (N₄ (H2.objs.size, oC) (List.mem_cons_of_mem _ List.mem_cons_self)).1
          have zD := (N₄ (s₂.heap.objs.size, lst ys) (List.mem_cons_of_mem _ (List.mem_cons_of_mem _ List.mem_cons_self))).1
          have zK := (N₄ (K, oK) (List.mem_cons_of_mem _ (List.mem_cons_of_mem _ (List.mem_cons_of_mem _ List.mem_cons_self)))).1
          have N₄' : News h₀ L h₄ nw1 := fun p hp => N₄ p (List.mem_cons_of_mem _ (List.mem_cons_of_mem _ (List.mem_cons_of_mem _ (List.mem_cons_of_mem _ hp))))
          have hst₄ := stand h₄ _ F₄ N₄ (fun p hp => List.mem_cons_of_mem _ (OK.keeps _ _ _ hJ₄ p hp))
          refine append_at (hsz := by show ys.toArray.size ≤ sizeLine; rw [List.size_toArray]; exact Nat.le_trans (Nat.le_trans hyl hi) OK.size) zD fun h₅ hs₅ hD₅ => ?_
          refine ⟨n + 1 - (i + 1), by omega, h₅, tk₄, i + 1, ys ++ [y], _, oK, _, nw1, rfl, hlt, rfl, by rw [List.length_append, List.length_singleton]; exact Nat.succ_le_succ hyl, W.frame _ _ _ hst₄ fun b hb o e => hs₅.extBut b o (fun q => hDf (q ▸ hb)) e, F₄.change hs₅ hDL hD₀,
            (hoC.ns zC).sameBut hs₅ (Ne.symm hDC), hs₅.extBut _ _ (Ne.symm hDK) zK, hdK, fun p hp => ?_, fun p hp => ⟨(off₄ p (.tail _ hp)).1, (off₄ p (.tail _ hp)).2.1, (off₄ p (.tail _ hp)).2.2, offK p hp⟩, hJ₄⟩
          rcases List.mem_cons.mp hp with rfl | hp
          · exact ⟨hD₅.trans (congrArg some (lst_snoc ys y)), hDL, hD₀⟩
          · exact ⟨hs₅.extBut _ _ (off₄ p (.tail _ hp)).2.2 (N₄' p hp).1, (N₄' p hp).2⟩
        | false =>
          simp only [Bool.false_eq_true, if_false] at h₄ ⊢
          obtain ⟨h₅, tk₄, news₄, rfl, F₄, N₄, off₄, nw1, rfl, offK, hJ₄⟩ := h₄
          have zC := (N₄ (H2.objs.size, oC) (List.mem_cons_of_mem _ List.mem_cons_self)).1
          have zK := (N₄ (K, oK) (List.mem_cons_of_mem _ (List.mem_cons_of_mem _ (List.mem_cons_of_mem _ List.mem_cons_self)))).1
          have hst₄ := stand h₅ _ F₄ N₄ (fun p hp => List.mem_cons_of_mem _ (OK.keeps _ _ _ hJ₄ p hp))
          exact ⟨n + 1 - (i + 1), by omega, h₅, tk₄, i + 1, ys, _, oK, _, nw1, rfl, hlt, rfl, Nat.le_succ_of_le hyl, hst₄, F₄, hoC.ns zC, zK, hdK, fun p hp => by
            rcases List.mem_cons.mp hp with rfl | hp
            · exact N₄ _ (List.mem_cons_of_mem _ (List.mem_cons_of_mem _ List.mem_cons_self))
            · exact N₄ p (List.mem_cons_of_mem _ (List.mem_cons_of_mem _ (List.mem_cons_of_mem _ (List.mem_cons_of_mem _ hp)))), fun p hp => ⟨(off₄ p (.tail _ hp)).1, (off₄ p (.tail _ hp)).2.1, (off₄ p (.tail _ hp)).2.2, offK p hp⟩, hJ₄⟩
      · obtain rfl : i = n := Nat.le_antisymm hi (Nat.not_lt.mp hlt)
        refine W.done _ _ _ hst' fun h₂ tk₂ hk₂ => ?_
        exact RRs _ _ h₂ tk₂ _ ys news' hJ' (fr_but F' hk₂ hIL hI₀) (news_but N' hk₂ fun p hp => by
          rcases List.mem_cons.mp hp with rfl | hp
          · exact Ne.symm hDI
          · exact (off' p hp).1) (fun p hp => (off' p hp).2.2.1) (hn'.at' fun o e => hk₂ _ o (by simpa using Ne.symm hCI) e) hC₀ hD₀ hCL hDL (Ne.symm hDC) (fun p hp => (off' p hp).2.1) (fun p hp => Heap.lt_size (N₂ p hp).1)
    · obtain ⟨oK, hoK, hoKd⟩ := hcell₁
      refine ⟨h₁, _, 0, [], _, oK, _, news, rfl, Nat.zero_le _, rfl, Nat.le_refl _, hst₁, F₂.keeps old, hns₁, hoK, hoKd, fun p hp => ?_, off₀, OK.zero⟩
      rcases List.mem_cons.mp hp with rfl | hp
      · exact ⟨hacc, hDL, hD₀⟩
      · exact ⟨old _ _ (N₂ p hp).1, (N₂ p hp).2⟩
  have e : ({ (newEnv scope H2.objs.size env.globals ((x, K) :: cl) env.qual none .none (some env) builtinsNs) with scope := relabel scope env } : Env) = compEnvC scope ((x, K) :: cl) H2.objs.size env := rfl
  rw [e]
  exact codeAny_compStart_list (loop _ rfl) (W.self 0 _ _ _ hst₁ (loop _ rfl))
/-- as CompAt, for a comprehension whose one name is a cell -/
inductive CompKAt (w : World) (A : Around) (h₀ : Heap) (L : Addr) (m : Ns) (env : Env) (elt : Expr) (x : Str) (ifs : List Expr) (scope : Scope) (cl : List (Str × Addr)) (m' : Addr → Ns) (Q : Addr → Shared → Prop) (xv : Value) (s₁ : Shared) : Prop
  | intro (n : Nat) (P : Nat → Value → Prop) (keep news : Led) (J : Nat → List Value → Led → Prop) (src : Src w A h₀ xv n P keep s₁) (fr : Fr h₀ L s₁.heap m) (nws : News h₀ L s₁.heap news)
    (ok : ∀ s₂, CompKOK w A h₀ L m env elt x ifs scope cl s₂ n P keep news J) (done : ∀ D h tk ys news', J n ys news' → Fr h₀ L h (m' D) → News h₀ L h ((D, lst ys) :: news') → (∀ p ∈ news', p.1 ≠ D) → (∀ p ∈ news, p.1 < D) → Q D { s₁ with heap := h, toks := tk }) : CompKAt w A h₀ L m env elt x ifs scope cl m' Q xv s₁
theorem comp_evalK {elt iter : Expr} {x : Str} {px : Pos} {ifs : List Expr} {scope : Scope} {cl : List (Str × Addr)} {pos : Pos} {env : Env} {Q : Value → Shared → Prop} (_F : Fr h₀ L s.heap m)
    (hclos : closureFor scope env = pure cl) (hcf : ∀ n, cellsFrom n scope.names cl = (x, n) :: cl) (hpc : ∀ h : Heap, pushCells h scope.names = h.push { cls := .type "cell", data := .cell none }) (hkind : scope.kind = .function)
    (hbi : env.builtins = builtinsNs) (hx : ∀ K C, (compEnvC scope ((x, K) :: cl) C env).kindOf x = some .cell)
    (hnames : ∀ y ∈ scope.names, y.2 = .local → scope.names.lookup y.1 = some .local)
    (h : wpAny (model PG w) A (eval iter env) (CompKAt w A h₀ L m env elt x ifs scope cl (fun _ => m) (fun D => Q (.ref D))) E s)
    (hs : ∀ x, foldedSetIterable iter env x = pure x := by intro _; rfl) :
    wpAny (model PG w) A (eval (.ListComp elt [⟨.Name x px, iter, ifs, 0⟩] scope pos) env) Q E s := by
  rw [eval_ListComp]
  refine wpAny_comprehension_free (use := none) rfl hs hclos hkind hnames (wpAny_mono h (fun xv s₁ h₁ => ?_) fun _ _ e => e)
  obtain ⟨n, P, keep, news, J, S, F, N, OK, fin⟩ := h₁
  refine S _ _ fun o fp St W hfp hobj hgo hof hst => ?_
  refine comp_blockK rfl W hfp hobj hgo hst F N hcf hpc hkind hbi hx OK ?_
  intro D C h tk m' ys news' hJ F' N' offD hn hC₀ hD₀ hCL hDL hCD offC ab
  refine ⟨m', hn, fun h'' hs'' => fin D h'' tk ys news' hJ (F'.change hs'' hCL hC₀) (fun p hp => ?_) offD ab⟩
  refine ⟨hs''.extBut _ _ ?_ (N' p hp).1, (N' p hp).2⟩
  rcases List.mem_cons.mp hp with rfl | hp
  · exact Ne.symm hCD
  · exact offC p hp
end
end Mine
end
section
open PySem PySem.W PyProof.Rows PySem.Calls PyProof.Rows.LCg PySem.Spec
set_option maxRecDepth 100000
namespace Mine
/-! many parts of a fact at once: one copy of the goal, not one for each part -/
theorem ex2 {T0 T1 : Type} {p : T0 → T1 → Prop} {G : Prop} (h : ∃ a0 a1, p a0 a1) (k : ∀ a0 a1, p a0 a1 → G) : G := by
  obtain ⟨a0, a1, h⟩ := h
  exact k a0 a1 h
theorem ex8 {T0 T1 T2 T3 T4 T5 T6 T7 : Type} {p : T0 → T1 → T2 → T3 → T4 → T5 → T6 → T7 → Prop} {G : Prop} (h : ∃ a0 a1 a2 a3 a4 a5 a6 a7, p a0 a1 a2 a3 a4 a5 a6 a7) (k : ∀ a0 a1 a2 a3 a4 a5 a6 a7, p a0 a1 a2 a3 a4 a5 a6 a7 → G) : G := by
  obtain ⟨a0, a1, a2, a3, a4, a5, a6, a7, h⟩ := h
  exact k a0 a1 a2 a3 a4 a5 a6 a7 h
theorem ex9 {T0 T1 T2 T3 T4 T5 T6 T7 T8 : Type} {p : T0 → T1 → T2 → T3 → T4 → T5 → T6 → T7 → T8 → Prop} {G : Prop} (h : ∃ a0 a1 a2 a3 a4 a5 a6 a7 a8, p a0 a1 a2 a3 a4 a5 a6 a7 a8) (k : ∀ a0 a1 a2 a3 a4 a5 a6 a7 a8, p a0 a1 a2 a3 a4 a5 a6 a7 a8 → G) : G := by
  obtain ⟨a0, a1, a2, a3, a4, a5, a6, a7, a8, h⟩ := h
  exact k a0 a1 a2 a3 a4 a5 a6 a7 a8 h
theorem ex10 {T0 T1 T2 T3 T4 T5 T6 T7 T8 T9 : Type} {p : T0 → T1 → T2 → T3 → T4 → T5 → T6 → T7 → T8 → T9 → Prop} {G : Prop} (h : ∃ a0 a1 a2 a3 a4 a5 a6 a7 a8 a9, p a0 a1 a2 a3 a4 a5 a6 a7 a8 a9) (k : ∀ a0 a1 a2 a3 a4 a5 a6 a7 a8 a9, p a0 a1 a2 a3 a4 a5 a6 a7 a8 a9 → G) : G := by
  obtain ⟨a0, a1, a2, a3, a4, a5, a6, a7, a8, a9, h⟩ := h
  exact k a0 a1 a2 a3 a4 a5 a6 a7 a8 a9 h
theorem ex3 {T0 T1 T2 : Type} {p : T0 → T1 → T2 → Prop} {G : Prop} (h : ∃ a0 a1 a2, p a0 a1 a2) (k : ∀ a0 a1 a2, p a0 a1 a2 → G) : G := by
  obtain ⟨a0, a1, a2, h⟩ := h
  exact k a0 a1 a2 h
theorem ex4 {T0 T1 T2 T3 : Type} {p : T0 → T1 → T2 → T3 → Prop} {G : Prop} (h : ∃ a0 a1 a2 a3, p a0 a1 a2 a3) (k : ∀ a0 a1 a2 a3, p a0 a1 a2 a3 → G) : G := by
  obtain ⟨a0, a1, a2, a3, h⟩ := h
  exact k a0 a1 a2 a3 h
theorem ex5 {T0 T1 T2 T3 T4 : Type} {p : T0 → T1 → T2 → T3 → T4 → Prop} {G : Prop} (h : ∃ a0 a1 a2 a3 a4, p a0 a1 a2 a3 a4) (k : ∀ a0 a1 a2 a3 a4, p a0 a1 a2 a3 a4 → G) : G := by
  obtain ⟨a0, a1, a2, a3, a4, h⟩ := h
  exact k a0 a1 a2 a3 a4 h
theorem ex6 {T0 T1 T2 T3 T4 T5 : Type} {p : T0 → T1 → T2 → T3 → T4 → T5 → Prop} {G : Prop} (h : ∃ a0 a1 a2 a3 a4 a5, p a0 a1 a2 a3 a4 a5) (k : ∀ a0 a1 a2 a3 a4 a5, p a0 a1 a2 a3 a4 a5 → G) : G := by
  obtain ⟨a0, a1, a2, a3, a4, a5, h⟩ := h
  exact k a0 a1 a2 a3 a4 a5 h
theorem ex7 {T0 T1 T2 T3 T4 T5 T6 : Type} {p : T0 → T1 → T2 → T3 → T4 → T5 → T6 → Prop} {G : Prop} (h : ∃ a0 a1 a2 a3 a4 a5 a6, p a0 a1 a2 a3 a4 a5 a6) (k : ∀ a0 a1 a2 a3 a4 a5 a6, p a0 a1 a2 a3 a4 a5 a6 → G) : G := by
  obtain ⟨a0, a1, a2, a3, a4, a5, a6, h⟩ := h
  exact k a0 a1 a2 a3 a4 a5 a6 h
theorem ex11 {T0 T1 T2 T3 T4 T5 T6 T7 T8 T9 T10 : Type} {p : T0 → T1 → T2 → T3 → T4 → T5 → T6 → T7 → T8 → T9 → T10 → Prop} {G : Prop} (h : ∃ a0 a1 a2 a3 a4 a5 a6 a7 a8 a9 a10, p a0 a1 a2 a3 a4 a5 a6 a7 a8 a9 a10) (k : ∀ a0 a1 a2 a3 a4 a5 a6 a7 a8 a9 a10, p a0 a1 a2 a3 a4 a5 a6 a7 a8 a9 a10 → G) : G := by
  obtain ⟨a0, a1, a2, a3, a4, a5, a6, a7, a8, a9, a10, h⟩ := h
  exact k a0 a1 a2 a3 a4 a5 a6 a7 a8 a9 a10 h
theorem and3 {p0 p1 p2 G : Prop} (h : p0 ∧ p1 ∧ p2) (k : p0 → p1 → p2 → G) : G := by
  obtain ⟨h0, h1, h2⟩ := h
  exact k h0 h1 h2
theorem and4 {p0 p1 p2 p3 G : Prop} (h : p0 ∧ p1 ∧ p2 ∧ p3) (k : p0 → p1 → p2 → p3 → G) : G := by
  obtain ⟨h0, h1, h2, h3⟩ := h
  exact k h0 h1 h2 h3
theorem and5 {p0 p1 p2 p3 p4 G : Prop} (h : p0 ∧ p1 ∧ p2 ∧ p3 ∧ p4) (k : p0 → p1 → p2 → p3 → p4 → G) : G := by
  obtain ⟨h0, h1, h2, h3, h4⟩ := h
  exact k h0 h1 h2 h3 h4
theorem and6 {p0 p1 p2 p3 p4 p5 G : Prop} (h : p0 ∧ p1 ∧ p2 ∧ p3 ∧ p4 ∧ p5) (k : p0 → p1 → p2 → p3 → p4 → p5 → G) : G := by
  obtain ⟨h0, h1, h2, h3, h4, h5⟩ := h
  exact k h0 h1 h2 h3 h4 h5
theorem and7 {p0 p1 p2 p3 p4 p5 p6 G : Prop} (h : p0 ∧ p1 ∧ p2 ∧ p3 ∧ p4 ∧ p5 ∧ p6) (k : p0 → p1 → p2 → p3 → p4 → p5 → p6 → G) : G := by
  obtain ⟨h0, h1, h2, h3, h4, h5, h6⟩ := h
  exact k h0 h1 h2 h3 h4 h5 h6
theorem and8 {p0 p1 p2 p3 p4 p5 p6 p7 G : Prop} (h : p0 ∧ p1 ∧ p2 ∧ p3 ∧ p4 ∧ p5 ∧ p6 ∧ p7) (k : p0 → p1 → p2 → p3 → p4 → p5 → p6 → p7 → G) : G := by
  obtain ⟨h0, h1, h2, h3, h4, h5, h6, h7⟩ := h
  exact k h0 h1 h2 h3 h4 h5 h6 h7
theorem and9 {p0 p1 p2 p3 p4 p5 p6 p7 p8 G : Prop} (h : p0 ∧ p1 ∧ p2 ∧ p3 ∧ p4 ∧ p5 ∧ p6 ∧ p7 ∧ p8) (k : p0 → p1 → p2 → p3 → p4 → p5 → p6 → p7 → p8 → G) : G := by
  obtain ⟨h0, h1, h2, h3, h4, h5, h6, h7, h8⟩ := h
  exact k h0 h1 h2 h3 h4 h5 h6 h7 h8
theorem and10 {p0 p1 p2 p3 p4 p5 p6 p7 p8 p9 G : Prop} (h : p0 ∧ p1 ∧ p2 ∧ p3 ∧ p4 ∧ p5 ∧ p6 ∧ p7 ∧ p8 ∧ p9) (k : p0 → p1 → p2 → p3 → p4 → p5 → p6 → p7 → p8 → p9 → G) : G := by
  obtain ⟨h0, h1, h2, h3, h4, h5, h6, h7, h8, h9⟩ := h
  exact k h0 h1 h2 h3 h4 h5 h6 h7 h8 h9
theorem bytes_len_slot : typeLookup (.type "bytes") "__len__" = pure (some (.builtin "bytes.__len__")) := by rw [typeLookup_type, builtinLookup_eq_fast]; kernel_rfl
abbrev ByteAt (b : List UInt8) (i : Nat) (v : Value) : Prop := ∃ c u, b.toArray[i]? = some c ∧ v = .int (c.toNat : Int) u
section
variable {w : World} {A : Around} {E : Value → Shared → Prop} {s : Shared}
theorem extend_bytes {R : Result → Shared → Prop} (hh : A.handled = none) (x : List UInt8) (t : Tok) (S : Addr) (res : Value) (c₀ : Nat) (hS : s.heap.get? S = some { cls := .type "list", data := .seq #[] c₀ })
    (hR : ∀ h' tk acc' c', (∀ b o, b ≠ S → s.heap.get? b = some o → h'.get? b = some o) → h'.get? S = some { cls := .type "list", dict := none, data := .seq acc' c', slots := #[] } →
      ItemsOf (ByteAt x) acc' x.toArray.size → R (.ok (.ret res)) { s with heap := h', toks := tk }) (hn : x.toArray.size ≤ sizeLine) :
    wpAny (model PG w) A.in1 (Builtin.List.listExtendWith (.ref S) (.bytes x.toArray t) res)
      (fun fin s' => match fin with | .done f => R (.ok f) s' | .again c' => c'.quiet = true ∧ codeAny (model PG w) A c' R s') (fun e s' => R (.error e) s') s := by
  have hSI : S ≠ s.heap.objs.size := Nat.ne_of_lt (Heap.lt_size hS)
  have hSf : S ∉ [s.heap.objs.size] := fun hm => hSI (List.mem_singleton.mp hm)
  unfold Builtin.List.listExtendWith
  refine wpAny_bind (wpAny_typeOf (T := "bytes") (v := .bytes x.toArray t) rfl ?_)
  have h1 : Builtin.List.listSameRef (.ref S) (.bytes x.toArray t) = false := rfl
  have h2 : (Value.type "bytes" == Value.type "list") = false := by decide
  have h3 : (Value.type "bytes" == Value.type "tuple") = false := by decide
  simp only [h1, h2, h3, Bool.or_false, Bool.false_eq_true, if_false]
  refine wpAny_bind (KBw.pyIter_bytes ?_)
  refine wpAny_bind (wpAny_holding ?_)
  unfold Builtin.List.listLengthHint
  refine wpAny_bind (wpAny_specialOf (T := "bytes") (v := .bytes x.toArray t) rfl bytes_len_slot ?_)
  wp_delta
  refine wpAny_bind (wpAny_isInstance (T := "bytes") (v := .bytes x.toArray t) (b := true) rfl (by rw [isSubtype_type]; kernel_rfl) ?_)
  show wpAny _ _ (typeOf (Value.bytes x.toArray t) >>= _) _ _ _
  refine wpAny_bind (wpAny_typeOf (T := "bytes") (v := .bytes x.toArray t) rfl ?_)
  refine wpAny_pure ?_
  rw [if_neg (by decide)]
  refine wpAny_pure ⟨plainId_quiet PySem.F.plain_extend_loop _, codeAny_extend_loopS (KBw.walks (A := A.in1) hh _ x.toArray t).toS hn _ hSf _ x.toArray.size 0 _ _ _ rfl (Nat.zero_le _) ⟨_, Heap.get?_push_size _ rfl, rfl, rfl⟩ (Heap.get?_push_of_some _ hS) (ItemsOf.nil _) fun s' acc' c' hm hS' hacc => ?_⟩
  rw [Moved.eq_with hm]
  refine hR s'.heap s'.toks acc' c' (fun b ob hb e => hm.heap b ob (fun hmem => ?_) (Heap.get?_push_of_some _ e)) hS' hacc
  rcases List.mem_cons.mp hmem with e' | hmem
  · exact hb e'
  · exact absurd (Heap.lt_size e) (by rw [List.mem_singleton.mp hmem]; exact Nat.lt_irrefl _)
theorem list_init_bytes {R : Result → Shared → Prop} (hh : A.handled = none) (x : List UInt8) (t : Tok) (S : Addr) (hS : s.heap.get? S = some { cls := .type "list", data := .seq #[] })
    (hR : ∀ h' tk acc' c', (∀ b o, b ≠ S → s.heap.get? b = some o → h'.get? b = some o) → h'.get? S = some { cls := .type "list", dict := none, data := .seq acc' c', slots := #[] } →
      ItemsOf (ByteAt x) acc' x.toArray.size → R (.ok (.ret .none)) { s with heap := h', toks := tk }) (hn : x.toArray.size ≤ sizeLine) :
    wpAny (model PG w) A.in1 (Builtin.«list.__init__» ⟨[.ref S, .bytes x.toArray t], []⟩)
      (fun fin s' => match fin with | .done f => R (.ok f) s' | .again c' => c'.quiet = true ∧ codeAny (model PG w) A c' R s') (fun e s' => R (.error e) s') s := by
  show wpAny _ _ (do let old ← Builtin.List.listItems (.ref S); Builtin.List.listUpdate (.ref S) (fun _ => #[]); letGo old.toList.reverse; Builtin.List.listExtendWith (.ref S) (.bytes x.toArray t) .none) _ _ s
  refine wpAny_bind ?_
  unfold Builtin.List.listItems
  refine wpAny_bind (wpAny_seqItems hS rfl (wpAny_pure ?_))
  show wpAny _ _ (updateSeq S (fun _ => #[]) >>= fun _ => letGo (#[] : Array Value).toList.reverse >>= fun _ => Builtin.List.listExtendWith (.ref S) (.bytes x.toArray t) .none) _ _ s
  refine wpAny_bind (wpAny_updateSeq hS rfl ?_)
  have hS₂ := Heap.get?_update_self (Obj.mapSeq (fun _ => (#[] : Array Value))) hS rfl
  have oth : ∀ b o, b ≠ S → s.heap.get? b = some o → (s.heap.update S (Obj.mapSeq (fun _ => (#[] : Array Value)))).get? b = some o :=
    fun b o hb e => (Heap.get?_update_other _ _ (Ne.symm hb)).trans e
  refine wpAny_bind (wpAny_letGo ?_)
  refine extend_bytes (hn := hn) hh x t S .none _ hS₂ fun h' tk acc' c' hk hS' hacc => ?_
  exact hR h' tk acc' c' (fun b o hb e => hk b o hb (oth b o hb e)) hS' hacc
theorem call_list_bytes {Q : Value → Shared → Prop} (hh : A.handled = none) (x : List UInt8) (t : Tok)
    (hQ : ∀ h' tk acc' c', (∀ b o, s.heap.get? b = some o → h'.get? b = some o) →
      h'.get? s.heap.objs.size = some { cls := .type "list", dict := none, data := .seq acc' c', slots := #[] } → ItemsOf (ByteAt x) acc' x.toArray.size → Q (.ref s.heap.objs.size) { s with heap := h', toks := tk }) (hn : x.toArray.size ≤ sizeLine) :
    wpAny (model PG w) A (call (.type "list") [.bytes x.toArray t]) Q E s := by
  refine callType_codes (Q₁ := fun obj s₁ => obj = .ref s.heap.objs.size ∧ s₁ = { s with heap := s.heap.push { cls := .type "list", data := .seq #[] } }) PySem.F.called_list (PySem.F.typeCall_list_1 _) PySem.F.entry_list_init
    (code_list_new _ ⟨rfl, rfl⟩) fun obj s₁ h₁ => ?_
  obtain ⟨rfl, rfl⟩ := h₁
  have hS : (s.heap.push { cls := .type "list", data := .seq #[] }).get? s.heap.objs.size = some { cls := .type "list", data := .seq #[] } := Heap.get?_push_size _ rfl
  refine ⟨⟨_, hS, rfl⟩, PySem.F.args_list_init_2 _ _, list_init_bytes (A := A.in1) (hn := hn) hh x t _ hS fun h' tk acc' c' hk hS' hacc => ?_⟩
  exact ⟨rfl, hQ h' tk acc' c' (fun b o e => hk b o (Nat.ne_of_lt (Heap.lt_size e)) (Heap.get?_push_of_some _ e)) hS' hacc⟩
theorem ints_of_items : ∀ (b : List UInt8) (vs : List Value), vs.length = b.length → (∀ (j : Nat) (v : Value), vs[j]? = some v → ByteAt b j v) → IntsAre vs (b.map fun c => (c.toNat : Int))
  | [], [], _, _ => IntsAre.nil
  | c :: b, v :: vs, hl, h => by
    obtain ⟨c', u, h1, rfl⟩ := h 0 v rfl
    have e : c = c' := by simpa using h1
    subst e
    refine IntsAre.cons _ _ (ints_of_items b vs (Nat.succ.inj hl) fun j v hv => ?_)
    obtain ⟨c2, u2, h3, h4⟩ := h (j + 1) v (by simpa using hv)
    exact ⟨c2, u2, by simpa using h3, h4⟩
  | [], _ :: _, hl, _ => nomatch hl
  | _ :: _, [], hl, _ => nomatch hl
/-- list(bytes) -/
theorem list_b {h₀ : Heap} {L : Addr} {m : Ns} {news : Led} {b : List UInt8} {t : Tok} {Q : Value → Shared → Prop} (hh : A.handled = none) (F : Fr h₀ L s.heap m) (N : News h₀ L s.heap news) (hn : b.length ≤ 1000)
    (h : ∀ (D : Addr) c h' tk (vs : List Value), Fr h₀ L h' m → News h₀ L h' ((D, listOf vs.toArray c) :: news) → (∀ q ∈ news, q.1 < D) → IntsAre vs (b.map fun c => (c.toNat : Int)) → Q (.ref D) { s with heap := h', toks := tk }) :
    wpAny (model PG w) A (call (.type "list") [.bytes b.toArray t]) Q E s :=
  call_list_bytes hh b t (fun h' tk acc' c' hk hD hacc => h _ c' h' tk acc'.toList (F.keeps hk) (news_pushed F N hk (by rw [Array.toArray_toList]; exact hD) rfl) (fun q hq => Heap.lt_size (N q hq).1)
    (ints_of_items b acc'.toList (by rw [Array.length_toList]; simpa using hacc.1) fun j v e => hacc.2 j v (by rw [← Array.getElem?_toList]; exact e))) (by rw [List.size_toArray]; exact Nat.le_trans hn (Nat.le_of_ble_eq_true rfl))
/-- an item's store at a reckoned place -/
theorem set_z {h₀ : Heap} {L D : Addr} {m : Ns} {news : Led} {vs : List Value} {n i : Nat} {z : Int} {u : Tok} {v : Value} {Q : Unit → Shared → Prop} (hz : z = (i : Int)) (F : Fr h₀ L s.heap m) (N : News h₀ L s.heap news) (hm : (D, listOf vs.toArray n) ∈ news) (hi : i < vs.length) (hb : i < 100000)
    (h : ∀ h', Fr h₀ L h' m → News h₀ L h' ((D, listOf (vs.set i v).toArray n) :: wo D news) → Q () { s with heap := h' }) :
    wpAny (model PG w) A (setItem (.ref D) (.int z u) v) Q E s := by
  subst hz
  exact set_f F N hm hi hb h
end
end Mine
end
section
open PySem PySem.W PyProof.Rows PySem.Calls PyProof.Rows.LCg PySem.Spec
set_option maxRecDepth 100000
namespace Mine
abbrev bmB : List Value := [.type "Exception", .type "BaseException", .type "object"]
theorem FE : ExcBaseFacts "Exception" "Exception.__new__" "Exception.__init__" bmB := PySem.F.excBase_Exception
/-- the text's own class of faults, as it lies -/
structure FaultAt (h : Heap) : Prop where
  at_ : ∃ nm q N bs hdct sn sub ab col dd k0 k1 k2 k3 k5, h.get? 60 = some (excClassObj nm q 60 N bs (.ref 47 :: bmB) hdct sn sub ab col dd k0 k1 k2 k3 k5 "Exception.__new__")
theorem fault_at {w : World} {h : Heap} (X : (hdHeap w.params).In h) : FaultAt h := by
  have e : ∃ o, (hdHeap w.params).lookup 60 = some o ∧ ∃ nm q N bs hdct sn sub ab col dd k0 k1 k2 k3 k5, o = excClassObj nm q 60 N bs (.ref 47 :: bmB) hdct sn sub ab col dd k0 k1 k2 k3 k5 "Exception.__new__" := ⟨_, rfl, _, _, _, _, _, _, _, _, _, _, _, _, _, _, _, rfl⟩
  obtain ⟨o, ho, nm, q, N, bs, hdct, sn, sub, ab, col, dd, k0, k1, k2, k3, k5, rfl⟩ := e
  exact ⟨⟨_, _, _, _, _, _, _, _, _, _, _, _, _, _, _, X _ _ ho⟩⟩
theorem find_init (w : World) : findIn (hdHeap w.params) (.ref 60) "__init__" = some (some (.ref 37)) := by rfl
theorem type_37 (w : World) : typeIn (hdHeap w.params) (.ref 37) = some (.type "function") := by rfl
section
variable {w : World} {A : Around} {E : Value → Shared → Prop} {h : Heap} {g : Array GenState} {d : Drawn} {t : Nat} {os : OsState}
variable {nm q : Str} {N : Addr} {bs : List Value} {hdct : Bool} {sn : List Str} {sub : List Value} {ab : Bool} {col : Option Bool} {dd : Option Addr} {k0 k1 k2 k3 k5 : Option Value}
abbrev CL (nm q : Str) (N : Addr) (bs : List Value) (hdct : Bool) (sn : List Str) (sub : List Value) (ab : Bool) (col : Option Bool) (dd : Option Addr) (k0 k1 k2 k3 k5 : Option Value) : Obj := excClassObj nm q 60 N bs (.ref 47 :: bmB) hdct sn sub ab col dd k0 k1 k2 k3 k5 "Exception.__new__"
theorem fault_check_new {rest : List Value} {Q : Unit → Shared → Prop} (hC : h.get? 60 = some (CL nm q N bs hdct sn sub ab col dd k0 k1 k2 k3 k5)) (hq : Q () ⟨h, g, d, t, os⟩) :
    wpAny (model PG w) A (checkBuiltinCall "Exception.__new__" ⟨.ref 60 :: rest, []⟩) Q E ⟨h, g, d, t, os⟩ := by
  have hcont : (Value.ref 60 :: .ref 47 :: bmB).contains (.type "Exception") = true := by decide
  have hstar := FE.noStar
  simp only [checkBuiltinCall, FE.newKind, FE.newSplit, FE.newRow]
  repeat (first | refine wpAny_loadPart_at hC ?_ | (refine wpAny_isSubtype_exc hC ?_; rw [hcont]) | refine wpAny_staticBase_exc hC ?_ | refine wpAny_madeBy_exc hC ?_ | simp only [bne_self_eq_false, Bool.false_eq_true, if_false] | wp_step)
  exact hq
theorem fault_new {R : Result → Shared → Prop} {rest : List Value} (hC : h.get? 60 = some (CL nm q N bs hdct sn sub ab col dd k0 k1 k2 k3 k5))
    (hq : R (.ok (.ret (.ref (h.objs.size + 1)))) ⟨(h.push { cls := .type "tuple", data := .seq rest.toArray }).push { cls := .ref 60, data := .fields #[.ref h.objs.size, .none, .none, .none, .bool false, .none] }, g, d, t, os⟩) (hrest : rest.length ≤ sizeLine) :
    codeAny (model PG w) A (.builtin "Exception.__new__" ⟨.ref 60 :: rest, []⟩) R ⟨h, g, d, t, os⟩ := by
  have hends := FE.ends
  have hcB : (Value.ref 60 :: .ref 47 :: bmB).contains (.type "Exception") = true := by decide
  have hcA : (Value.ref 60 :: .ref 47 :: bmB).contains (.type "AttributeError") = false := by decide
  have hcN : (Value.ref 60 :: .ref 47 :: bmB).contains (.type "NameError") = false := by decide
  refine codeAny_builtinAt FE.entry ?_
  unfold Builtin.«BaseException.__new__»
  refine PySem.wpAt_bind ?_
  show PySem.wpAt _ _ _ (stack >>= _) _ _ _
  refine PySem.wpAt_bind (PySem.wpAt_stack fun p below => PySem.wpAt_of_wpAny ?_)
  wp_walk
  refine PySem.wpAt_of_wpAny ?_
  rw [FE.owner]
  repeat (first | with_reducible refine wpAny_madeHere_exc FE.canon hC ?_ | with_reducible refine wpAny_loadPart_at hC ?_ | (with_reducible refine wpAny_isSubtype_exc hC ?_; first | rw [hcB] | rw [hcA] | rw [hcN]) | wp_step)
  show R _ _
  rw [Heap.size_push]
  exact hq
end
abbrev excO (t : Addr) : Obj := { cls := .ref 60, data := .fields #[.ref t, .none, .none, .none, .bool false, .none] }
abbrev argO (rest : List Value) : Obj := { cls := .type "tuple", data := .seq rest.toArray }
section
variable {w : World} {A : Around} {E : Value → Shared → Prop} {h : Heap} {g : Array GenState} {d : Drawn} {t : Nat} {os : OsState}
theorem fault_core {R : Result → Shared → Prop} {rest : List Value} (X : (hdHeap w.params).In h) (hrest : rest.length ≤ sizeLine)
    (hq : codeAny (model PG w) (A.under (.builtin "type.__call__" ⟨.ref 60 :: rest, []⟩)) (.call (.ref 37) ⟨.ref (h.objs.size + 1) :: rest, []⟩) (InitBack (h.objs.size + 1) R) ⟨(h.push (argO rest)).push (excO h.objs.size), g, d, t, os⟩) :
    codeAny (model PG w) A (.call (.ref 60) ⟨rest, []⟩) R ⟨h, g, d, t, os⟩ := by
  obtain ⟨nm, q, N, bs, hdct, sn, sub, ab, col, dd, k0, k1, k2, k3, k5, hC⟩ := (fault_at X).at_
  have f1 := tc_lookup
  have f2 := tc_bind (.ref 60)
  have hT : (⟨h, g, d, t, os⟩ : Shared).TypeIs (.ref 60) "type" := ⟨_, hC, rfl⟩
  refine codeAny_of_tree ?_
  show wpAny _ _ (callAny (.ref 60) _) _ _ _
  repeat (any_goals (first | assumption | with_reducible refine wpAny_loadPart_at hC ?_ | wp_step))
  refine ⟨rfl, ?_⟩
  refine codeAny_call_builtin_at (Code.quiet_builtin _ (by decide +kernel)) entry_typeCall (wpAny_check_type_call_sub hC ?_)
  repeat (first | with_reducible refine wpAny_loadPart_at hC ?_ | with_reducible refine wpAny_madeBy_exc hC ?_ | wp_step)
  refine codeAny_call_builtin_code (Code.quiet_builtin _ FE.quiet) (fault_check_new hC ?_)
  refine fault_new hC ?_ hrest
  show wpAny _ _ _ _ _ _
  have k : ∀ b o, h.get? b = some o → ((h.push (argO rest)).push (excO h.objs.size)).get? b = some o := fun b o e => Heap.get?_push_of_some _ (Heap.get?_push_of_some _ e)
  have hC₁ := k _ _ hC
  have hget : ((h.push (argO rest)).push (excO h.objs.size)).get? (h.objs.size + 1) = some (excO h.objs.size) := by heap_get
  have hcC : (Value.ref 60 :: .ref 47 :: bmB).contains (.ref 60) = true := by decide
  unfold isInstance
  repeat (first | with_reducible refine wpAny_loadPart_at hget ?_ | (with_reducible refine wpAny_isSubtype_exc hC₁ ?_; rw [hcC]) | wp_step)
  show wpAny _ _ (isSubtype (.ref 60) (.ref 60)) _ _ _
  refine wpAny_isSubtype_exc hC₁ ?_
  rw [hcC]
  have t1 : Looks (model PG w) ((h.push (argO rest)).push (excO h.objs.size)) (typeOf (.ref (h.objs.size + 1))) (.ref 60) := (Looks.ld hget).andThen .now
  have i1 := (looks_findIn (M := model PG w) X (find_init w)).keeps k
  have b1 := (bind_fn (M := model PG w) X (.ref (h.objs.size + 1)) (type_37 w)).keeps k
  show wpAny _ _ _ _ _ (⟨(h.push (argO rest)).push (excO h.objs.size), g, d, t, os⟩ : Shared)
  unfold callSpecial? specialOf
  repeat (first | with_reducible refine wpAny_call ?_ | lk)
  refine codeAny_mono hq fun r s' z => ?_
  rcases r with e | (v | _ | _ | _) <;> first | exact z | exact z.elim | skip
  obtain ⟨rfl, z⟩ := z
  exact wpAny_pure (wpAny_pure z)
theorem fault_check_init {nm q : Str} {N : Addr} {bs : List Value} {hdct : Bool} {sn : List Str} {sub : List Value} {ab : Bool} {col : Option Bool} {dd : Option Addr} {k0 k1 k2 k3 k5 : Option Value} {e : Addr} {oe : Obj} {rest : List Value} {Q : Unit → Shared → Prop}
    (hC : h.get? 60 = some (CL nm q N bs hdct sn sub ab col dd k0 k1 k2 k3 k5)) (he : h.get? e = some oe) (hcls : oe.cls = .ref 60) (hq : Q () ⟨h, g, d, t, os⟩) :
    wpAny (model PG w) A (checkBuiltinCall "Exception.__init__" ⟨.ref e :: rest, []⟩) Q E ⟨h, g, d, t, os⟩ := by
  have hcB : (Value.ref 60 :: .ref 47 :: bmB).contains (.type "Exception") = true := by decide
  have hshort := FE.noStar
  simp only [checkBuiltinCall, FE.initKind, FE.initSplit, FE.initRow]
  repeat (first | (with_reducible refine wpAny_loadPart_at he ?_; rw [hcls]) | with_reducible refine wpAny_loadPart_at hC ?_ | (with_reducible refine wpAny_isSubtype_exc hC ?_; rw [hcB]) | wp_step)
  refine wpAny_onRaise ?_
  rw [show ∀ (a b : String) (n : Nat), Bind.check ⟨.positional, "*", "Exception", .self, [⟨"args", .varPos, false⟩]⟩ a b n (List.map (fun x => x.fst) ({ pos := Value.ref e :: rest } : Args).kw) = pure () from
    fun a b n => check_star_args _ _ _ _ _ _]
  exact wpAny_pure hq
theorem base_init {e t0 : Addr} {rest : List Value} {Q : Value → Shared → Prop} (X : (hdHeap w.params).In h) (he : h.get? e = some (excO t0)) (hrest : rest.length ≤ sizeLine)
    (hq : ∀ h', h'.get? e = some (excO h.objs.size) → (∀ b o, b ≠ e → h.get? b = some o → h'.get? b = some o) → Q .none ⟨h', g, d, t, os⟩) :
    wpAny (model PG w) A (call (.builtin "Exception.__init__") (.ref e :: rest)) Q E ⟨h, g, d, t, os⟩ := by
  obtain ⟨nm, q, N, bs, hdct, sn, sub, ab, col, dd, k0, k1, k2, k3, k5, hC⟩ := (fault_at X).at_
  refine wpAny_call (codeAny_call_builtin FE.init.plain FE.initEntry (fault_check_init hC he rfl ?_))
  wp_walk
  refine hq _ ?_ fun b o hb ho => ?_
  · rw [Heap.get?_update_self _ (Heap.get?_push_of_some _ he) rfl]
    rfl
  · rw [Heap.get?_update_other _ _ (Ne.symm hb)]
    exact Heap.get?_push_of_some _ ho
/-- Exception.__init__(e, x), the ledger told -/
theorem base_init_N {h₀ : Heap} {L : Addr} {m : Ns} {s : Shared} {news : Led} {e t0 : Addr} {v : Value} {Q : Value → Shared → Prop} (F : Fr h₀ L s.heap m) (X₀ : (hdHeap w.params).In h₀) (N : News h₀ L s.heap news) (he : (e, excO t0) ∈ news)
    (h : ∀ h' t', Fr h₀ L h' m → News h₀ L h' ((e, excO t') :: wo e news) → Q .none { s with heap := h' }) :
    wpAny (model PG w) A (call (.builtin "Exception.__init__") [.ref e, v]) Q E s := by
  obtain ⟨hh, g, d, t, os⟩ := s
  obtain ⟨e1, e2, e3⟩ := N _ he
  refine base_init (X₀.keeps F.keep) e1 (Nat.le_of_ble_eq_true rfl) fun h' h1 h2 => ?_
  have e0 : ∀ b o, h₀.get? b = some o → b ≠ e := fun b o q z => by rw [z, e3] at q; cases q
  have F' : Fr h₀ L h' m := ⟨F.ns.at' fun o q => h2 _ o (Ne.symm e2) q, fun b o q => h2 b o (e0 b o q) (F.keep b o q), F.above⟩
  have N' : News h₀ L h' ((e, excO hh.objs.size) :: wo e news) := fun p hp => by
    rcases List.mem_cons.mp hp with rfl | hp
    · exact ⟨h1, e2, e3⟩
    · obtain ⟨hp1, hp2⟩ := mem_wo.mp hp
      exact ⟨h2 _ _ hp2 (N p hp1).1, (N p hp1).2⟩
  exact h h' _ F' N'
end
theorem find_sa (w : World) : findIn (hdHeap w.params) (.ref 60) "__setattr__" = some (some (.builtin "object.__setattr__")) := by rfl
theorem find_what (w : World) : findIn (hdHeap w.params) (.ref 60) "what" = some none := by rfl
theorem find_at (w : World) : findIn (hdHeap w.params) (.ref 60) "at" = some none := by rfl
theorem fault_hasDict {w : World} {h : Heap} (X : (hdHeap w.params).In h) : ∃ nm q N bs sn sub ab col dd k0 k1 k2 k3 k5, h.get? 60 = some (excClassObj nm q 60 N bs (.ref 47 :: bmB) true sn sub ab col dd k0 k1 k2 k3 k5 "Exception.__new__") := by
  have e : ∃ o, (hdHeap w.params).lookup 60 = some o ∧ ∃ nm q N bs sn sub ab col dd k0 k1 k2 k3 k5, o = excClassObj nm q 60 N bs (.ref 47 :: bmB) true sn sub ab col dd k0 k1 k2 k3 k5 "Exception.__new__" := ⟨_, rfl, _, _, _, _, _, _, _, _, _, _, _, _, _, _, rfl⟩
  obtain ⟨o, ho, nm, q, N, bs, sn, sub, ab, col, dd, k0, k1, k2, k3, k5, rfl⟩ := e
  exact ⟨_, _, _, _, _, _, _, _, _, _, _, _, _, _, X _ _ ho⟩
section
variable {w : World} {A : Around} {E : Value → Shared → Prop} {h : Heap} {g : Array GenState} {d : Drawn} {t : Nat} {os : OsState} {x : Addr} {mA : Str → Option Value} {name : Str} {v : Value}
variable {nm q : Str} {N : Addr} {bs : List Value} {sn : List Str} {sub : List Value} {ab : Bool} {col : Option Bool} {dd : Option Addr} {k0 k1 k2 k3 k5 : Option Value}
theorem fault_check_sa {M : Model} {o : Obj} {nameV : Value} {Q : Unit → Shared → Prop}
    (hC : h.get? 60 = some (excClassObj nm q 60 N bs (.ref 47 :: bmB) true sn sub ab col dd k0 k1 k2 k3 k5 "Exception.__new__")) (hx : h.get? x = some o) (hc : o.cls = .ref 60) (hq : Q () ⟨h, g, d, t, os⟩) :
    wpAny M A (checkBuiltinCall "object.__setattr__" ⟨[.ref x, nameV, v], []⟩) Q E ⟨h, g, d, t, os⟩ := by
  have SF := PySem.F.store_Exception
  have hcB : (Value.ref 60 :: .ref 47 :: bmB).contains (.type "object") = true := by decide
  have ha := SF.args (.ref x) nameV v
  simp only [checkBuiltinCall, SF.kind, SF.split]
  refine wpAny_bind ?_
  unfold isInstance
  repeat (first | (with_reducible refine wpAny_loadPart_at hx ?_; rw [hc]) | (with_reducible refine wpAny_isSubtype_exc hC ?_; rw [hcB]) | wp_step)
  exact hq
/-- an attribute's store on a fault -/
theorem set_fault {Q : Unit → Shared → Prop} {ns : List Str} (X : (hdHeap w.params).In h) (hf : findIn (hdHeap w.params) (.ref 60) name = some none) (hx : ∃ o, h.get? x = some o ∧ o.cls = .ref 60 ∧ (∀ c, o.data ≠ .cls c) ∧ ((o.dict = none ∧ ∀ n, mA n = none) ∨ ∃ d, o.dict = some d ∧ d ≠ x ∧ h.Ns1 d mA))
    (hq : ∀ h' tk', h'.Inst x 60 (fun y => if y = name then some v else mA y) →
      (∀ b o, b ≠ x → (∀ o₀ dx, h.get? x = some o₀ → o₀.dict = some dx → b ≠ dx) → h.get? b = some o → h'.get? b = some o) →
      (∀ o₀, h.get? x = some o₀ → ∃ o₁, h'.get? x = some o₁ ∧ o₁.cls = o₀.cls ∧ o₁.data = o₀.data ∧ (o₀.dict = none → o₁.dict = some h.objs.size) ∧ ∀ dx, o₀.dict = some dx → o₁.dict = some dx) → Q () ⟨h', g, d, tk', os⟩) (hw : Within mA ns) (hsz : ns.length ≤ 100) :
    wpAny (model PG w) A (setAttr (.ref x) name v) Q E ⟨h, g, d, t, os⟩ := by
  have SF := PySem.F.store_Exception
  obtain ⟨nm, q, N, bs, sn, sub, ab, col, dd, k0, k1, k2, k3, k5, hC⟩ := fault_hasDict X
  obtain ⟨o, hx, hc, hnc, hd⟩ := hx
  have hpass := SF.passes (.ref x)
  have f3 := SF.slot.bind (.ref x)
  have hsa := looks_findIn (M := model PG w) X (find_sa w)
  have hnm := looks_findIn (M := model PG w) X hf
  unfold setAttr callSpecial? specialOf
  repeat (any_goals (first | assumption | (with_reducible refine wpAny_loadPart_at hx ?_; rw [hc]) | (with_reducible refine hsa.here ?_) | wp_step))
  refine codeAny_call_builtin SF.slot.plain SF.entry (fault_check_sa hC hx hc ?_)
  unfold Builtin.«object.__setattr__»
  repeat (first | rw [refuse_eq] | (rw [refuseLoop_ref, refuseLoop_ref, hpass]) | (with_reducible refine wpAny_loadPart_at hx ?_; rw [hc]) | with_reducible refine wpAny_mroOf_exc hC ?_ | (with_reducible refine hnm.here ?_) | wp_step)
  rcases hd with ⟨hdn, hmA⟩ | ⟨dx, hdx, hne, hns⟩
  · rw [hdn, if_neg (by simp [typeHasDict])]
    split
    · rename_i hcd
      cases hcd
    split
    · rename_i c hcd
      exact absurd hcd (hnc c)
    · have hx₁ : (h.push { cls := .type "dict", data := .dict #[] }).get? x = some o := Heap.get?_push_of_some _ hx
      have hxs : x ≠ h.objs.size := Nat.ne_of_lt (Heap.lt_size hx)
      refine wpAny_bind (wpAny_alloc' ?_)
      refine wpAny_bind (wpAny_update' hx₁ ?_)
      refine wpAny_pure ?_
      have hgd : ((h.push { cls := .type "dict", data := .dict #[] }).update x fun o => { cls := o.cls, dict := some h.objs.size, data := o.data, slots := o.slots }).get? h.objs.size
          = some { cls := .type "dict", data := .dict #[] } :=
        (Heap.get?_update_ne _ _ _ _ hxs.symm).trans (Heap.get?_push_at rfl rfl)
      have hnd : ((h.push { cls := .type "dict", data := .dict #[] }).update x fun o => { cls := o.cls, dict := some h.objs.size, data := o.data, slots := o.slots }).Ns h.objs.size (fun _ => none) :=
        ⟨_, #[], _, hgd, rfl, fun e he => absurd he (by simp), fun _ => rfl⟩
      show wpAny _ _ (Builtin.ObjectAttr.storeInDict h.objs.size (.str name _) name v) _ _ _
      unfold Builtin.ObjectAttr.storeInDict Builtin.ObjectAttr.newKeyGuard
      refine wpAny_bind (wpAny_pure (wpAny_bind (wpAny_nsSet1 (Heap.Ns1.of_empty hnd) fun h' hn' hs => ?_)))
      obtain ⟨oD, esD, epD, hoD, hdD, hcD⟩ := hn'.count (Within.cons name v Within.nil)
      refine wpAny_bind (wpAny_lookBehind hoD (by rw [hdD]; exact pastItsLine_dict (Nat.le_trans hcD (by rw [List.length_cons, List.length_nil, sizeLine_eq]; omega))) ?_)
      wp_walk
      have hx' : h'.get? x = some { cls := o.cls, dict := some h.objs.size, data := o.data, slots := o.slots } := ?_
      refine hq h' _ ⟨{ cls := o.cls, dict := some h.objs.size, data := o.data, slots := o.slots }, hx', hc, hnc, .inr ⟨h.objs.size, rfl, hxs.symm, ?_⟩⟩ (fun b ob hbx _ hb => ?_)
        (fun o₀ h₀ => by obtain rfl : o = o₀ := Option.some.inj (hx.symm.trans h₀); exact ⟨_, hx', rfl, rfl, fun _ => rfl, fun dx e => by rw [hdn] at e; cases e⟩)
      · obtain ⟨o', es, ep, e1, e2, e3, eu, e4⟩ := hn'
        exact ⟨o', es, ep, e1, e2, e3, eu, fun y => by rw [e4 y]; by_cases hy : y = name <;> simp [hy, hmA]⟩
      · exact (hs.2 b (Nat.ne_of_lt (Heap.lt_size hb))).trans ((Heap.get?_update_ne _ _ _ _ hbx).trans (Heap.get?_push_of_some _ hb))
      · refine (hs.2 x hxs).trans (Heap.get?_update_self _ hx₁ ?_)
        have hfr := (Heap.get?_some_iff.mp hx).2
        obtain ⟨oc, od, odt, osl⟩ := o
        cases odt <;> first | rfl | exact hfr
  · rw [hdx]
    refine wpAny_pure ?_
    show wpAny _ _ (Builtin.ObjectAttr.storeInDict dx (.str name _) name v) _ _ _
    unfold Builtin.ObjectAttr.storeInDict Builtin.ObjectAttr.newKeyGuard
    refine wpAny_bind (wpAny_pure (wpAny_bind (wpAny_nsSet1 hns fun h' hn' hs => ?_)))
    obtain ⟨oD, esD, epD, hoD, hdD, hcD⟩ := hn'.count (Within.cons name v hw)
    refine wpAny_bind (wpAny_lookBehind hoD (by rw [hdD]; exact pastItsLine_dict (Nat.le_trans hcD (by rw [List.length_cons, sizeLine_eq]; omega))) ?_)
    wp_walk
    refine hq h' _ ⟨o, (hs.2 x hne.symm).trans hx, hc, hnc, .inr ⟨dx, hdx, hne, hn'⟩⟩ (fun b ob _ hbd hb => ?_)
      (fun o₀ h₀ => by obtain rfl : o = o₀ := Option.some.inj (hx.symm.trans h₀); exact ⟨o, (hs.2 x hne.symm).trans hx, rfl, rfl, (fun e => absurd (hdx.symm.trans e) (fun z => nomatch z)), fun _ e => e⟩)
    exact (hs.2 b (hbd o dx hx hdx)).trans hb
end
/-- a fault that is being made: it lies apart from the frame and what was ahead -/
def FaultO (h₀ h : Heap) (L e : Addr) (mA : Str → Option Value) : Prop := ∃ oe a0, h.get? e = some oe ∧ oe.cls = .ref 60 ∧ oe.data = .fields #[a0, .none, .none, .none, .bool false, .none] ∧ e ≠ L ∧ h₀.get? e = none ∧
  ((oe.dict = none ∧ ∀ n, mA n = none) ∨ ∃ d : Addr, oe.dict = some d ∧ e < d ∧ h.Ns1 d mA ∧ d ≠ L ∧ h₀.get? d = none)
section
variable {w : World} {A : Around} {E : Value → Shared → Prop} {s : Shared} {h₀ : Heap} {L e : Addr} {m : Ns} {news : Led} {mA : Str → Option Value} {name : Str} {v : Value}
theorem base_init_F {l : Led} {t0 : Addr} {Q : Value → Shared → Prop} (F : Fr h₀ L s.heap m) (X₀ : (hdHeap w.params).In h₀) (N : News h₀ L s.heap l) (he : (e, excO t0) ∈ l) (hs : ∀ p ∈ news, p ∈ l ∧ p.1 < e)
    (h : ∀ h', Fr h₀ L h' m → News h₀ L h' news → FaultO h₀ h' L e (fun _ => none) → Q .none { s with heap := h' }) :
    wpAny (model PG w) A (call (.builtin "Exception.__init__") [.ref e, v]) Q E s :=
  base_init_N F X₀ N he fun h' t' F' N' => h h' F' (fun p hp => N' p (.tail _ (mem_wo.mpr ⟨(hs p hp).1, Nat.ne_of_lt (hs p hp).2⟩)))
    ⟨_, _, (N' _ (.head _)).1, rfl, rfl, (N' _ (.head _)).2.1, (N' _ (.head _)).2.2, .inl ⟨rfl, fun _ => rfl⟩⟩
theorem set_fault_F {ns : List Str} {Q : Unit → Shared → Prop} (F : Fr h₀ L s.heap m) (X₀ : (hdHeap w.params).In h₀) (N : News h₀ L s.heap news) (O : FaultO h₀ s.heap L e mA) (hs : ∀ p ∈ news, p.1 < e)
    (hf : findIn (hdHeap w.params) (.ref 60) name = some none) (hw : Within mA ns) (hsz : ns.length ≤ 100)
    (h : ∀ h' tk', Fr h₀ L h' m → News h₀ L h' news → FaultO h₀ h' L e (fun y => if y = name then some v else mA y) → Q () { s with heap := h', toks := tk' }) :
    wpAny (model PG w) A (setAttr (.ref e) name v) Q E s := by
  obtain ⟨hh, g, dr, t, os⟩ := s
  obtain ⟨oe, a0, h1, h2, h3, h4, h5, h6⟩ := O
  refine set_fault (mA := mA) (X₀.keeps F.keep) hf ⟨oe, h1, h2, fun c z => by rw [h3] at z; (cases z), ?_⟩ (fun h' tk' I hk ho => ?_) hw hsz
  · rcases h6 with h6 | ⟨d, d1, d2, d3, d4, d5⟩
    · exact .inl h6
    · exact .inr ⟨d, d1, Nat.ne_of_gt d2, d3⟩
  · obtain ⟨o1, g1, g2, g3, g4, g5⟩ := ho oe h1
    have fresh : ∀ dx, o1.dict = some dx → e < dx ∧ dx ≠ L ∧ h₀.get? dx = none ∧ (∀ b o, b ≠ e → b ≠ dx → hh.get? b = some o → h'.get? b = some o) := by
      intro dx hdx
      rcases h6 with ⟨z1, _⟩ | ⟨d, d1, d2, d3, d4, d5⟩
      · have := g4 z1
        rw [hdx] at this
        obtain rfl := Option.some.inj this
        refine ⟨Heap.lt_size h1, Nat.ne_of_gt F.ns.lt, next_is_new F, fun b o hb _ q => hk b o hb (fun o₀ dx q1 q2 => ?_) q⟩
        rw [h1] at q1
        obtain rfl := Option.some.inj q1
        rw [z1] at q2; cases q2
      · have := g5 d d1
        rw [hdx] at this
        obtain rfl := Option.some.inj this
        refine ⟨d2, d4, d5, fun b o hb hbd q => hk b o hb (fun o₀ dx' q1 q2 => ?_) q⟩
        rw [h1] at q1
        obtain rfl := Option.some.inj q1
        rw [d1] at q2
        obtain rfl := Option.some.inj q2
        exact hbd
    obtain ⟨o2, i1, i2, i3, i4⟩ := I
    obtain rfl : o1 = o2 := Option.some.inj (g1.symm.trans i1)
    rcases i4 with ⟨_, i5⟩ | ⟨dx, i5, i6, i7⟩
    · have := i5 name
      simp at this
    obtain ⟨f1, f2, f3, f4⟩ := fresh dx i5
    have F' : Fr h₀ L h' m := ⟨F.ns.at' fun o q => f4 L o (Ne.symm h4) (Ne.symm f2) q, fun b o q => f4 b o (fun z => by rw [z, h5] at q; cases q) (fun z => by rw [z, f3] at q; cases q) (F.keep b o q), F.above⟩
    have N' : News h₀ L h' news := fun p hp => ⟨f4 _ _ (Nat.ne_of_lt (hs p hp)) (Nat.ne_of_lt (Nat.lt_trans (hs p hp) f1)) (N p hp).1, (N p hp).2⟩
    exact h h' tk' F' N' ⟨o1, a0, g1, g2.trans h2, g3.trans h3, h4, h5, .inr ⟨dx, i5, f1, i7, f2, f3⟩⟩
end
end Mine
end
section
open PySem PySem.W PyProof.Rows PySem.Calls PyProof.Rows.LCg PySem.Spec
set_option maxRecDepth 100000
namespace Mine
/-- a fault flies through the frames l; G is the ground of the frame that was left last -/
def RaisedT (base G : Heap) (l : List Env) (e : Addr) (news : Led) (h : Heap) : Prop :=
  ∃ B a0, base.StaysIn B ∧ (∀ b o, G.get? b = some o → b ∉ l.filterMap (·.frame) → B.get? b = some o) ∧ (∀ q ∈ news, B.get? q.1 = some q.2 ∧ G.get? q.1 = none ∧ base.get? q.1 = none) ∧ Heap.FlyingW B l e (.ref 60) a0 h
/-- as RaisedT, the fault having been noted in the frame L -/
def HeldT (base G : Heap) (l : List Env) (e L : Addr) (news : Led) (h : Heap) : Prop :=
  ∃ B a0, base.StaysIn B ∧ (∀ b o, G.get? b = some o → b ∉ l.filterMap (·.frame) → B.get? b = some o) ∧ (∀ q ∈ news, B.get? q.1 = some q.2 ∧ G.get? q.1 = none ∧ base.get? q.1 = none) ∧ Heap.HeldW B l e (.ref 60) a0 L h
theorem fr_mem {env : Env} {outer : List Env} {L b : Addr} (hf : env.frame = some L) (hm : b ∈ (env :: outer).filterMap (·.frame)) : b = L ∨ b ∈ outer.filterMap (·.frame) := by
  obtain ⟨env', he, hf'⟩ := List.mem_filterMap.mp hm
  rcases List.mem_cons.mp he with rfl | he
  · exact .inl (Option.some.inj (hf'.symm.trans hf))
  · exact .inr (List.mem_filterMap.mpr ⟨env', he, hf'⟩)
section
variable {M : Model} {A : Around} {E : Value → Shared → Prop} {s' : Shared} {base g g₂ h : Heap} {outer : List Env} {L e : Addr} {m : Str → Option Value} {env : Env} {Q : Unit → Shared → Prop} {news : List (Addr × Obj)} {mA : Ns}
theorem flying_first (K : Below A base outer g) (F : Fr g L s'.heap m) (N : News g L s'.heap news) (O : FaultO g s'.heap L e mA) (hlt : ∀ p ∈ news, p.1 < e) (hf : env.frame = some L) (hk : env.scope.kind = .function) :
    ∃ B oe a0, base.StaysIn B ∧ (∀ b o, g.get? b = some o → b ∉ outer.filterMap (·.frame) → B.get? b = some o) ∧ (∀ q ∈ news, B.get? q.1 = some q.2 ∧ g.get? q.1 = none ∧ base.get? q.1 = none) ∧
      s'.heap.FunFrames B (env :: outer) ∧ s'.heap.get? e = some oe ∧ B.StaysIn s'.heap ∧ B.get? e = none ∧ oe.cls = .ref 60 ∧ oe.data = .fields #[a0, .none, .none, .none, .bool false, .none] := by
  obtain ⟨oe, a0, h1, h2, h3, h4, h5, _⟩ := O
  have K' := pushX K F hf hk
  have hin : ∀ env' ∈ (env :: outer), ∀ b, env'.frame = some b → b ∈ e :: (env :: outer).filterMap (·.frame) := fun env' he b hb => .tail _ (List.mem_filterMap.mpr ⟨env', he, hb⟩)
  refine ⟨hideAll s'.heap (e :: (env :: outer).filterMap (·.frame)), oe, a0, fun b o q => hideAll_get _ (K'.stays b o q) fun hm => ?_, fun b o q nm => hideAll_get _ (F.keep b o q) fun hm => ?_, fun q hq => ⟨hideAll_get _ (N q hq).1 fun hm => ?_, (N q hq).2.2, fresh_of_stays K.stays (N q hq).2.2⟩,
    funFrames_hide K'.frames hin, h1, fun b o q => of_hideAll _ q, hideAll_none _ (.head _), h2, h3⟩
  · rcases List.mem_cons.mp hm with rfl | hm
    · have := K.stays _ _ q
      rw [h5] at this; cases this
    · rw [(K'.frames.mem hm).1] at q; cases q
  · rcases List.mem_cons.mp hm with rfl | hm
    · rw [h5] at q; cases q
    · rcases fr_mem hf hm with z | z
      · rw [z, kts_self F] at q
        cases q
      · exact nm z
  · rcases List.mem_cons.mp hm with z | hm
    · exact Nat.ne_of_lt (hlt q hq) z
    · rcases fr_mem hf hm with z | z
      · exact (N q hq).2.1 z
      · obtain ⟨o, ho, _⟩ := (K.frames.mem z).2
        rw [(N q hq).2.2] at ho; cases ho
theorem leave_raiseT (K : Below A base outer g) (F : Fr g L s'.heap m) (N : News g L s'.heap news) (O : FaultO g s'.heap L e mA) (hlt : ∀ p ∈ news, p.1 < e) (hf : env.frame = some L) (hk : env.scope.kind = .function)
    (hQ : ∀ h', RaisedT base g outer e news h' → g.UpToSlots h' → Q () { s' with heap := h' }) : wpAny M (A.deeper env) (leaving env (.ref e)) Q E s' := by
  obtain ⟨B, oe, a0, b1, b2, b3, b4, b5, b6, b7, b8, b9⟩ := flying_first K F N O hlt hf hk
  refine wpAny_leaving_firstW (a0 := a0) (Around.frames_deeper K.stack) b4 hf b5 b6 b7 b9 rfl rfl fun h' hL => ?_
  obtain ⟨k1, ⟨_, _, k2⟩, k3, k4⟩ := hL
  rw [b8] at k3
  exact hQ h' ⟨B, a0, b1, b2, b3, k1, b7, k2, k3⟩ ((Heap.UpToSlots.of_keeps F.keep).trans k4)
theorem leave_onT (K : Below A base outer g) (F : Fr g L g₂ m) (R : RaisedT base g₂ (env :: outer) e news s'.heap) (hsm : g₂.UpToSlots s'.heap) (hf : env.frame = some L)
    (hQ : ∀ h', RaisedT base g outer e news h' → g.UpToSlots h' → Q () { s' with heap := h' }) : wpAny M (A.deeper env) (leaving env (.ref e)) Q E s' := by
  obtain ⟨B, a0, hB, hBG, hl, hfl⟩ := R
  exact wpAny_leaves_onW (Around.frames_deeper K.stack) hf hfl fun h' x1 x2 =>
    hQ h' ⟨B, a0, hB, fun b o q nm => hBG b o (F.keep b o q) (fun hm => by
      rcases fr_mem hf hm with z | z
      · rw [z, kts_self F] at q
        cases q
      · exact nm z), fun q hq => ⟨(hl q hq).1, kts_none F.keep (hl q hq).2.1, (hl q hq).2.2⟩, x1⟩ ((Heap.UpToSlots.of_keeps F.keep).trans (hsm.trans x2))
end
/-- where a raise statement has its fault -/
def RaisePost (E : Value → Shared → Prop) (v : Value) (s : Shared) : Prop := ∃ (e : Addr) (oe : Obj) (a0 : Value), v = .ref e ∧ FaultAt s.heap ∧ s.heap.get? e = some oe ∧ oe.cls = .ref 60 ∧ oe.data = .fields #[a0, .none, .none, .none, .bool false, .none] ∧ E (.ref e) s
theorem raise_fault {w : World} {A : Around} {E : Value → Shared → Prop} {s : Shared} {env : Env} {x : Expr} {pos : Pos} {Q : Flow → Shared → Prop} (hh : A.handled = none)
    (h : wpAny (model PG w) A (eval x env) (RaisePost E) E s) : wpAny (model PG w) A (exec (.Raise (some x) none pos) env) Q E s := by
  rw [arm_exec_Raise]
  refine wpAny_bind (wpAny_standAt ?_)
  simp only [evalOpt, Option.map]
  unfold raiseStmt
  refine wpAny_bind (wpAny_bind (wpAny_mono h (fun v s₁ h₁ => wpAny_bind (wpAny_standAt (wpAny_pure ?_))) fun _ _ x => x))
  obtain ⟨e, oe, a0, rfl, ⟨nm, q, N, bs, hdct, sn, sub, ab, col, dd, k0, k1, k2, k3, k5, hC⟩, he, hc, hd, hE⟩ := h₁
  obtain ⟨hp, g, d, tk, os⟩ := s₁
  obtain ⟨oc, od, odt, osl⟩ := oe
  dsimp only at hc hd
  subst hc hd
  have hcB : (Value.ref 60 :: .ref 47 :: bmB).contains (.type "BaseException") = true := by decide
  repeat (first | with_reducible refine wpAny_loadPart_at he ?_ | with_reducible refine wpAny_loadPart_at hC ?_ | (with_reducible refine wpAny_isSubtype_exc hC ?_; rw [hcB]) | wp_step)
  exact wpAny_raiseNew_none hh hE
theorem noteFrame_as {a b : Env} (h : a.frame = b.frame) (x : Value) : noteFrame x a = noteFrame x b := by
  unfold noteFrame PySem.frameOf
  rw [h]
theorem passOn_as {α : Type} {a b : Env} (h : a.frame = b.frame) (y : String) (x : Value) : (PySem.passOn y x a : Sem α) = PySem.passOn y x b := by
  unfold PySem.passOn
  rw [h]
section
variable {M : Model} {A : Around} {E : Value → Shared → Prop} {s' : Shared} {base g g₂ G h : Heap} {outer : List Env} {L e : Addr} {m : Str → Option Value} {env cenv : Env} {news : List (Addr × Obj)}
theorem note_T {Q : Unit → Shared → Prop} (hfr : A.frames = some (env :: outer)) (hf : env.frame = some L) (hc : cenv.frame = env.frame) (R : RaisedT base G (env :: outer) e news s'.heap)
    (hQ : ∀ h', HeldT base G (env :: outer) e L news h' → s'.heap.UpToSlots h' → Q () { s' with heap := h' }) : wpAny M A (noteFrame (.ref e) cenv) Q E s' := by
  obtain ⟨B, a0, hB, hBG, hl, hfl⟩ := R
  rw [noteFrame_as hc]
  exact wpAny_looks_onW hfr hf hfl fun h' x1 x2 => hQ h' ⟨B, a0, hB, hBG, hl, x1⟩ x2
theorem HeldT.but {C : Addr} {oC : Obj} (H : HeldT base G (env :: outer) e L ((C, oC) :: news) h) (hC : ∀ p ∈ news, p.1 ≠ C) {h' : Heap} (hs : Heap.SameBut C h h') : HeldT base G (env :: outer) e L news h' := by
  obtain ⟨B, a0, hB, hBG, hl, b1, b2, b3, b4⟩ := H
  obtain ⟨c1, c2, c3⟩ := hl _ (.head _)
  dsimp only at c1 c2 c3
  obtain ⟨oe, vs, T, oT, ts, t1, t2, t3, t4, t5, t6, t7, t8, t9⟩ := b4
  have ne : ∀ b, B.get? b = none → b ≠ C := fun b hb z => by rw [z, c1] at hb; cases hb
  have low : ∀ b, B.get? b = none → (hideAll B [C]).get? b = none := fun b hb => by
    cases q : (hideAll B [C]).get? b with
    | none => rfl
    | some o => have := of_hideAll _ q; rw [hb] at this; cases this
  have fr : ∀ {l : List Env}, h.FunFrames B l → h'.FunFrames (hideAll B [C]) l := by
    intro l
    induction l with
    | nil => exact fun _ => trivial
    | cons env' l ih =>
      rintro ⟨hk, ⟨L1, o1, hf1, hn1, ho1, hd1⟩, hr⟩
      exact ⟨hk, ⟨L1, o1, hf1, low _ hn1, hs.extBut _ _ (ne _ hn1) ho1, hd1⟩, ih hr⟩
  refine ⟨hideAll B [C], a0, fun b o q => hideAll_get _ (hB b o q) fun hm => ?_, fun b o q nm => hideAll_get _ (hBG b o q nm) fun hm => ?_, fun q hq => ⟨hideAll_get _ (hl q (.tail _ hq)).1 fun hm => hC q hq (List.mem_singleton.mp hm), (hl q (.tail _ hq)).2⟩,
    fun b o q => ?_, low _ b2, fr b3, oe, vs, T, oT, ts, hs.extBut _ _ (ne _ b2) t1, t2, t3, t4, low _ t5, t6, hs.extBut _ _ (ne _ t5) t7, t8, t9⟩
  · rw [List.mem_singleton.mp hm, c3] at q; cases q
  · rw [List.mem_singleton.mp hm, c2] at q; cases q
  · have hbC : b ≠ C := fun z => by
      rw [z] at q
      have : (hideAll B [C]).get? C = none := hideAll_none _ (.head _)
      rw [this] at q; cases q
    exact hs.extBut _ _ hbC (b1 b o (of_hideAll _ q))
end
end Mine
end
section
open PySem PySem.W PyProof.Rows PySem.Calls PyProof.Rows.LCg
set_option maxRecDepth 100000
namespace Mine
section
variable {M : Model} {A : Around} {E : Value → Shared → Prop} {s : Shared} {env : Env}
/-- what a comprehension whose element raises leaves -/
def raisePost (M : Model) (A : Around) (E : Value → Shared → Prop) (fr : Option Addr) (C : Addr) (r : Result) (s' : Shared) : Prop :=
  match r with
  | .ok _ => False
  | .error x => ∃ m, s'.heap.Ns C m ∧ ∀ h', Heap.SameBut C s'.heap h' → ∀ cenv : Env, cenv.locals = C → cenv.frame = fr → wpAny M A (PySem.passOn "comprehension.variables-let-go" x cenv : Sem Value) (fun _ _ => False) E { s' with heap := h' }
theorem comprehension_raise {e : Expr} {scope : Scope} {pos : Pos} {newAcc first : Sem Value} {g : Comprehension} {gs : List Comprehension} {cl : List (Str × Addr)} {use : Option (Value → Sem Unit)} {Q : Value → Shared → Prop}
    (hcl : clausesOf e = g :: gs) (hs : ∀ x, foldedSetIterable g.iter env x = pure x) (hclos : closureFor scope env = pure cl)
    (hkind : scope.kind = .function) (hnames : ∀ x ∈ scope.names, x.2 = .local → scope.names.lookup x.1 = some .local)
    (h : wpAny M A first (fun x s₁ => wpAny M A (pyIter x) (fun it s₂ => wpAny M A newAcc (fun acc s₃ =>
      wpAny M A (newFunctionEnv scope env.globals cl [] env.qual none .none (some env)) (fun cenv s₄ =>
        cenv.frame = env.frame ∧ codeAny M A (.compStart e 0 it acc { cenv with scope := relabel scope env }) (raisePost M A E env.frame cenv.locals) s₄) E s₃) E s₂) E s₁) E s) :
    wpAny M A (comprehension e scope env pos newAcc false first use) Q E s := by
  unfold comprehension
  rw [hclos, hcl]
  refine wpAny_bind (wpAny_mono h (fun x s₁ h₁ => wpAny_bind (wpAny_standAt (wpAny_bind (wpAny_of_eq (hs x) (wpAny_bind (wpAny_holding (wpAny_mono h₁ (fun it s₂ h₂ =>
    wpAny_standIf (wpAny_bind (wpAny_mono h₂ (fun acc s₃ h₃ => wpAny_bind (wpAny_pure (wpAny_bind (wpAny_mono h₃ (fun cenv s₄ h₄ => ?_) fun _ _ h' => h')))) fun _ _ h' => h')))
      fun _ _ h' => h'))))))) fun _ _ h' => h')
  dsimp only
  have hv : ∀ x ∈ (scope.names.filter fun x => (x.2 == .local || x.2 == .cell) && x.1 != (".0" : Str)).reverse, x.2 = .local →
      Env.kindOf { cenv with scope := relabel scope env } x.1 = some .local := fun x hx hl => lookup_relabel_local (hnames x (List.mem_filter.mp (List.mem_reverse.mp hx)).1 hl)
  refine wpAny_holding (wpAny_bind (wpAny_attempt (wpAny_holding (wpAny_run (codeAny_mono h₄.2 fun r s' hr => ?_)))))
  cases r with
  | ok f => exact hr.elim
  | error x =>
    obtain ⟨m, hn, hr⟩ := hr
    exact wpAny_bind (wpAny_holding (wpAny_comp_letGo (cenv := { cenv with scope := relabel scope env }) hkind _ s' m hv hn fun h' m' _ hs' => wpAny_mono (hr h' hs' _ rfl h₄.1) (fun _ _ f => f.elim) fun _ _ y => y))
end
section
variable {M : Model} {A : Around} {E : Value → Shared → Prop} {s' : Shared} {base g g₂ G h : Heap} {outer : List Env} {L e : Addr} {m : Str → Option Value} {env cenv : Env} {news : List (Addr × Obj)}
theorem HeldT.less {l : List Env} {news' : Led} (H : HeldT base G l e L news h) (hs : ∀ p ∈ news', p ∈ news) : HeldT base G l e L news' h := by
  obtain ⟨B, a0, b1, b2, b3, b4⟩ := H
  exact ⟨B, a0, b1, b2, fun q hq => b3 q (hs q hq), b4⟩
theorem RaisedT.less {l : List Env} {news' : Led} (H : RaisedT base G l e news h) (hs : ∀ p ∈ news', p ∈ news) : RaisedT base G l e news' h := by
  obtain ⟨B, a0, b1, b2, b3, b4⟩ := H
  exact ⟨B, a0, b1, b2, fun q hq => b3 q (hs q hq), b4⟩
theorem HeldT.at {l : List Env} (H : HeldT base G l e L news h) : ∀ p ∈ news, h.get? p.1 = some p.2 := by
  obtain ⟨B, a0, b1, b2, b3, b4, _⟩ := H
  exact fun p hp => b4 _ _ (b3 p hp).1
theorem pass_T {α : Type} {y : String} {Q : α → Shared → Prop} {l : List Env} (H : HeldT base G l e L news s'.heap) (hf : cenv.frame = some L)
    (hE : ∀ h', HeldT base G l e L news h' → s'.heap.UpToSlots h' → E (.ref e) { s' with heap := h' }) : wpAny M A (PySem.passOn y (.ref e) cenv : Sem α) Q E s' := by
  obtain ⟨B, a0, hB, hBG, hl, b1, b2, b3, b4⟩ := H
  obtain ⟨oe, vs, T, oT, ts, t1, t2, t3, t4, t5, t6, t7, t8, t9⟩ := b4
  have hsz3 : 3 < ts.size := (Array.getElem?_eq_some_iff.mp t9).1
  have other : ∀ b, b ≠ T → (s'.heap.update T (Obj.mapFields (·.setIfInBounds 3 ((some L : Option Addr).elim Value.none fun f => rawInt f)))).get? b = s'.heap.get? b :=
    fun b hb => Heap.get?_update_other _ _ (Ne.symm hb)
  have noRecord : ∀ b o, s'.heap.get? b = some o → (∀ vs, o.data ≠ .fields vs) → b ≠ T := fun b o hb hnf q => by
    rw [q, t7] at hb; injection hb with hb; subst hb; exact hnf ts t8
  unfold PySem.passOn
  rw [hf]
  refine wpAny_bind (wpAny_field t1 t3 t4 ?_)
  rw [if_neg (show ¬ (Value.ref T == Value.none) = true from by simp)]
  refine wpAny_bind ?_
  unfold PySem.setFlight
  refine wpAny_bind (wpAny_field t1 t3 t4 ?_)
  rw [if_pos (show (Value.ref T != Value.none) = true from by simp)]
  refine wpAny_setField t7 t8 hsz3 (wpAny_throw (hE _ ⟨B, a0, hB, hBG, hl, fun b o hbo => (other b fun q => by rw [q, t5] at hbo; cases hbo).trans (b1 b o hbo), b2,
    b3.of_keeps fun b o hb hnf => ⟨o, (other b (noRecord b o hb hnf)).trans hb, rfl⟩, ?_⟩ fun b o hb hnf => ⟨o.slots, (other b (noRecord b o hb hnf)).trans hb⟩))
  exact ⟨oe, vs, T, _, _, (other e (Ne.symm t6)).trans t1, t2, t3, t4, t5, t6, Heap.get?_update_self _ t7 (Obj.isFreed_of_fields (Obj.data_mapFields t8 _)), Obj.data_mapFields t8 _, by simp [hsz3]⟩
theorem leave_heldT {Q : Unit → Shared → Prop} (K : Below A base outer g) (F : Fr g L g₂ m) (H : HeldT base g₂ (env :: outer) e L news s'.heap) (hsm : g.UpToSlots s'.heap) (hf : env.frame = some L)
    (hQ : ∀ h', RaisedT base g outer e news h' → g.UpToSlots h' → Q () { s' with heap := h' }) : wpAny M (A.deeper env) (leaving env (.ref e)) Q E s' := by
  obtain ⟨B, a0, hB, hBG, hl, hh⟩ := H
  unfold leaving
  refine wpAny_bind (wpAny_noteFrame_againW hf hh.2.2.2 ?_)
  refine wpAny_landsW hh fun h' hfl hU => ?_
  obtain ⟨k1, k2, ⟨_, _, k3⟩, k4⟩ := hfl
  exact hQ h' ⟨B, a0, hB, fun b o q nm => hBG b o (F.keep b o q) (fun hm => by
      rcases fr_mem hf hm with z | z
      · rw [z, kts_self F] at q
        cases q
      · exact nm z), fun q hq => ⟨(hl q hq).1, kts_none F.keep (hl q hq).2.1, (hl q hq).2.2⟩, k1, k2, k3, k4⟩ (hsm.trans hU)
end
section
variable {w : World} {A : Around} {s : Shared} {base h₀ : Heap} {L : Addr} {m : Ns} {news : Led} {E : Value → Shared → Prop} {env : Env} {outer : List Env}
/-- a comprehension whose first element raises -/
structure CompBad (w : World) (A : Around) (base h₀ : Heap) (L : Addr) (m : Ns) (env : Env) (outer : List Env) (elt target : Expr) (scope : Scope) (cl : List (Str × Addr)) (s₂ : Shared) (n : Nat) (P : Nat → Value → Prop) (keep : Led) (news : Led) (Bd : Value → Ns → Prop) : Prop where
  keeps : ∀ p ∈ keep, p ∈ news
  pos : 0 < n
  binds : ∀ v C (s' : Shared) (m' : Ns) (Q' : Unit → Shared → Prop) (E' : Value → Shared → Prop), P 0 v → s'.heap.Ns C m' → (∀ p ∈ keep, s'.heap.get? p.1 = some p.2) →
    (∀ h'' tk'' m'', h''.Ns C m'' → Bd v m'' → (∀ b o, b ≠ C → s'.heap.get? b = some o → h''.get? b = some o) → Q' () { s' with heap := h'', toks := tk'' }) → wpAny (model PG w) A (assign target (compEnvC scope cl C env) v) Q' E' s'
  turn : ∀ v I oI C oC D m₂ h tk (Q' : Value → Shared → Prop) (E' : Value → Shared → Prop), P 0 v → NsObj oC m₂ → Bd v m₂ → Fr h₀ L h m → News h₀ L h ((I, oI) :: (C, oC) :: (D, lst []) :: news) → (∀ p ∈ news, p.1 ≠ I ∧ p.1 ≠ C ∧ p.1 ≠ D) → ((@Ne Nat I C) ∧ (@Ne Nat I D) ∧ (@Ne Nat C D)) →
    (∀ e G h' tk', Fr h₀ L G m → RaisedT base G (env :: outer) e ((I, oI) :: (C, oC) :: (D, lst []) :: news) h' → G.UpToSlots h' → E' (.ref e) { s₂ with heap := h', toks := tk' }) →
    wpAny (model PG w) A (eval elt (compEnvC scope cl C env)) Q' E' { s₂ with heap := h, toks := tk }
theorem upto_but {C : Addr} {g h h' : Heap} (hU : g.UpToSlots h) (hg : g.get? C = none) (hs : Heap.SameBut C h h') : g.UpToSlots h' := fun b o hb hnf => by
  obtain ⟨sl, hsl⟩ := hU b o hb hnf
  exact ⟨sl, hs.extBut _ _ (fun q => by rw [q, hg] at hb; cases hb) hsl⟩
theorem comp_block_raise {elt target iter : Expr} {scope : Scope} {cl : List (Str × Addr)} {pos : Pos} {s₁ s₂ : Shared} {o : Obj} {fp : List Addr} {n : Nat} {P : Nat → Value → Prop} {St : Nat → Heap → Prop} {keep : Led} {Bd : Value → Ns → Prop}
    (hs₂ : s₂ = { s₁ with heap := s₁.heap.push o })
    (W : Walks PG w A s₁.heap.objs.size fp [s₁.heap.objs.size] n P St) (hfp : ∀ b ∈ fp, b = s₁.heap.objs.size ∨ (∃ q, h₀.get? b = some q) ∨ ∃ q, (b, q) ∈ keep)
    (hobj : ∀ i h, St i h → ∃ o, h.get? s₁.heap.objs.size = some o)
    (hgo : ∀ target i v (s' : Shared) (Q' : Unit → Shared → Prop) (E' : Value → Shared → Prop), St i s'.heap → Q' () s' → wpAny (model PG w) A (letOwnedTupleGo target (.ref s₁.heap.objs.size) v) Q' E' s')
    (hst : St 0 (s₁.heap.push o)) (F : Fr h₀ L s₁.heap m) (N : News h₀ L s₁.heap news)
    (hcell : ∀ y ∈ scope.names, y.2 ≠ .cell) (hkind : scope.kind = .function) (hfr : A.frames = some (env :: outer)) (hf : env.frame = some L)
    (OK : ∀ s₂, CompBad w A base h₀ L m env outer elt target scope cl s₂ n P keep news Bd)
    (hE : ∀ e G h' tk', Fr h₀ L G m → HeldT base G (env :: outer) e L news h' → h₀.UpToSlots h' → E (.ref e) { s₁ with heap := h', toks := tk' }) :
    wpAny (model PG w) A (newList []) (fun acc s₃ => wpAny (model PG w) A (newFunctionEnv scope env.globals cl [] env.qual none .none (some env)) (fun cenv s₄ =>
      cenv.frame = env.frame ∧ codeAny (model PG w) A (.compStart (.ListComp elt [⟨target, iter, [], 0⟩] scope pos) 0 (.ref s₁.heap.objs.size) acc { cenv with scope := relabel scope env }) (raisePost (model PG w) A E env.frame cenv.locals) s₄) E s₃) E s₂ := by
  have F₂ : Fr h₀ L s₂.heap m := by rw [hs₂]; exact F.push _
  have N₂ : News h₀ L s₂.heap news := by rw [hs₂]; exact fun p hp => ⟨Heap.get?_push_of_some _ (N p hp).1, (N p hp).2⟩
  have hI₀ : h₀.get? s₁.heap.objs.size = none := next_is_new F
  have hsz₂ : s₂.heap.objs.size = s₁.heap.objs.size + 1 := by rw [hs₂]; exact Heap.size_push _ _
  have hst : St 0 s₂.heap := by rw [hs₂]; exact hst
  have offI : ∀ p ∈ news, p.1 ≠ s₁.heap.objs.size := fun p hp => Nat.ne_of_lt (Heap.lt_size (N p hp).1)
  have hIL : L ≠ s₁.heap.objs.size := Nat.ne_of_lt F.ns.lt
  have hE : ∀ e G h' tk', Fr h₀ L G m → HeldT base G (env :: outer) e L news h' → h₀.UpToSlots h' → E (.ref e) { s₂ with heap := h', toks := tk' } := by rw [hs₂]; exact hE
  have OK := OK s₂
  have hfp₂ : ∀ b ∈ fp, b < s₂.heap.objs.size := fun b hb => by
    rw [hsz₂]
    rcases hfp b hb with e | ⟨q, e⟩ | ⟨q, e⟩
    · rw [e]; exact Nat.lt_succ_self _
    · exact Nat.lt_succ_of_lt (Heap.lt_size (F.keep _ _ e))
    · exact Nat.lt_succ_of_lt (Heap.lt_size (N _ (OK.keeps _ e)).1)
  generalize hI : s₁.heap.objs.size = I at *
  refine wpAny_newObj_type (wpAny_newFunctionEnv hcell (by intro y hy; simp at hy) (fun h₁ hns₁ hsb₁ => ?_) hkind)
  dsimp only at hns₁ hsb₁ ⊢
  generalize hH2 : s₂.heap.push { cls := .type "list", dict := none, data := .seq ([] : List Value).toArray } = H2 at hns₁ hsb₁ ⊢
  have hC : H2.objs.size = s₂.heap.objs.size + 1 := by rw [← hH2, Heap.size_push]
  have hDC : s₂.heap.objs.size ≠ H2.objs.size := by rw [hC]; exact Nat.ne_of_lt (Nat.lt_succ_self _)
  have below : ∀ b, b < s₂.heap.objs.size → b ≠ H2.objs.size ∧ b ≠ s₂.heap.objs.size := fun b hb => ⟨by rw [hC]; exact Nat.ne_of_lt (Nat.lt_succ_of_lt hb), Nat.ne_of_lt hb⟩
  have hCf : H2.objs.size ∉ fp := fun hm => by have := hfp₂ _ hm; rw [hC] at this; exact Nat.lt_irrefl _ (Nat.lt_of_succ_lt this)
  have hIf : I ∈ fp := W.sub I (List.mem_singleton.mpr rfl)
  have hIlt : I < s₂.heap.objs.size := hfp₂ I hIf
  have old : ∀ b o, s₂.heap.get? b = some o → h₁.get? b = some o := fun b o e => hsb₁.extBut b o (below b (Heap.lt_size e)).1 (Heap.get?_push_of_some _ (hH2 ▸ Heap.get?_push_of_some _ e))
  have hacc : h₁.get? s₂.heap.objs.size = some (lst []) := hsb₁.extBut _ _ hDC (Heap.get?_push_of_some _ (hH2 ▸ Heap.get?_push_size _ rfl))
  have hst₁ : St 0 h₁ := W.frame _ _ _ hst fun b _ o e => old b o e
  have fresh : ∀ a, s₂.heap.objs.size ≤ a → s₂.heap.get? a = none := fun a ha => by
    cases e : s₂.heap.get? a with
    | none => rfl
    | some o' => exact absurd (Heap.lt_size e) (Nat.not_lt.mpr ha)
  have fresh₀ : ∀ a, s₂.heap.objs.size ≤ a → h₀.get? a = none := fun a ha => by
    cases e : h₀.get? a with
    | none => rfl
    | some o' => have := F₂.keep a o' e; rw [fresh a ha] at this; cases this
  have hD₀ : h₀.get? s₂.heap.objs.size = none := fresh₀ _ (Nat.le_refl _)
  have hC₀ : h₀.get? H2.objs.size = none := fresh₀ _ (by rw [hC]; exact Nat.le_succ _)
  have hLlt : L < s₂.heap.objs.size := F₂.ns.lt
  have hDL : s₂.heap.objs.size ≠ L := Ne.symm (below L hLlt).2
  have hCL : H2.objs.size ≠ L := Ne.symm (below L hLlt).1
  have hCI : I ≠ H2.objs.size := (below I hIlt).1
  have hDI : I ≠ s₂.heap.objs.size := (below I hIlt).2
  have off₀ : ∀ p ∈ news, p.1 ≠ I ∧ p.1 ≠ H2.objs.size ∧ p.1 ≠ s₂.heap.objs.size := fun p hp => ⟨offI p hp, (below _ (Heap.lt_size (N₂ p hp).1)).1, (below _ (Heap.lt_size (N₂ p hp).1)).2⟩
  refine ⟨rfl, ?_⟩
  have loop : ∀ s₃ : Shared, s₃ = { s₂ with heap := h₁, toks := s₂.toks + ([] : List (Str × Value)).length } →
      codeAny (model PG w) A (.compLoop (.ListComp elt [⟨target, iter, [], 0⟩] scope pos) 0 (.ref I) (.ref s₂.heap.objs.size) (compEnvC scope cl H2.objs.size env))
        (raisePost (model PG w) A E env.frame H2.objs.size) s₃ := by
    rintro s₃ rfl
    refine comp_loopG (fun _ s' => s' = { s₂ with heap := h₁, toks := s₂.toks + ([] : List (Str × Value)).length }) ?_ 0 rfl
    rintro k s' rfl
    refine W.item 0 _ _ _ OK.pos hst₁ fun v h₂ tk₂ hPv hst₂ hk₂ => ?_
    refine hgo _ _ _ _ _ _ hst₂ ?_
    have N₁ : News h₀ L h₁ ((s₂.heap.objs.size, lst []) :: news) := fun p hp => by
      rcases List.mem_cons.mp hp with rfl | hp
      · exact ⟨hacc, hDL, hD₀⟩
      · exact ⟨old _ _ (N₂ p hp).1, (N₂ p hp).2⟩
    have N₂ : News h₀ L h₂ ((s₂.heap.objs.size, lst []) :: news) := news_but N₁ hk₂ fun p hp => by
      rcases List.mem_cons.mp hp with rfl | hp
      · exact Ne.symm hDI
      · exact (off₀ p hp).1
    refine OK.binds v _ _ _ _ _ hPv (hns₁.at' fun o e => hk₂ _ o (by simpa using Ne.symm hCI) e) (fun p hp => (N₂ _ (List.mem_cons_of_mem _ (OK.keeps _ hp))).1) fun h₃ tk₃ m₃ hn₃ hB hs₃ => ?_
    have hst₃ : St (0 + 1) h₃ := W.frame _ _ _ hst₂ fun b hb o e => hs₃ b o (fun q => hCf (by have q' : b = H2.objs.size := q; rw [← q']; exact hb)) e
    obtain ⟨oI, heI⟩ := hobj _ _ hst₃
    obtain ⟨oC, heC, hoC⟩ := ns_obj hn₃
    have F₂' : Fr h₀ L h₂ m := fr_but (F₂.keeps old) hk₂ hIL hI₀
    have F₃ : Fr h₀ L h₃ m := ⟨F₂'.ns.at' fun o e => hs₃ L o (Ne.symm hCL) e, fun b o e => hs₃ b o (fun q => by have q' : b = H2.objs.size := q; rw [q', hC₀] at e; cases e) (F₂'.keep b o e), F₂'.above⟩
    have N₃ : News h₀ L h₃ ((I, oI) :: (H2.objs.size, oC) :: (s₂.heap.objs.size, lst []) :: news) := fun p hp => by
      rcases List.mem_cons.mp hp with rfl | hp
      · exact ⟨heI, Ne.symm hIL, hI₀⟩
      · rcases List.mem_cons.mp hp with rfl | hp
        · exact ⟨heC, hCL, hC₀⟩
        · have z := N₂ p hp
          refine ⟨hs₃ _ _ ?_ z.1, z.2⟩
          rcases List.mem_cons.mp hp with rfl | hp
          · exact hDC
          · exact (off₀ p hp).2.1
    show wpAny _ A (pure true) _ _ _
    refine wpAny_pure ?_
    simp only [if_true]
    refine OK.turn v I oI H2.objs.size oC s₂.heap.objs.size m₃ h₃ tk₃ _ _ hPv hoC hB F₃ N₃ off₀ ⟨hCI, hDI, Ne.symm hDC⟩ fun e G h' tk' FG R U => ?_
    show wpAny _ A (noteFrame (.ref e) (compEnvC scope cl H2.objs.size env)) _ _ _
    refine note_T hfr hf rfl R fun h'' H U' => ?_
    refine ⟨m₃, hoC.ns (H.at (H2.objs.size, oC) (.tail _ (.head _))), fun h₄ hs₄ cenv _ hcf => ?_⟩
    have H₂ : HeldT base G (env :: outer) e L news h₄ := HeldT.but (oC := oC) (H.less fun p hp => by
      rcases List.mem_cons.mp hp with rfl | hp
      · exact .tail _ (.head _)
      · exact .tail _ (.tail _ (.tail _ hp))) (fun p hp => (off₀ p hp).2.1) hs₄
    have U₂ : h₀.UpToSlots h₄ := upto_but (((Heap.UpToSlots.of_keeps FG.keep).trans U).trans U') hC₀ hs₄
    exact pass_T (s' := ⟨h₄, _, _, _, _⟩) H₂ (hcf.trans hf) fun h₅ H₃ U₃ => hE e G h₅ _ FG H₃ (U₂.trans U₃)
  exact codeAny_compStart_list (loop _ rfl) (W.self 0 _ _ _ hst₁ (loop _ rfl))
/-- a comprehension's source is told, and its first element raises -/
inductive CompBadAt (w : World) (A : Around) (base h₀ : Heap) (L : Addr) (m : Ns) (env : Env) (outer : List Env) (elt target : Expr) (scope : Scope) (cl : List (Str × Addr)) (E : Value → Shared → Prop) (xv : Value) (s₁ : Shared) : Prop
  | intro (n : Nat) (P : Nat → Value → Prop) (keep news : Led) (Bd : Value → Ns → Prop) (src : Src w A h₀ xv n P keep s₁) (fr : Fr h₀ L s₁.heap m) (nws : News h₀ L s₁.heap news)
    (ok : ∀ s₂, CompBad w A base h₀ L m env outer elt target scope cl s₂ n P keep news Bd) (done : ∀ e G h' tk', Fr h₀ L G m → HeldT base G (env :: outer) e L news h' → h₀.UpToSlots h' → E (.ref e) { s₁ with heap := h', toks := tk' }) : CompBadAt w A base h₀ L m env outer elt target scope cl E xv s₁
theorem comp_assign_raise {elt target iter : Expr} {y : Str} {py : Pos} {scope : Scope} {cl : List (Str × Addr)} {pos spos : Pos} {Q : Flow → Shared → Prop} {A₁ : Around} (_K : Below A₁ base outer h₀) (_F : Fr h₀ L s.heap m)
    (hsw : swapsWith (.ListComp elt [⟨target, iter, [], 0⟩] scope pos) (some (.Name y py)) spos.line env = pure true)
    (hclos : closureFor scope env = pure cl) (hcell : ∀ z ∈ scope.names, z.2 ≠ .cell) (hkind : scope.kind = .function)
    (hnames : ∀ z ∈ scope.names, z.2 = .local → scope.names.lookup z.1 = some .local) (hfr : A.frames = some (env :: outer)) (hf : env.frame = some L)
    (h : wpAny (model PG w) A (eval iter env) (CompBadAt w A base h₀ L m env outer elt target scope cl E) E s)
    (hs : ∀ x, foldedSetIterable iter env x = pure x := by intro _; rfl) :
    wpAny (model PG w) A (exec (.Assign [.Name y py] (.ListComp elt [⟨target, iter, [], 0⟩] scope pos) spos) env) Q E s := by
  rw [exec_Assign_Name_used _ _ _ _ hsw]
  refine wpAny_bind (wpAny_standAt (wpAny_bind ?_))
  show wpAny _ A (do let _ ← comprehension (.ListComp elt [⟨target, iter, [], 0⟩] scope pos) scope env _ (newList []) false (eval iter env) (some (assign (.Name y py) env))) _ _ s
  refine wpAny_bind (comprehension_raise (use := some (assign (.Name y py) env)) rfl hs hclos hkind hnames (wpAny_mono h (fun xv s₁ h₁ => ?_) fun _ _ e => e))
  obtain ⟨n, P, keep, news, Bd, S, F, N, OK, fin⟩ := h₁
  refine S _ _ fun o fp St W hfp hobj hgo hof hst => ?_
  exact comp_block_raise rfl W hfp hobj hgo hst F N hcell hkind hfr hf OK fin
end
end Mine
end
section
open PySem PySem.W PyProof.Rows PySem.Calls PyProof.Rows.LCg
set_option maxRecDepth 100000
namespace Mine
section
variable {A₀ : Around} {base g G B h₅ : Heap} {outer : List Env} {L : Addr} {m : Str → Option Value} {env : Env}
theorem ground_T (K : Below A₀ base outer g) (F : Fr g L G m) (hf : env.frame = some L) (hBG : ∀ b o, G.get? b = some o → b ∉ (env :: outer).filterMap (·.frame) → B.get? b = some o) (hBh : B.StaysIn h₅) (hsm : G.UpToSlots h₅) :
    ∃ g', KtsTurn (outer.filterMap (·.frame)) g g' ∧ Fr g' L h₅ m ∧ Below A₀ base outer g' := by
  obtain ⟨T, S⟩ := kts_turn_at (h := h₅) (fs := outer.filterMap (·.frame)) (g := g)
    (fun b hb => by
      obtain ⟨_, o, ho, _⟩ := K.frames.mem hb
      exact ⟨o, ho⟩)
    (fun b o e nm => hBh b o (hBG b o (F.keep b o e) (fun hm => by
      rcases fr_mem hf hm with z | z
      · rw [z, kts_self F] at e
        cases e
      · exact nm z)))
    (fun b o e hm => by
      obtain ⟨_, o', ho', hd⟩ := K.frames.mem hm
      rw [e] at ho'
      cases ho'
      exact hsm b o (F.keep b o e) hd)
  refine ⟨_, T, ⟨hsm.ns F.ns, S, by rw [T.size]; exact F.above⟩, ⟨K.stack, fun b o e => T.other b o (K.stays b o e) (fun hm => by
    rw [(K.frames.mem hm).1] at e
    cases e), K.frames.of_keeps fun b o e _ => ?_⟩⟩
  obtain ⟨sl, hs⟩ := T.up e
  exact ⟨_, hs, rfl⟩
end
section
variable {w : World} {A₀ : Around} {E : Value → Shared → Prop} {s' : Shared} {base g G : Heap} {outer : List Env} {L a e : Addr} {m : Str → Option Value} {name : Str} {scope : Scope} {cd : Value}
  {b₀ : Stmt} {suite : List Stmt} {pos np : Pos} {rest : List ExceptHandler} {Q : Flow → Shared → Prop} {news : List (Addr × Obj)} {mean : ExcName → Option Value} {mg mb : Str → Option Value} {x : Str}
theorem caught_T (R : RaisedT base G (envOf name scope L a cd :: outer) e news s'.heap) (F : Fr g L G m) (K : Below A₀ base outer g) (hsm : G.UpToSlots s'.heap) (XB : (hdHeap w.params).In base) (TB : TopC mean mg mb base)
    (ex : nsIn (hdHeap w.params) mainGlobals x = some (some (.ref 60)))
    (k : ∀ h' g', KtsTurn (outer.filterMap (·.frame)) g g' → Fr g' L h' m → News g' L h' news → Below A₀ base outer g' → (hdHeap w.params).In g' → TopC mean mg mb g' →
      wpAny (model PG w) ((A₀.deeper (envOf name scope L a cd)).mark (some (.ref e))) (execs (b₀ :: suite) (envOf name scope L a cd)) Q E { s' with heap := h' })
    (hk : scope.kind = .function := by rfl) (hx : (envOf name scope L a cd).kindOf x = some .globalImplicit := by rfl) (hd : (x == ("__debug__" : Str)) = false := by decide)
    (hE : PassesOwnAt (model PG w) ((A₀.deeper (envOf name scope L a cd)).mark (some (.ref e))) (A₀.deeper (envOf name scope L a cd)) (envOf name scope L a cd) E := by passes_own) :
    wpAny (model PG w) (A₀.deeper (envOf name scope L a cd)) (noteFrame (.ref e) (envOf name scope L a cd))
      (fun _ s₂ => wpAny (model PG w) (A₀.deeper (envOf name scope L a cd)) (setFlight (.ref e) none) (fun _ s₃ =>
        wpAny (model PG w) (A₀.deeper (envOf name scope L a cd)) (handleBy (.ref e) (envOf name scope L a cd) (.ExceptHandler (some (.Name x np)) none (b₀ :: suite) pos :: rest)) Q E s₃) E s₂) E s' := by
  obtain ⟨B, a0, hB, hBG, hl, hfl⟩ := R
  have hL : B.get? L = none := by
    obtain ⟨_, ⟨L', _, hf, hn', _⟩, _⟩ := hfl.2.2.1
    obtain rfl : L = L' := Option.some.inj hf
    exact hn'
  refine wpAny_looks_onW (Around.frames_deeper K.stack) rfl hfl fun h₄ hheld₄ hsm₄ => ?_
  refine wpAny_landsW hheld₄ fun h₅ hheld hsm₅' => ?_
  have hsm₅ := hsm₄.trans hsm₅'
  obtain ⟨g₅, T₅, F₅, K₅⟩ := ground_T K F rfl hBG hheld.1 (hsm.trans hsm₅)
  have X₅ : (Mine.hdHeap w.params).In g₅ := XB.keeps K₅.stays
  have P₅ := topRead_of (TB.keeps K₅.stays)
  obtain ⟨ob, hob, hobc⟩ := hheld.there
  obtain ⟨nm, q', N, bs, hdct, sn, sub, ab, col, dd, k0, k1, k2, k3, k5, hC⟩ := fault_at X₅
  have hC₅ := F₅.keep _ _ hC
  refine wpAny_handleBy_cons (codeAny_handlers_test (name_K F₅ X₅ P₅ ex ?_ hk hx hd)) (by intro q; cases q)
  refine wpAny_excMatches_sub_self hC₅ hob hobc (by decide) (codeAny_handlers_suite ?_)
  refine lands_againW hheld fun h₆ hfl₆ hsm₆ => ?_
  obtain ⟨g₆, T₆, F₆, K₆⟩ := ground_T K F rfl hBG hfl₆.1 ((hsm.trans hsm₅).trans hsm₆)
  have Nl : News g₆ L h₆ news := fun q hq => ⟨hfl₆.1 _ _ (hl q hq).1, (fun z => by have := (hl q hq).1; rw [z, hL] at this; cases this), T₆.none_ _ (kts_none F.keep (hl q hq).2.1)⟩
  exact wpAny_passesOwnAt hE (k h₆ g₆ T₆ F₆ Nl K₆ (XB.keeps K₆.stays) (TB.keeps K₆.stays))
end
section
variable {w : World} {A A₀ : Around} {s : Shared} {base h₀ : Heap} {L : Addr} {m : Str → Option Value} {env : Env} {news : List (Addr × Obj)} {R : Result → Shared → Prop}
theorem groundXT (B : Below A₀ base [] h₀) (F : Fr h₀ L s.heap m) (N : News h₀ L s.heap news) (hA : A.frames = some [env]) (hf : env.frame = some L) (hke : env.scope.kind = .function) :
    Fr h₀ L (hideAll s.heap (news.map (·.1))) m ∧ Below A base [env] (hideAll s.heap (news.map (·.1))) ∧ h₀.StaysIn (hideAll s.heap (news.map (·.1))) ∧
      ∀ v s', LeaveS0 ([env].filterMap (·.frame)) h₀ L m (hideAll s.heap (news.map (·.1))) R v s' → R (.ok (.ret v)) s' := by
  have nm : ∀ b o, h₀.get? b = some o → b ∉ news.map (·.1) := fun b o e q => by
    obtain ⟨p, hp, rfl⟩ := List.mem_map.mp q
    rw [(N p hp).2.2] at e; cases e
  have st : h₀.StaysIn (hideAll s.heap (news.map (·.1))) := fun b o e => hideAll_get _ (F.keep b o e) (nm b o e)
  obtain ⟨oL, es, ep, hL, hLd, hLk, hLf⟩ := F.ns
  have nL : L ∉ news.map (·.1) := fun q => by
    obtain ⟨p, hp, e⟩ := List.mem_map.mp q
    exact (N p hp).2.1 e
  have hLg := hideAll_get (news.map (·.1)) hL nL
  have B₁ := pushX B F hf hke
  refine ⟨⟨⟨oL, es, ep, hLg, hLd, hLk, hLf⟩, st, F.above⟩, ⟨hA, fun b o e => st b o (B.stays b o e), funFrames_hideAll B₁.frames fun env' he b hb hf' => ?_⟩, st, fun v s' hl => ?_⟩
  · rw [List.mem_singleton.mp he] at hf'
    exact nL ((Option.some.inj (hf.symm.trans hf') : L = b) ▸ hb)
  · obtain ⟨g', L', m', news', T', F', N', k⟩ := hl
    have nL₀ : h₀.get? L = none := kts_self F
    obtain ⟨sl, hs⟩ := T'.up hLg
    refine k ⟨⟨_, es, ep, F'.keep _ _ hs, hLd, hLk, hLf⟩, fun b o e => F'.keep b o (T'.other b o (st b o e) (fun q => by
      rcases fr_mem hf q with z | z
      · rw [z, nL₀] at e
        cases e
      · simp at z)), F.above⟩ fun p hp => ⟨(N' p hp).1, fun q => ?_, ?_⟩
    · have := (N' p hp).2.2; rw [q, hs] at this; cases this
    · cases q : h₀.get? p.1 with
      | none => rfl
      | some o =>
        obtain ⟨sl', hs'⟩ := T'.up (st _ _ q)
        have := (N' p hp).2.2
        rw [hs'] at this
        cases this
theorem enter_T {E : Value → Shared → Prop} {Q : Value → Shared → Prop} {mg mb : Ns} {mean : ExcName → Option Value} {dp un : Nat} {gd : Option (List Code)} {name qual : Str} {params : Arguments} {body : List Stmt} {scope : Scope} {dV kV doc pm cdv ct oc : Value} {an od : Option Addr} {osl : Array (Option Value)} {f : Addr} {vs : List Value} {binds : List (Str × Value)} {mm : Ns}
    (_hE : Enter binds mm)
    (B : Below A₀ base [] h₀) (F : Fr h₀ L s.heap m) (X₀ : (hdHeap w.params).In h₀) (N : News h₀ L s.heap news) (T : TopC mean mg mb h₀) (hf : env.frame = some L) (hke : env.scope.kind = .function)
    (ho : (hdHeap w.params).lookup f = some ⟨oc, od, .func (fnOf name qual params body scope dV kV doc pm an cdv ct), osl⟩) (hcd : codeIn (hdHeap w.params) cdv qual = true) (hroom : dp < recursionLimit)
    (hbind : BindsTo s (fnOf name qual params body scope dV kV doc pm an cdv ct) ⟨vs, []⟩ binds) (hloc : ∀ y ∈ binds, scope.names.lookup y.1 = some .local) (hmm : (fun y => binds.reverse.lookup y) = mm)
    (h : ∀ g L' h₁, Fr h₀ L g m → Fr g L' h₁ mm → News g L' h₁ news → Below (arnd dp un gd env []) base [env] g → (hdHeap w.params).In g → TopC mean mg mb g → (∀ p ∈ news, p.1 < L') →
      wpAny (model PG w) ((arnd dp un gd env []).deeper (envOf qual scope L' f cdv)) (execs body (envOf qual scope L' f cdv))
        (fun fl s' => LeaveS0 ([env].filterMap (·.frame)) h₀ L m g (fun r s' => match r with | .ok (.ret v) => Q v s' | .ok _ => False | .error e => E e s') (match fl with | .ret v => v | _ => .none) s')
        (fun e s' => wpAny (model PG w) ((arnd dp un gd env []).deeper (envOf qual scope L' f cdv)) (leaving (envOf qual scope L' f cdv) e) (fun _ s'' => E e s'') (fun e' s'' => E e' s'') s')
        { s with heap := h₁, toks := s.toks + binds.length })
    (hco : scope.isCoroutine = false) (hgen : scope.isGenerator = false) (hk : scope.kind = .function)
    (hcell : ∀ x ∈ scope.names, x.2 ≠ .cell) : wpAny (model PG w) (arnd dp un gd env []) (call (.ref f) vs) Q E s := by
  subst hmm
  refine wpAny_call ?_
  obtain ⟨FG, BG, st, lv⟩ := groundXT (A := arnd dp un gd env []) (R := fun r s' => match r with | .ok (.ret v) => Q v s' | .ok _ => False | .error e => E e s') B F N rfl hf hke
  refine codeAny_call_def (fd := fnOf name qual params body scope dV kV doc pm an cdv ct) (body := body) (binds := binds) hroom ((X₀.keeps F.keep) _ _ ho) rfl (T.nolimit.keeps F.keep) (codeRec_of (X₀.keeps F.keep) hcd) rfl hbind hcell hloc (fun h₁ hns hk₁ => ?_) hco hgen hk
  exact wpAny_mono (h _ s.heap.objs.size h₁ FG ⟨hns, fun b o e => hk₁ b o (of_hideAll _ e), Nat.le_of_eq (hideAll_size _ _)⟩
    (fun p hp => ⟨hk₁ _ _ (N p hp).1, Nat.ne_of_lt (Heap.lt_size (N p hp).1), hideAll_none _ (List.mem_map_of_mem hp)⟩) BG (X₀.keeps st) (T.keeps st) (fun p hp => Heap.lt_size (N p hp).1)) (fun fl s' hl => lv _ _ hl) fun _ _ y => y
end
section
variable {w : World} {A : Around} {E : Value → Shared → Prop} {s : Shared} {env : Env}
/-- what a turn of a for leaves, where the ground may have turned -/
def TEndT (L : Addr) (s₁ : Shared) (I : Addr) (oI : Obj) (J : Heap → Ns → Led → Prop) (Q : Flow → Shared → Prop) (f : Flow) (s₂ : Shared) : Prop := match f with
  | .ret v => Q (.ret v) s₂
  | .brk => Q .next s₂
  | _ => ∃ g' h' tk' m' news', s₂ = { s₁ with heap := h', toks := tk' } ∧ Fr g' L h' m' ∧ News g' L h' ((I, oI) :: news') ∧ (∀ p ∈ news', p.1 ≠ I) ∧ J g' m' news'
inductive ForTAt (w : World) (A : Around) (env : Env) (target : Expr) (body : List Stmt) (Q : Flow → Shared → Prop) (E : Value → Shared → Prop) (xv : Value) (s₁ : Shared) : Prop
  | intro (n : Nat) (P : Nat → Value → Prop) (keep : Led) (g : Heap) (m : Ns) (news : Led) (J : Nat → Heap → Ns → Led → Prop) (src : Src w A ⟨#[], {}⟩ xv n P keep s₁) (fr : Fr g env.locals s₁.heap m) (nws : News g env.locals s₁.heap news)
    (keeps : ∀ i g m nw, J i g m nw → ∀ p ∈ keep, p ∈ nw) (zero : J 0 g m news)
    (turn : ∀ i v I oI g₁ m₁ news₁ h tk, i < n → P i v → J i g₁ m₁ news₁ → (∀ p ∈ news₁, p.1 ≠ I) → Fr g₁ env.locals h m₁ → News g₁ env.locals h ((I, oI) :: news₁) →
      wpAny (model PG w) A (assign target env v) (fun _ s₂ => wpAny (model PG w) A (execs body env) (TEndT env.locals { s₁ with heap := h, toks := tk } I oI (J (i + 1)) Q) E s₂) E { s₁ with heap := h, toks := tk })
    (done : ∀ g₁ m₁ news₁ h tk, J n g₁ m₁ news₁ → Fr g₁ env.locals h m₁ → News g₁ env.locals h news₁ → Q .next { s₁ with heap := h, toks := tk }) : ForTAt w A env target body Q E xv s₁
theorem for_srcT {target iter : Expr} {body : List Stmt} {pos : Pos} {Q : Flow → Shared → Prop}
    (h : wpAny (model PG w) A (eval iter env) (ForTAt w A env target body Q E) E s)
    (hs : ∀ x, foldedSetIterable iter env x = pure x := by intro _; rfl)
    (hE : PassesOwn (model PG w) A env E := by passes_own) :
    wpAny (model PG w) A (exec (.For target iter body [] pos) env) Q E s := by
  refine wpAny_For (wpAny_mono h (fun xv s₁ h₁ => ?_) fun _ _ e => e) hs
  obtain ⟨n, P, keep, g, m, news, J, S, F, N, hJk, hJ0, turn, done⟩ := h₁
  refine S _ _ fun o fp St W hfp hobj hgo hof hst => ?_
  have hIn : g.get? s₁.heap.objs.size = none := next_is_new F
  have hIL : s₁.heap.objs.size ≠ env.locals := Nat.ne_of_gt F.ns.lt
  generalize hI : s₁.heap.objs.size = I at *
  have fpk : ∀ b ∈ fp, b = I ∨ ∃ q, (b, q) ∈ keep := fun b hb => by
    rcases hfp b hb with e | ⟨q, e⟩ | e
    · exact .inl e
    · exact absurd (Heap.lt_size e) (Nat.not_lt_zero _)
    · exact .inr e
  refine codeAny_forLoop_any (fun k s' => ∃ g' h' tk m' news' i, s' = { s₁ with heap := h', toks := tk } ∧ St i h' ∧ Fr g' env.locals h' m' ∧ News g' env.locals h' news' ∧ (∀ p ∈ news', p.1 ≠ I) ∧ g'.get? I = none ∧ J i g' m' news' ∧ i ≤ n ∧ k = n + 1 - i) ?_ (n + 1)
    ⟨g, _, s₁.toks, m, news, 0, rfl, hst, F.push _, fun p hp => ⟨Heap.get?_push_of_some _ (N p hp).1, (N p hp).2⟩, fun p hp => Nat.ne_of_lt (hI ▸ Heap.lt_size (N p hp).1), hIn, hJ0, Nat.zero_le _, rfl⟩
  rintro k s' ⟨g', h', tk, m', news', i, rfl, hst', F', N', hnI, hgI, hJ, hi, rfl⟩
  have next : ∀ h₁ : Heap, (∀ b o, b ∉ [I] → h'.get? b = some o → h₁.get? b = some o) → Fr g' env.locals h₁ m' ∧ News g' env.locals h₁ news' := fun h₁ hk₁ =>
    ⟨⟨F'.ns.at' fun o e => hk₁ _ o (by simpa using Ne.symm hIL) e, fun b o e => hk₁ b o (by
      intro q; rw [List.mem_singleton.mp q, hgI] at e; cases e) (F'.keep b o e), F'.above⟩, fun p hp => ⟨hk₁ _ _ (by simpa using hnI p hp) (N' p hp).1, (N' p hp).2⟩⟩
  by_cases hlt : i < n
  · refine W.item i _ _ _ hlt hst' fun v h₁ tk₁ hP hst₁ hk₁ => ?_
    refine hgo _ _ _ _ _ _ hst₁ ?_
    obtain ⟨F₁, N₁⟩ := next h₁ hk₁
    obtain ⟨oI, hoI⟩ := hobj _ _ hst₁
    have N₂ : News g' env.locals h₁ ((I, oI) :: news') := fun p hp => by
      rcases List.mem_cons.mp hp with rfl | hp
      · exact ⟨hoI, hIL, hgI⟩
      · exact N₁ p hp
    refine wpAny_mono (turn i v I oI g' m' news' h₁ tk₁ hlt hP hJ hnI F₁ N₂) (fun _ s₂ h₂ => wpAny_mono h₂ (fun f s₃ h₃ => ?_) hE) hE
    have fin : (∃ g₂ h₂ tk₂ m₂ news₂, s₃ = { ({ s₁ with heap := h₁, toks := tk₁ } : Shared) with heap := h₂, toks := tk₂ } ∧ Fr g₂ env.locals h₂ m₂ ∧ News g₂ env.locals h₂ ((I, oI) :: news₂) ∧ (∀ p ∈ news₂, p.1 ≠ I) ∧ J (i + 1) g₂ m₂ news₂) →
        ∃ k', k' < n + 1 - i ∧ ∃ g' h' tk m' news' j, s₃ = { s₁ with heap := h', toks := tk } ∧ St j h' ∧ Fr g' env.locals h' m' ∧ News g' env.locals h' news' ∧ (∀ p ∈ news', p.1 ≠ I) ∧ g'.get? I = none ∧ J j g' m' news' ∧ j ≤ n ∧ k' = n + 1 - j := by
      rintro ⟨g₂, h₂, tk₂, m₂, news₂, rfl, F₂, N₂', off₂, hJ₂⟩
      refine ⟨n + 1 - (i + 1), by omega, g₂, h₂, tk₂, m₂, news₂, i + 1, rfl, W.frame _ _ _ hst₁ fun b hb o e => ?_, F₂, fun p hp => N₂' p (.tail _ hp), off₂, (N₂' (I, oI) (.head _)).2.2, hJ₂, hlt, rfl⟩
      rcases fpk b hb with e' | ⟨q, e'⟩
      · subst e'
        rw [hoI] at e
        rw [← e]
        exact (N₂' (b, oI) (.head _)).1
      · have h1 := (N₁ (b, q) (hJk _ _ _ _ hJ _ e')).1
        rw [h1] at e
        rw [← e]
        exact (N₂' (b, q) (.tail _ (hJk _ _ _ _ hJ₂ _ e'))).1
    cases f with
    | ret v => exact h₃
    | brk => exact h₃
    | next => exact fin h₃
    | cont => exact fin h₃
  · obtain rfl : i = n := Nat.le_antisymm hi (Nat.not_lt.mp hlt)
    refine W.done _ _ _ hst' fun h₁ tk₁ hk₁ => ?_
    obtain ⟨F₁, N₁⟩ := next h₁ hk₁
    exact wpAny_execs_nil (done g' m' news' h₁ tk₁ hJ F₁ N₁)
end
end Mine
end
open PySem PySem.W PyProof.Rows PySem.Calls PyProof.Rows.LCg
namespace Mine
set_option compiler.extract_closed false
set_option hygiene false
local macro_rules | `(tactic| k_all) => `(tactic| assumption)
local macro_rules | `(tactic| ktr_room) => `(tactic| first | exact room_of (by k_asm) rfl (Nat.le_of_ble_eq_true rfl) | exact room0 (by k_asm) | exact Nat.le_of_ble_eq_true rfl)
local macro_rules | `(tactic| ktr_units) => `(tactic| first | exact unit_of (by k_asm) rfl (Nat.le_of_ble_eq_true rfl) | exact Nat.le_of_ble_eq_true rfl)
local macro_rules | `(tactic| walk_at "call builtin:len") => `(tactic| (k_here; (with_reducible show wpAny _ _ (call (Value.builtin "len") [Value.bytes (List.toArray _) _]) _ _ _); (refine len_b (by first | assumption | (simp only [List.length_cons, List.length_nil]; omega) | omega) ?_)))
local macro_rules | `(tactic| walk_at "compareOp Eq bytes bytes") => `(tactic| (k_here; refine eq_b ?_))
local macro_rules | `(tactic| walk_at "compareOp NotEq bytes bytes") => `(tactic| (k_here; refine ne_b ?_))
local macro_rules | `(tactic| walk_at "subscriptTail") => `(tactic| (k_here; (with_reducible show wpAny _ _ (subscriptTail _ (Expr.Slice _ _ none _) (Value.bytes (List.toArray _) _) (Value.ref _)) _ _ _); (refine cut_b (s := ⟨_, _, _, _, _⟩) (by k_asm) (by k_asm) (by assumption) (by omega) (by omega) ?_); intro _ _ _ _ _))
local macro_rules | `(tactic| walk_at "exec For Name Call cons nil") => `(tactic| (k_here; k_dflt (refine' for_src ?k1 ?_; (case k1 => k_asm))))
local macro_rules | `(tactic| walk_at "exec For Name Name cons nil") => `(tactic| (k_here; k_dflt (refine' for_src ?k1 ?_; (case k1 => k_asm))))
local macro_rules | `(tactic| walk_at "exec Raise some none") => `(tactic| (k_here; exfalso; first | omega | (simp_all; done)))
local macro_rules | `(tactic| walk_at "TEnd") => `(tactic| ((first | (refine TEnd.ret ?_) | (refine TEnd.brk ?_)); (try dsimp only)))
local macro_rules | `(tactic| walk_at "newList") => `(tactic| (k_here; k_dflt (refine' newList_M ?k1 ?k2 ?k3 ?_; (case k1 => k_asm); (case k2 => k_asm); (case k3 => exact Nat.le_of_ble_eq_true rfl); k_whole); intro _ _ _ _ _; (try k_sweep)))
local macro_rules | `(tactic| walk_at "newTuple") => `(tactic| (k_here; k_dflt (refine' newTuple_M ?k1 ?k2 ?k3 ?_; (case k1 => k_asm); (case k2 => k_asm); (case k3 => exact Nat.le_of_ble_eq_true rfl); k_whole); intro _ _ _ _ _; (try k_sweep)))
local macro_rules | `(tactic| walk_at "EEnd") => `(tactic| ((refine EEnd.ret ?_); (try dsimp only)))
local macro_rules | `(tactic| walk_at "eval ListComp") => `(tactic| (k_here; k_dflt (refine comp_eval (by k_asm) (by with_unfolding_all rfl) (by decide) (by rfl) (by decide) ?_)))
local macro_rules | `(tactic| walk_at "exec Assign cons ListComp") => `(tactic| (k_here; k_dflt (refine comp_assign (by k_asm) (by rfl) (by with_unfolding_all rfl) (by with_unfolding_all rfl) (by decide) (by rfl) (by decide) (by rfl) (by rfl) ?_)))
local macro_rules | `(tactic| walk_at "eval Name") => `(tactic| (k_here; (with_reducible show wpAny _ _ (eval (Expr.Name _ _) (compEnvC _ _ _ _)) _ _ _); k_dflt (first | (refine kcf_cell (by k_asm) (by rfl) (by walk_at "MY mem") (by assumption) ?_) | (refine LCgL.ld_own (by k_asm) (by walk_at "MY mem") (by assumption) (by assumption) ?_))))
local macro_rules | `(tactic| walk_at "call builtin:len") => `(tactic| (k_here; (with_reducible show wpAny _ _ (call (Value.builtin "len") [Value.ref _]) _ _ _); (refine len_l (by k_asm) (by walk_at "MY mem") (by first | assumption | (simp only [List.length_cons, List.length_nil, List.length_map]; omega) | omega) ?_)))
local macro_rules | `(tactic| walk_at "binaryOp Mult ref int") => `(tactic| (k_here; (with_reducible show wpAny _ _ (binaryOp Operator.Mult (Value.ref _) (Value.int (Nat.cast _) _)) _ _ _); k_dflt (refine mul_one (by k_asm) (by k_asm) (by walk_at "MY mem") (by first | assumption | omega) ?_); intro _ _ _ _ _))
local macro_rules | `(tactic| walk_at "eval Name") => `(tactic| (k_here; (with_reducible show wpAny _ _ (eval (Expr.Name _ _) (envOfC _ _ _ _ _)) _ _ _); k_dflt (refine nameX_C (by k_asm) (by rfl) (by walk_at "MY mem") (by assumption) ?_)))
local macro_rules | `(tactic| walk_at "MY units") => `(tactic| first | exact unit_at (by k_asm) rfl (Nat.le_of_ble_eq_true rfl) | (have hcL9 := cLine_is; (simp only [units_deeper, units_in1, arnd]); omega))
local macro_rules | `(tactic| walk_at "compareOp NotEq ref ref") => `(tactic| (k_here; (with_reducible show wpAny _ _ (compareOp CmpOp.NotEq (Value.ref _) (Value.ref _)) _ _ _); k_dflt (refine ne_ints (by k_asm) (by walk_at "MY mem") (by first | assumption | exact IntsAre.nil) (by walk_at "MY mem") (by first | assumption | exact IntsAre.nil) (by walk_at "MY units") ?_)))
local macro_rules | `(tactic| walk_at "MY lit") => `(tactic| first | exact LitE.byt _ _ _ | exact LitE.str _ _ _ | exact LitE.int _ _ _ | exact LitE.non _ _ | (apply LitE.tup; (walk_at "MY lits"); decide) | (apply LitE.lst; (walk_at "MY lits"); decide))
local macro_rules | `(tactic| walk_at "MY lits") => `(tactic| first | exact LitEs.nil | (apply LitEs.cons; (walk_at "MY lit"); (walk_at "MY lits")))
local macro_rules | `(tactic| walk_at "callWith") => `(tactic| ((with_reducible show wpAny _ _ (callWith _ (Prod.fst (_, _)) _ _ _) _ _ _); dsimp only))
local macro_rules | `(tactic| walk_at "callWith") => `(tactic| ((with_reducible show wpAny _ _ (callWith _ (Value.builtin "list.append") [_] _ _) _ _ _); refine callWith_method1 ?_))
local macro_rules | `(tactic| walk_at "callWith builtin:list.append") => `(tactic| ((with_reducible show wpAny _ _ (callWith _ (Value.builtin "list.append") [_] _ _) _ _ _); refine callWith_method1 ?_))
section
local macro_rules | `(tactic| walk_at "MY mem") => `(tactic| first | (with_reducible assumption) | (with_reducible exact List.mem_cons_self) | (with_reducible refine List.mem_cons_of_mem _ ?_; walk_at "MY mem") | (with_reducible refine List.mem_append_right _ ?_; walk_at "MY mem"))
section
def liesAt (o wn : List UInt8) (a : Nat) : Bool := (o.drop a).take wn.length == wn
set_option maxRecDepth 100000 in
set_option maxHeartbeats 8000000 in
theorem lies_at_spec (w : World) (o wn : List UInt8) (a : Nat) (t1 t2 t3 : Tok) (ho : o.length ≤ 1000) (hw : wn.length ≤ 1000) :
    SpecV w 1 69 [.bytes o.toArray t1, .bytes wn.toArray t2, .int (a : Int) t3] (fun _ => .bool (liesAt o wn a)) := by
  intro news
  unfold Spec
  intro dp un gd env outer A₀ mean mg mb base h₀ L m s Q E B F X N T hf hk hdp hun hret
  ((have fill : (∀ w : World, (Mine.hdHeap w.params) = (Mine.hdHeap w.params)) ∧ PySem.Challenge.rw_og0077_01.Holds → True := by ((first | k_fill | skip); exact fun _ => trivial)); clear fill)
  have hE : Enter [(Str.ofString "octets", .bytes o.toArray t1), (Str.ofString "wanted", .bytes wn.toArray t2), (Str.ofString "at", .int (a : Int) t3)] (fun y => List.lookup y [(Str.ofString "at", .int (a : Int) t3), (Str.ofString "wanted", .bytes wn.toArray t2), (Str.ofString "octets", .bytes o.toArray t1)]) := ⟨⟩
  (k_dflt (refine' enter_plainN (by assumption) ?k1 ?k2 ?k3 ?k4 ?k5 ?kF ?kK ?k6 ?k7 ?k8 ?k9 ?kB ?km ?_ ?c2 ?c3 ?c4 ?c5; (case kF => assumption); (case kK => assumption); (case k1 => k_asm); (case k2 => k_asm); (case k3 => k_asm); (case k4 => k_asm); (case k5 => k_asm); (case k6 => k_is); (case k7 => k_is); (case k8 => ktr_room); (case k9 => exact BindsTo.of_eq rfl); (case km => exact rfl); (case c5 => decide); (case kB => exact locs rfl); (case c2 => exact rfl); (case c3 => exact rfl); (case c4 => exact rfl); k_whole; intro _ _ _ _ _ _ _ _ _ _; (try dsimp only); (try k_fold)))
  k_steps
  all_goals (refine hret _ _ _ _ ⟨fun _ hp => hp, 0, ?_⟩ (by assumption) (by assumption))
  simp only [liesAt]
  congr 2
  congr 1
  omega
end
section
/-- the law's pen: the turn and the digits left -/
structure Pen where
  turn : Nat
  dig : Int
  t1 : Tok
  t2 : Tok
  pn : Nat
def penO (c : Addr) (q : Pen) : Obj := listOf #[.ref c, .int (q.turn : Int) q.t1, .int q.dig q.t2] q.pn
def Pen.ok (q : Pen) (n : Nat) : Prop := q.turn ≤ n ∧ 0 ≤ q.dig
section
variable {w : World} {A : Around} {E : Value → Shared → Prop} {s : Shared} {a b n : Int} {t u : Tok} {Q : Value → Shared → Prop}
theorem mod_gen (hb : 0 < b) (h : ∀ r t' k, 0 ≤ r → r < b → Q (.int r t') { s with toks := k }) : wpAny (model PG w) A (binaryOp .Mod (.int a t) (.int b u)) Q E s :=
  mod_int' (Int.ne_of_gt hb) (h _ _ _ (Int.fmod_nonneg_of_pos _ hb) (Int.fmod_lt_of_pos _ hb))
theorem div_gen (hb : 0 < b) (hb2 : b.natAbs < 1073741824) (ha : 0 ≤ a) (h : ∀ r t' k, 0 ≤ r → r ≤ a → Q (.int r t') { s with toks := k }) : wpAny (model PG w) A (binaryOp .FloorDiv (.int a t) (.int b u)) Q E s := by
  have e : a.fdiv b = a / b := Int.fdiv_eq_ediv_of_nonneg a (Int.le_of_lt hb)
  refine floordiv_int (Int.ne_of_gt hb) (h _ _ _ ?_ ?_) (Or.inl (PyProof.noPylong_small hb2))
  · rw [e]; exact Int.ediv_nonneg ha (Int.le_of_lt hb)
  · rw [e]; exact Int.ediv_le_self _ ha
theorem pow_gen (hn : 0 ≤ n) (hn2 : n ≤ 1000000) (h0 : 0 ≤ a) (ha : a < 18446744073709551616) (h : ∀ r t' k, 0 ≤ r → Q (.int r t') { s with toks := k }) : wpAny (model PG w) A (binaryOp .Pow (.int a t) (.int n u)) Q E s :=
  pow_int_small hn hn2 (by omega) (h _ _ _ (Int.pow_nonneg h0))
theorem mul_gen (h0 : 0 ≤ a) (ha : a < 4294967296) (h1 : 0 ≤ b) (hb : b < 1048576) (h : ∀ r t' k, 0 ≤ r → r ≤ 4503599627370496 → Q (.int r t') { s with toks := k }) : wpAny (model PG w) A (binaryOp .Mult (.int a t) (.int b u)) Q E s := by
  refine mul_int (h _ _ _ (Int.mul_nonneg h0 h1) ?_) (IntMulOk.of_left (intBits_le_64 (by omega) (by omega)))
  have := Int.mul_le_mul (Int.le_of_lt ha) (Int.le_of_lt hb) h1 (by decide)
  exact Int.le_trans this (by decide)
end
theorem sum0 {r x : Int} (h : 0 ≤ r) (h2 : 0 ≤ x) : 0 ≤ r + x + 1723 := Int.add_nonneg (Int.add_nonneg h h2) (by decide)
theorem sum1 {r x : Int} (h : r < 2147483587) (h2 : x < 4294967296) : r + x + 1723 < 18446744073709551616 := Int.lt_trans (Int.add_lt_add_of_lt_of_le (Int.add_lt_add h h2) (Int.le_refl 1723)) (by decide)
theorem sum2 {p q : Int} (h : 0 ≤ p) (h2 : 0 ≤ q) : 0 ≤ p + q + 41 := Int.add_nonneg (Int.add_nonneg h h2) (by decide)
theorem sum3 {p q : Int} (h : p ≤ 4503599627370496) (h2 : q ≤ 4503599627370496) : p + q + 41 < 18446744073709551616 := Int.lt_of_le_of_lt (Int.add_le_add (Int.add_le_add h h2) (Int.le_refl 41)) (by decide)
theorem ne_of_lt_mem {D p : Addr} {o : Obj} {l : Led} (h : ∀ q ∈ l, q.1 < D) (hm : (p, o) ∈ l) : D ≠ p := Nat.ne_of_gt (h _ hm)
local macro_rules | `(tactic| k_ne) => `(tactic| ((rename ∀ p_1 : Addr × Obj, p_1 ∈ _ → p_1.fst < _ => hlt9); exact ne_of_lt_mem hlt9 (by walk_at "MY mem")))
theorem draw_end {news : Led} {h₀ h' : Heap} {L p c : Addr} {many : Nat} {r : Int} {t : Tok} {q : Pen} {rest : Led} {n : Nat} (N : News h₀ L h' news) (hr : 0 ≤ r) (hr2 : r < (many : Int)) (hq : q.ok n) (hs : ∀ x ∈ (p, penO c q) :: rest, x ∈ news) :
    ∃ (d : Nat) (t' : Tok) (q' : Pen), Value.int r t = .int (d : Int) t' ∧ d < many ∧ q'.ok n ∧ ∀ x ∈ (p, penO c q') :: rest, x ∈ news := by
  obtain ⟨d, rfl⟩ := Int.eq_ofNat_of_zero_le hr
  exact ⟨d, t, q, rfl, Int.ofNat_lt.mp hr2, hq, hs⟩
set_option maxRecDepth 100000 in
set_option maxHeartbeats 4000000 in
theorem draw_spec (w : World) (p c : Addr) (cn many n : Nat) (q : Pen) (t3 : Tok) (cv : List Value) (xs : List Int) (rest : Led) (hm : 0 < many) (hm2 : many ≤ 1000) (hq : q.ok n) (hn : n ≤ 1000) (hxl : xs.length ≤ 63) (hcv : IntsAre cv xs) (hoff : ∀ q ∈ (c, listOf cv.toArray cn) :: rest, q.1 ≠ p) :
    Spec w 8 175 [.ref p, .int (many : Int) t3] ((p, penO c q) :: (c, listOf cv.toArray cn) :: rest) (fun v news' => ∃ (d : Nat) (t' : Tok) (q' : Pen), v = .int (d : Int) t' ∧ d < many ∧ q'.ok (n + 1) ∧ ∀ x ∈ (p, penO c q') :: (c, listOf cv.toArray cn) :: rest, x ∈ news') := by
  obtain ⟨turn, dig, t1, t2, pn⟩ := q
  obtain ⟨ht, hd⟩ := hq
  dsimp only at ht hd
  dsimp only [penO]
  have hmI : (0 : Int) < (many : Int) := Int.natCast_pos.mpr hm
  have hmA : ((many : Int)).natAbs < 1073741824 := Nat.lt_of_le_of_lt (show ((many : Int)).natAbs ≤ 1000 from hm2) (Nat.le_of_ble_eq_true rfl)
  have hT0 : (0 : Int) ≤ (turn : Int) := Int.natCast_nonneg turn
  have hT9 : (turn : Int) ≤ 1000 := Int.ofNat_le.mpr (Nat.le_trans ht hn)
  have hT1 : (turn : Int) < 1048576 := Int.lt_of_le_of_lt hT9 (by decide)
  have h330 : 0 ≤ 33029 * (turn : Int) := Int.mul_nonneg (by decide) hT0
  have h331 : 33029 * (turn : Int) < 4294967296 := Int.lt_of_le_of_lt (Int.mul_le_mul_of_nonneg_left hT9 (by decide)) (by decide)
  have h20 : 0 ≤ 2 * (turn : Int) + 7001 := Int.add_nonneg (Int.mul_nonneg (by decide) hT0) (by decide)
  have h21 : 2 * (turn : Int) + 7001 < 1048576 := Int.lt_of_le_of_lt (Int.add_le_add (Int.mul_le_mul_of_nonneg_left hT9 (by decide)) (Int.le_refl 7001)) (by decide)
  have hL1 : (0 : Int) < 2147483587 := by decide
  have hL2 : (0 : Int) < 2147483629 := by decide
  have hL3 : (0 : Int) < 2147483579 := by decide
  have hL4 : (0 : Int) < 1000003 := by decide
  have hL5 : (0 : Int) < 32 := by decide
  have hL6 : (32 : Int).natAbs < 1073741824 := by decide
  unfold Spec
  intro dp un gd env outer A₀ mean mg mb base h₀ L m s Q E B F X N T hf hk hdp hun hret
  ((have fill : (∀ w : World, (Mine.hdHeap w.params) = (Mine.hdHeap w.params)) ∧ PySem.Challenge.rw_og0077_01.Holds → True := by ((first | k_fill | skip); exact fun _ => trivial)); clear fill)
  have hE : Enter [(Str.ofString "pen", .ref p), (Str.ofString "many", .int (many : Int) t3)] (fun y => List.lookup y [(Str.ofString "many", .int (many : Int) t3), (Str.ofString "pen", .ref p)]) := ⟨⟩
  by_cases hdg : 0 < dig
  · (k_dflt (refine' enter_plainN (by assumption) ?k1 ?k2 ?k3 ?k4 ?k5 ?kF ?kK ?k6 ?k7 ?k8 ?k9 ?kB ?km ?_ ?c2 ?c3 ?c4 ?c5; (case kF => assumption); (case kK => assumption); (case k1 => k_asm); (case k2 => k_asm); (case k3 => k_asm); (case k4 => k_asm); (case k5 => k_asm); (case k6 => k_is); (case k7 => k_is); (case k8 => ktr_room); (case k9 => exact BindsTo.of_eq rfl); (case km => exact rfl); (case c5 => decide); (case kB => exact locs rfl); (case c2 => exact rfl); (case c3 => exact rfl); (case c4 => exact rfl); k_whole; intro _ _ _ _ _ _ _ _ _ _; (try dsimp only); (try k_fold)))
    (repeat' (first | (k_unfold; (try dsimp only)) | (k_end; wrow_close) | ((with_reducible show wpAny _ _ (binaryOp Operator.Mult (Value.int _ _) (Value.int _ _)) _ _ _); k_here; (fail_if_success (with_reducible show wpAny _ _ (binaryOp Operator.Mult (Value.int 33029 _) _) _ _ _)); (fail_if_success (with_reducible show wpAny _ _ (binaryOp Operator.Mult (Value.int 2 _) _) _ _ _)); (refine' mul_gen ?k1 ?k2 ?k3 ?k4 ?_; (case k1 => first | with_reducible assumption | omega); (case k2 => first | with_reducible assumption | exact Int.lt_trans (by with_reducible assumption) (show (2147483629 : Int) < 4294967296 by decide) | omega); (case k3 => first | with_reducible assumption | omega); (case k4 => first | with_reducible assumption | omega)); intro _ _ _ _ _) | ((with_reducible show wpAny _ _ (binaryOp Operator.Pow (Value.int _ _) (Value.int _ _)) _ _ _); k_here; first
  | ((with_reducible show wpAny _ _ (binaryOp Operator.Pow (Value.int _ _) (Value.int 5 _)) _ _ _); (refine' pow_gen ?k1 ?k2 ?k3 ?k4 ?_; (case k1 => decide); (case k2 => decide); (case k3 => first | exact sum0 (by with_reducible assumption) (by with_reducible assumption) | exact sum2 (by with_reducible assumption) (by with_reducible assumption) | omega); (case k4 => first | exact sum1 (by with_reducible assumption) (by with_reducible assumption) | exact sum3 (by with_reducible assumption) (by with_reducible assumption) | omega)); intro r9 t9 k9 h90)
  | ((with_reducible show wpAny _ _ (binaryOp Operator.Pow (Value.int _ _) (Value.int 3 _)) _ _ _); (refine' pow_gen ?k1 ?k2 ?k3 ?k4 ?_; (case k1 => decide); (case k2 => decide); (case k3 => first | exact sum0 (by with_reducible assumption) (by with_reducible assumption) | exact sum2 (by with_reducible assumption) (by with_reducible assumption) | omega); (case k4 => first | exact sum1 (by with_reducible assumption) (by with_reducible assumption) | exact sum3 (by with_reducible assumption) (by with_reducible assumption) | omega)); intro _ _ _ _)) | ((with_reducible show wpAny _ _ (binaryOp Operator.FloorDiv (Value.int _ _) (Value.int _ _)) _ _ _); k_here; (refine' div_gen ?k1 ?k2 ?k3 ?_; (case k1 => first | with_reducible assumption | omega); (case k2 => first | with_reducible assumption | omega); (case k3 => first | with_reducible assumption | omega)); intro _ _ _ _ _) | ((with_reducible show wpAny _ _ (binaryOp Operator.Mod (Value.int _ _) (Value.int _ _)) _ _ _); k_here; (refine' mod_gen ?k1 ?_; (case k1 => first | with_reducible assumption | omega)); intro _ _ _ _ _) | walk1 | (dsimp only; walk1) | (leave1; try dsimp only) | fail "no step"))
    rename News _ _ _ _ => N9
    exact hret _ _ _ _ (draw_end (q := ⟨turn, _, _, _, _⟩) N9 (by assumption) (by assumption) ⟨Nat.le_succ_of_le ht, by dsimp only; first | with_reducible assumption | omega⟩ (fun x hx => hx)) (by assumption) N9
  · rcases Nat.eq_zero_or_pos xs.length with hx0 | hx0
    · have hxs : xs = [] := List.length_eq_zero_iff.mp hx0
      have hxd : decide (xs = []) = true := by simp [hxs]
      (k_dflt (refine' enter_plainN (by assumption) ?k1 ?k2 ?k3 ?k4 ?k5 ?kF ?kK ?k6 ?k7 ?k8 ?k9 ?kB ?km ?_ ?c2 ?c3 ?c4 ?c5; (case kF => assumption); (case kK => assumption); (case k1 => k_asm); (case k2 => k_asm); (case k3 => k_asm); (case k4 => k_asm); (case k5 => k_asm); (case k6 => k_is); (case k7 => k_is); (case k8 => ktr_room); (case k9 => exact BindsTo.of_eq rfl); (case km => exact rfl); (case c5 => decide); (case kB => exact locs rfl); (case c2 => exact rfl); (case c3 => exact rfl); (case c4 => exact rfl); k_whole; intro _ _ _ _ _ _ _ _ _ _; (try dsimp only); (try k_fold)))
      (repeat' (first | (k_unfold; (try dsimp only)) | (k_end; wrow_close) | ((with_reducible show wpAny _ _ (binaryOp Operator.Mult (Value.int _ _) (Value.int _ _)) _ _ _); k_here; (fail_if_success (with_reducible show wpAny _ _ (binaryOp Operator.Mult (Value.int 33029 _) _) _ _ _)); (fail_if_success (with_reducible show wpAny _ _ (binaryOp Operator.Mult (Value.int 2 _) _) _ _ _)); (refine' mul_gen ?k1 ?k2 ?k3 ?k4 ?_; (case k1 => first | with_reducible assumption | omega); (case k2 => first | with_reducible assumption | exact Int.lt_trans (by with_reducible assumption) (show (2147483629 : Int) < 4294967296 by decide) | omega); (case k3 => first | with_reducible assumption | omega); (case k4 => first | with_reducible assumption | omega)); intro _ _ _ _ _) | ((with_reducible show wpAny _ _ (binaryOp Operator.Pow (Value.int _ _) (Value.int _ _)) _ _ _); k_here; first
  | ((with_reducible show wpAny _ _ (binaryOp Operator.Pow (Value.int _ _) (Value.int 5 _)) _ _ _); (refine' pow_gen ?k1 ?k2 ?k3 ?k4 ?_; (case k1 => decide); (case k2 => decide); (case k3 => first | exact sum0 (by with_reducible assumption) (by with_reducible assumption) | exact sum2 (by with_reducible assumption) (by with_reducible assumption) | omega); (case k4 => first | exact sum1 (by with_reducible assumption) (by with_reducible assumption) | exact sum3 (by with_reducible assumption) (by with_reducible assumption) | omega)); intro r9 t9 k9 h90)
  | ((with_reducible show wpAny _ _ (binaryOp Operator.Pow (Value.int _ _) (Value.int 3 _)) _ _ _); (refine' pow_gen ?k1 ?k2 ?k3 ?k4 ?_; (case k1 => decide); (case k2 => decide); (case k3 => first | exact sum0 (by with_reducible assumption) (by with_reducible assumption) | exact sum2 (by with_reducible assumption) (by with_reducible assumption) | omega); (case k4 => first | exact sum1 (by with_reducible assumption) (by with_reducible assumption) | exact sum3 (by with_reducible assumption) (by with_reducible assumption) | omega)); intro _ _ _ _)) | ((with_reducible show wpAny _ _ (binaryOp Operator.FloorDiv (Value.int _ _) (Value.int _ _)) _ _ _); k_here; (refine' div_gen ?k1 ?k2 ?k3 ?_; (case k1 => first | with_reducible assumption | omega); (case k2 => first | with_reducible assumption | omega); (case k3 => first | with_reducible assumption | omega)); intro _ _ _ _ _) | ((with_reducible show wpAny _ _ (binaryOp Operator.Mod (Value.int _ _) (Value.int _ _)) _ _ _); k_here; (refine' mod_gen ?k1 ?_; (case k1 => first | with_reducible assumption | omega)); intro _ _ _ _ _) | walk1 | (dsimp only; walk1) | (leave1; try dsimp only) | fail "no step"))
      rename News _ _ _ _ => N9
      exact hret _ _ _ _ (draw_end (q := ⟨turn + 1, _, _, _, _⟩) N9 (by assumption) (by assumption) ⟨Nat.succ_le_succ ht, by dsimp only; first | with_reducible assumption | omega⟩ (fun x hx => .tail _ (.tail _ hx))) (by assumption) N9
    · have hxs : ¬ xs = [] := fun h => by rw [h] at hx0; exact absurd hx0 (by decide)
      have hxd : decide (xs = []) = false := by simp [hxs]
      (k_dflt (refine' enter_plainN (by assumption) ?k1 ?k2 ?k3 ?k4 ?k5 ?kF ?kK ?k6 ?k7 ?k8 ?k9 ?kB ?km ?_ ?c2 ?c3 ?c4 ?c5; (case kF => assumption); (case kK => assumption); (case k1 => k_asm); (case k2 => k_asm); (case k3 => k_asm); (case k4 => k_asm); (case k5 => k_asm); (case k6 => k_is); (case k7 => k_is); (case k8 => ktr_room); (case k9 => exact BindsTo.of_eq rfl); (case km => exact rfl); (case c5 => decide); (case kB => exact locs rfl); (case c2 => exact rfl); (case c3 => exact rfl); (case c4 => exact rfl); k_whole; intro _ _ _ _ _ _ _ _ _ _; (try dsimp only); (try k_fold)))
      (repeat' (first | (k_unfold; (try dsimp only)) | (k_end; wrow_close) | ((with_reducible show wpAny _ _ (binaryOp Operator.Mult (Value.int _ _) (Value.int _ _)) _ _ _); k_here; (fail_if_success (with_reducible show wpAny _ _ (binaryOp Operator.Mult (Value.int 33029 _) _) _ _ _)); (fail_if_success (with_reducible show wpAny _ _ (binaryOp Operator.Mult (Value.int 2 _) _) _ _ _)); (refine' mul_gen ?k1 ?k2 ?k3 ?k4 ?_; (case k1 => first | with_reducible assumption | omega); (case k2 => first | with_reducible assumption | exact Int.lt_trans (by with_reducible assumption) (show (2147483629 : Int) < 4294967296 by decide) | omega); (case k3 => first | with_reducible assumption | omega); (case k4 => first | with_reducible assumption | omega)); intro _ _ _ _ _) | ((with_reducible show wpAny _ _ (binaryOp Operator.Pow (Value.int _ _) (Value.int _ _)) _ _ _); k_here; first
  | ((with_reducible show wpAny _ _ (binaryOp Operator.Pow (Value.int _ _) (Value.int 5 _)) _ _ _); (refine' pow_gen ?k1 ?k2 ?k3 ?k4 ?_; (case k1 => decide); (case k2 => decide); (case k3 => first | exact sum0 (by with_reducible assumption) (by with_reducible assumption) | exact sum2 (by with_reducible assumption) (by with_reducible assumption) | omega); (case k4 => first | exact sum1 (by with_reducible assumption) (by with_reducible assumption) | exact sum3 (by with_reducible assumption) (by with_reducible assumption) | omega)); intro r9 t9 k9 h90)
  | ((with_reducible show wpAny _ _ (binaryOp Operator.Pow (Value.int _ _) (Value.int 3 _)) _ _ _); (refine' pow_gen ?k1 ?k2 ?k3 ?k4 ?_; (case k1 => decide); (case k2 => decide); (case k3 => first | exact sum0 (by with_reducible assumption) (by with_reducible assumption) | exact sum2 (by with_reducible assumption) (by with_reducible assumption) | omega); (case k4 => first | exact sum1 (by with_reducible assumption) (by with_reducible assumption) | exact sum3 (by with_reducible assumption) (by with_reducible assumption) | omega)); intro _ _ _ _)) | ((with_reducible show wpAny _ _ (binaryOp Operator.FloorDiv (Value.int _ _) (Value.int _ _)) _ _ _); k_here; (refine' div_gen ?k1 ?k2 ?k3 ?_; (case k1 => first | with_reducible assumption | omega); (case k2 => first | with_reducible assumption | omega); (case k3 => first | with_reducible assumption | omega)); intro _ _ _ _ _) | ((with_reducible show wpAny _ _ (binaryOp Operator.Mod (Value.int _ _) (Value.int _ _)) _ _ _); k_here; (refine' mod_gen ?k1 ?_; (case k1 => first | with_reducible assumption | omega)); intro _ _ _ _ _) | walk1 | (dsimp only; walk1) | (leave1; try dsimp only) | fail "no step"))
      all_goals (rename News _ _ _ _ => N9)
      all_goals (exact hret _ _ _ _ (draw_end (q := ⟨turn + 1, _, _, _, _⟩) N9 (by assumption) (by assumption) ⟨Nat.succ_le_succ ht, by dsimp only; first | with_reducible assumption | omega⟩ (fun x hx => .tail _ (.tail _ hx))) (by assumption) N9)
end
end
set_option hygiene true
local macro_rules | `(tactic| walk_at "MY ne") => `(tactic| first | assumption | ((show @Ne Nat _ _); (try dsimp only); omega))
local macro_rules | `(tactic| walk_at "MY mem") => `(tactic| first | (with_reducible assumption) | (with_reducible exact List.mem_cons_self) | (with_reducible refine List.mem_cons_of_mem _ ?_; walk_at "MY mem") | ((with_reducible refine' mem_wo.mpr ⟨?w1, ?w2⟩); (case w1 => walk_at "MY mem"); (case w2 => walk_at "MY ne")) | (with_reducible refine List.mem_append_left _ ?_; with_reducible assumption) | (with_reducible refine List.mem_append_right _ ?_; walk_at "MY mem"))
section
def firstAt (o wn : List UInt8) : Option Nat := (List.range o.length).find? (fun a => liesAt o wn a)
def firstInt (o wn : List UInt8) : Int := match firstAt o wn with | some a => (a : Int) | none => -1
theorem firstInt_none {o wn : List UInt8} (h : ∀ j, j < o.length → liesAt o wn j = false) : firstInt o wn = -1 := by
  unfold firstInt firstAt
  rw [List.find?_eq_none.mpr (by intro a ha; rw [h a (List.mem_range.mp ha)]; exact Bool.false_ne_true)]
theorem firstInt_some {o wn : List UInt8} {i : Nat} (hi : i < o.length) (h : ∀ j, j < i → liesAt o wn j = false) (ht : liesAt o wn i = true) : firstInt o wn = (i : Int) := by
  unfold firstInt firstAt
  have : (List.range o.length).find? (fun a => liesAt o wn a) = some i := by
    rw [List.find?_range_eq_some]
    exact ⟨ht, List.mem_range.mpr hi, fun j hj => by rw [h j hj]; rfl⟩
  rw [this]
abbrev mFirst (o wn : List UInt8) (t1 t2 t3 : Tok) : Ns := fun y => List.lookup y [(Str.ofString "begin", .int 0 t3), (Str.ofString "wanted", .bytes wn.toArray t2), (Str.ofString "octets", .bytes o.toArray t1)]
set_option maxRecDepth 100000 in
set_option maxHeartbeats 8000000 in
theorem first_at_spec (w : World) (o wn : List UInt8) (t1 t2 t3 : Tok) (ho : o.length ≤ 1000) (hw : wn.length ≤ 1000) (hw0 : 0 < wn.length) :
    SpecV w 2 76 [.bytes o.toArray t1, .bytes wn.toArray t2, .int 0 t3] (fun t => .int (firstInt o wn) t) := by
  intro news
  unfold Spec
  intro dp un gd env outer A₀ mean mg mb base h₀ L m s Q E B F X N T hf hk hdp hun hret
  ((have fill : (∀ w : World, (Mine.hdHeap w.params) = (Mine.hdHeap w.params)) ∧ PySem.Challenge.rw_og0077_01.Holds → True := by ((first | k_fill | skip); exact fun _ => trivial)); clear fill)
  have hE : Enter [(Str.ofString "octets", .bytes o.toArray t1), (Str.ofString "wanted", .bytes wn.toArray t2), (Str.ofString "begin", .int 0 t3)] (mFirst o wn t1 t2 t3) := ⟨⟩
  (k_dflt (refine' enter_plainN (by assumption) ?k1 ?k2 ?k3 ?k4 ?k5 ?kF ?kK ?k6 ?k7 ?k8 ?k9 ?kB ?km ?_ ?c2 ?c3 ?c4 ?c5; (case kF => assumption); (case kK => assumption); (case k1 => k_asm); (case k2 => k_asm); (case k3 => k_asm); (case k4 => k_asm); (case k5 => k_asm); (case k6 => k_is); (case k7 => k_is); (case k8 => ktr_room); (case k9 => exact BindsTo.of_eq rfl); (case km => exact rfl); (case c5 => decide); (case kB => exact locs rfl); (case c2 => exact rfl); (case c3 => exact rfl); (case c4 => exact rfl); k_whole; intro _ _ _ _ _ _ _ _ _ _; (try dsimp only); (try k_fold)))
  (repeat' (first | (k_unfold; (try dsimp only)) | (k_end; wrow_close) | ((with_reducible show wpAny _ _ (call _ _) _ _ _); k_here; (try dsimp only); (with_reducible show wpAny _ _ (call (Value.ref 69) _) _ _ _); k_dflt (refine' SpecV.callB (lies_at_spec _ _ _ _ _ _ _ ?e0 ?e1) ?k1 ?k2 ?k3 ?k4 ?k5 ?k6 ?k7 ?k8 ?k9 ?ka ?kb ?kc ?_; (case k1 => k_asm); (case k2 => k_asm); (case k3 => k_asm); (case k4 => k_asm); (case k5 => k_asm); (case k6 => first | assumption | exact rfl); (case k7 => first | assumption | exact rfl); (case k8 => k_asm); (case k9 => k_asm); (case ka => rfl); (case kb => rfl); (case kc => exact Nat.le_of_ble_eq_true rfl); (case e0 => assumption); (case e1 => assumption); k_whole; intro _ _ _ _ _; (try dsimp only); (try k_fold))) | walk1 | (dsimp only; walk1) | (leave1; try dsimp only) | fail "no step"))
  rename Fr _ _ _ _ => F1
  rename News _ _ _ _ => N1
  refine ⟨_, _, [], _, news, fun i m1 nw => nw = news ∧ (∃ u, m1 = ov [(Str.ofString "at", u)] (mFirst o wn t1 t2 t3)) ∧ ∀ j, j < i → liesAt o wn j = false, Src.rangeN (by rfl) (by assumption) (by omega), F1, N1, ?_, ⟨rfl, ⟨_, ov_start ov_nil⟩, fun j hj => absurd hj (Nat.not_lt_zero _)⟩, ?_, ?_⟩
  · rintro i m1 nw _ p hp
    cases hp
  · rintro i v I oI m1 news1 h tk hi ⟨t9, rfl⟩ ⟨rfl, ⟨u, rfl⟩, hno⟩ hI off F2 N2
    (repeat' (first | (k_unfold; (try dsimp only)) | (k_end; wrow_close) | ((with_reducible show wpAny _ _ (call _ _) _ _ _); k_here; (try dsimp only); (with_reducible show wpAny _ _ (call (Value.ref 69) _) _ _ _); k_dflt (refine' SpecV.callB (lies_at_spec _ _ _ _ _ _ _ ?e0 ?e1) ?k1 ?k2 ?k3 ?k4 ?k5 ?k6 ?k7 ?k8 ?k9 ?ka ?kb ?kc ?_; (case k1 => k_asm); (case k2 => k_asm); (case k3 => k_asm); (case k4 => k_asm); (case k5 => k_asm); (case k6 => first | assumption | exact rfl); (case k7 => first | assumption | exact rfl); (case k8 => k_asm); (case k9 => k_asm); (case ka => rfl); (case kb => rfl); (case kc => exact Nat.le_of_ble_eq_true rfl); (case e0 => assumption); (case e1 => assumption); k_whole; intro _ _ _ _ _; (try dsimp only); (try k_fold))) | walk1 | (dsimp only; walk1) | (leave1; try dsimp only) | fail "no step"))
    · refine hret _ _ _ _ ⟨?_, t9, ?_⟩ (by assumption) (by assumption)
      · exact fun p hp => .tail _ hp
      · rw [firstInt_some hi hno (by assumption)]
    · refine TEnd.next news1 (by assumption) (by assumption) (fun p hp => hp) off ⟨rfl, ⟨_, by simp only [ov_pt]; rfl⟩, fun j hj => ?_⟩
      rcases Nat.lt_succ_iff_lt_or_eq.mp hj with h1 | rfl
      · exact hno j h1
      · first | assumption | exact Bool.eq_false_iff.mpr (by assumption) | (simp_all; done)
  · rintro m1 news1 h tk ⟨rfl, ⟨u, rfl⟩, hno⟩ F2 N2
    (repeat' (first | (k_unfold; (try dsimp only)) | (k_end; wrow_close) | ((with_reducible show wpAny _ _ (call _ _) _ _ _); k_here; (try dsimp only); (with_reducible show wpAny _ _ (call (Value.ref 69) _) _ _ _); k_dflt (refine' SpecV.callB (lies_at_spec _ _ _ _ _ _ _ ?e0 ?e1) ?k1 ?k2 ?k3 ?k4 ?k5 ?k6 ?k7 ?k8 ?k9 ?ka ?kb ?kc ?_; (case k1 => k_asm); (case k2 => k_asm); (case k3 => k_asm); (case k4 => k_asm); (case k5 => k_asm); (case k6 => first | assumption | exact rfl); (case k7 => first | assumption | exact rfl); (case k8 => k_asm); (case k9 => k_asm); (case ka => rfl); (case kb => rfl); (case kc => exact Nat.le_of_ble_eq_true rfl); (case e0 => assumption); (case e1 => assumption); k_whole; intro _ _ _ _ _; (try dsimp only); (try k_fold))) | walk1 | (dsimp only; walk1) | (leave1; try dsimp only) | fail "no step"))
    refine hret _ _ _ _ ⟨fun _ hp => hp, tk + 1, ?_⟩ (by assumption) (by assumption)
    rw [firstInt_none hno]
end
section
def vOpt (ob : Option (List UInt8)) (t : Tok) : Value := match ob with
  | none => .none
  | some b => .bytes b.toArray t
def okOpt (ob : Option (List UInt8)) : Prop := match ob with
  | none => True
  | some b => 0 < b.length ∧ b.length ≤ 1000
def beginS (o : List UInt8) (ob : Option (List UInt8)) : Nat := match ob with
  | none => 0
  | some b => match firstAt o b with
    | none => o.length
    | some a => a + b.length
def endS (o : List UInt8) (ob : Option (List UInt8)) : Nat := match ob with
  | none => o.length
  | some b => match firstAt o b with
    | none => o.length
    | some a => a
theorem begin_neg {o b : List UInt8} (h : firstInt o b < 0) : beginS o (some b) = o.length := by
  cases e : firstAt o b with
  | none => simp [beginS, e]
  | some a => simp only [firstInt, e] at h; omega
theorem begin_pos {o b : List UInt8} (h : ¬ firstInt o b < 0) : firstInt o b + (b.length : Int) = (beginS o (some b) : Nat) := by
  cases e : firstAt o b with
  | none => simp [firstInt, e] at h
  | some a => simp [firstInt, beginS, e]
theorem end_neg {o b : List UInt8} (h : firstInt o b < 0) : endS o (some b) = o.length := by
  cases e : firstAt o b with
  | none => simp [endS, e]
  | some a => simp only [firstInt, e] at h; omega
theorem end_pos {o b : List UInt8} (h : ¬ firstInt o b < 0) : firstInt o b = (endS o (some b) : Nat) := by
  cases e : firstAt o b with
  | none => simp [firstInt, e] at h
  | some a => simp [firstInt, endS, e]
set_option maxRecDepth 100000 in
set_option maxHeartbeats 8000000 in
theorem stretch_begin_spec (w : World) (o : List UInt8) (ob : Option (List UInt8)) (t1 t2 : Tok) (ho : o.length ≤ 1000) (hb : okOpt ob) :
    SpecV w 3 83 [.bytes o.toArray t1, vOpt ob t2] (fun t => .int (beginS o ob : Nat) t) := by
  intro news
  unfold Spec
  intro dp un gd env outer A₀ mean mg mb base h₀ L m s Q E B F X N T hf hk hdp hun hret
  ((have fill : (∀ w : World, (Mine.hdHeap w.params) = (Mine.hdHeap w.params)) ∧ PySem.Challenge.rw_og0077_01.Holds → True := by ((first | k_fill | skip); exact fun _ => trivial)); clear fill)
  have hE : Enter [(Str.ofString "octets", .bytes o.toArray t1), (Str.ofString "after", vOpt ob t2)] (fun y => List.lookup y [(Str.ofString "after", vOpt ob t2), (Str.ofString "octets", .bytes o.toArray t1)]) := ⟨⟩
  cases ob with
  | none =>
    dsimp only [vOpt] at hE
    (k_dflt (refine' enter_plainN (by assumption) ?k1 ?k2 ?k3 ?k4 ?k5 ?kF ?kK ?k6 ?k7 ?k8 ?k9 ?kB ?km ?_ ?c2 ?c3 ?c4 ?c5; (case kF => assumption); (case kK => assumption); (case k1 => k_asm); (case k2 => k_asm); (case k3 => k_asm); (case k4 => k_asm); (case k5 => k_asm); (case k6 => k_is); (case k7 => k_is); (case k8 => ktr_room); (case k9 => exact BindsTo.of_eq rfl); (case km => exact rfl); (case c5 => decide); (case kB => exact locs rfl); (case c2 => exact rfl); (case c3 => exact rfl); (case c4 => exact rfl); k_whole; intro _ _ _ _ _ _ _ _ _ _; (try dsimp only); (try k_fold)))
    (repeat' (first | (k_unfold; (try dsimp only)) | (k_end; wrow_close) | ((with_reducible show wpAny _ _ (call _ _) _ _ _); k_here; (try dsimp only); (with_reducible show wpAny _ _ (call (Value.ref 76) _) _ _ _); k_dflt (refine' SpecV.callB (first_at_spec _ _ _ _ _ _ ?e0 ?e1 ?e2) ?k1 ?k2 ?k3 ?k4 ?k5 ?k6 ?k7 ?k8 ?k9 ?ka ?kb ?kc ?_; (case k1 => k_asm); (case k2 => k_asm); (case k3 => k_asm); (case k4 => k_asm); (case k5 => k_asm); (case k6 => first | assumption | exact rfl); (case k7 => first | assumption | exact rfl); (case k8 => k_asm); (case k9 => k_asm); (case ka => rfl); (case kb => rfl); (case kc => exact Nat.le_of_ble_eq_true rfl); (case e0 => assumption); (case e1 => assumption); (case e2 => assumption); k_whole; intro _ _ _ _ _; (try dsimp only); (try k_fold))) | walk1 | (dsimp only; walk1) | (leave1; try dsimp only) | fail "no step"))
    refine hret _ _ _ _ ⟨fun _ hp => hp, ?_, ?_⟩ (by assumption) (by assumption) 
    rotate_left; exact rfl
  | some b =>
    obtain ⟨hb0, hb1⟩ := hb
    dsimp only [vOpt] at hE
    (k_dflt (refine' enter_plainN (by assumption) ?k1 ?k2 ?k3 ?k4 ?k5 ?kF ?kK ?k6 ?k7 ?k8 ?k9 ?kB ?km ?_ ?c2 ?c3 ?c4 ?c5; (case kF => assumption); (case kK => assumption); (case k1 => k_asm); (case k2 => k_asm); (case k3 => k_asm); (case k4 => k_asm); (case k5 => k_asm); (case k6 => k_is); (case k7 => k_is); (case k8 => ktr_room); (case k9 => exact BindsTo.of_eq rfl); (case km => exact rfl); (case c5 => decide); (case kB => exact locs rfl); (case c2 => exact rfl); (case c3 => exact rfl); (case c4 => exact rfl); k_whole; intro _ _ _ _ _ _ _ _ _ _; (try dsimp only); (try k_fold)))
    (repeat' (first | (k_unfold; (try dsimp only)) | (k_end; wrow_close) | ((with_reducible show wpAny _ _ (call _ _) _ _ _); k_here; (try dsimp only); (with_reducible show wpAny _ _ (call (Value.ref 76) _) _ _ _); k_dflt (refine' SpecV.callB (first_at_spec _ _ _ _ _ _ ?e0 ?e1 ?e2) ?k1 ?k2 ?k3 ?k4 ?k5 ?k6 ?k7 ?k8 ?k9 ?ka ?kb ?kc ?_; (case k1 => k_asm); (case k2 => k_asm); (case k3 => k_asm); (case k4 => k_asm); (case k5 => k_asm); (case k6 => first | assumption | exact rfl); (case k7 => first | assumption | exact rfl); (case k8 => k_asm); (case k9 => k_asm); (case ka => rfl); (case kb => rfl); (case kc => exact Nat.le_of_ble_eq_true rfl); (case e0 => assumption); (case e1 => assumption); (case e2 => assumption); k_whole; intro _ _ _ _ _; (try dsimp only); (try k_fold))) | walk1 | (dsimp only; walk1) | (leave1; try dsimp only) | fail "no step"))
    · refine hret _ _ _ _ ⟨fun _ hp => hp, ?_, ?_⟩ (by assumption) (by assumption) 
      rotate_left; (rw [begin_neg (by assumption)])
    · refine hret _ _ _ _ ⟨fun _ hp => hp, ?_, ?_⟩ (by assumption) (by assumption) 
      rotate_left; (rw [begin_pos (by assumption)])
set_option maxRecDepth 100000 in
set_option maxHeartbeats 8000000 in
theorem stretch_end_spec (w : World) (o : List UInt8) (ob : Option (List UInt8)) (t1 t2 : Tok) (ho : o.length ≤ 1000) (hb : okOpt ob) :
    SpecV w 3 90 [.bytes o.toArray t1, vOpt ob t2] (fun t => .int (endS o ob : Nat) t) := by
  intro news
  unfold Spec
  intro dp un gd env outer A₀ mean mg mb base h₀ L m s Q E B F X N T hf hk hdp hun hret
  ((have fill : (∀ w : World, (Mine.hdHeap w.params) = (Mine.hdHeap w.params)) ∧ PySem.Challenge.rw_og0077_01.Holds → True := by ((first | k_fill | skip); exact fun _ => trivial)); clear fill)
  have hE : Enter [(Str.ofString "octets", .bytes o.toArray t1), (Str.ofString "before", vOpt ob t2)] (fun y => List.lookup y [(Str.ofString "before", vOpt ob t2), (Str.ofString "octets", .bytes o.toArray t1)]) := ⟨⟩
  cases ob with
  | none =>
    dsimp only [vOpt] at hE
    (k_dflt (refine' enter_plainN (by assumption) ?k1 ?k2 ?k3 ?k4 ?k5 ?kF ?kK ?k6 ?k7 ?k8 ?k9 ?kB ?km ?_ ?c2 ?c3 ?c4 ?c5; (case kF => assumption); (case kK => assumption); (case k1 => k_asm); (case k2 => k_asm); (case k3 => k_asm); (case k4 => k_asm); (case k5 => k_asm); (case k6 => k_is); (case k7 => k_is); (case k8 => ktr_room); (case k9 => exact BindsTo.of_eq rfl); (case km => exact rfl); (case c5 => decide); (case kB => exact locs rfl); (case c2 => exact rfl); (case c3 => exact rfl); (case c4 => exact rfl); k_whole; intro _ _ _ _ _ _ _ _ _ _; (try dsimp only); (try k_fold)))
    (repeat' (first | (k_unfold; (try dsimp only)) | (k_end; wrow_close) | ((with_reducible show wpAny _ _ (call _ _) _ _ _); k_here; (try dsimp only); (with_reducible show wpAny _ _ (call (Value.ref 76) _) _ _ _); k_dflt (refine' SpecV.callB (first_at_spec _ _ _ _ _ _ ?e0 ?e1 ?e2) ?k1 ?k2 ?k3 ?k4 ?k5 ?k6 ?k7 ?k8 ?k9 ?ka ?kb ?kc ?_; (case k1 => k_asm); (case k2 => k_asm); (case k3 => k_asm); (case k4 => k_asm); (case k5 => k_asm); (case k6 => first | assumption | exact rfl); (case k7 => first | assumption | exact rfl); (case k8 => k_asm); (case k9 => k_asm); (case ka => rfl); (case kb => rfl); (case kc => exact Nat.le_of_ble_eq_true rfl); (case e0 => assumption); (case e1 => assumption); (case e2 => assumption); k_whole; intro _ _ _ _ _; (try dsimp only); (try k_fold))) | walk1 | (dsimp only; walk1) | (leave1; try dsimp only) | fail "no step"))
    refine hret _ _ _ _ ⟨fun _ hp => hp, ?_, ?_⟩ (by assumption) (by assumption) 
    rotate_left; exact rfl
  | some b =>
    obtain ⟨hb0, hb1⟩ := hb
    dsimp only [vOpt] at hE
    (k_dflt (refine' enter_plainN (by assumption) ?k1 ?k2 ?k3 ?k4 ?k5 ?kF ?kK ?k6 ?k7 ?k8 ?k9 ?kB ?km ?_ ?c2 ?c3 ?c4 ?c5; (case kF => assumption); (case kK => assumption); (case k1 => k_asm); (case k2 => k_asm); (case k3 => k_asm); (case k4 => k_asm); (case k5 => k_asm); (case k6 => k_is); (case k7 => k_is); (case k8 => ktr_room); (case k9 => exact BindsTo.of_eq rfl); (case km => exact rfl); (case c5 => decide); (case kB => exact locs rfl); (case c2 => exact rfl); (case c3 => exact rfl); (case c4 => exact rfl); k_whole; intro _ _ _ _ _ _ _ _ _ _; (try dsimp only); (try k_fold)))
    (repeat' (first | (k_unfold; (try dsimp only)) | (k_end; wrow_close) | ((with_reducible show wpAny _ _ (call _ _) _ _ _); k_here; (try dsimp only); (with_reducible show wpAny _ _ (call (Value.ref 76) _) _ _ _); k_dflt (refine' SpecV.callB (first_at_spec _ _ _ _ _ _ ?e0 ?e1 ?e2) ?k1 ?k2 ?k3 ?k4 ?k5 ?k6 ?k7 ?k8 ?k9 ?ka ?kb ?kc ?_; (case k1 => k_asm); (case k2 => k_asm); (case k3 => k_asm); (case k4 => k_asm); (case k5 => k_asm); (case k6 => first | assumption | exact rfl); (case k7 => first | assumption | exact rfl); (case k8 => k_asm); (case k9 => k_asm); (case ka => rfl); (case kb => rfl); (case kc => exact Nat.le_of_ble_eq_true rfl); (case e0 => assumption); (case e1 => assumption); (case e2 => assumption); k_whole; intro _ _ _ _ _; (try dsimp only); (try k_fold))) | walk1 | (dsimp only; walk1) | (leave1; try dsimp only) | fail "no step"))
    · refine hret _ _ _ _ ⟨fun _ hp => hp, ?_, ?_⟩ (by assumption) (by assumption) 
      rotate_left; (rw [end_neg (by assumption)])
    · refine hret _ _ _ _ ⟨fun _ hp => hp, ?_, ?_⟩ (by assumption) (by assumption) 
      rotate_left; (rw [end_pos (by assumption)])
end
section
inductive Kind where
  | all
  | leading
  | first
  | chars
  deriving DecidableEq
def Kind.str : Kind → Str
  | .all => Str.ofString "ALL"
  | .leading => Str.ofString "LEADING"
  | .first => Str.ofString "FIRST"
  | .chars => Str.ofString "CHARACTERS"
/-- what a seeker holds -/
structure AS where
  kind : Kind
  wanted : List UInt8
  bg : Nat
  en : Nat
  lead : Option Nat
  done : Bool
def AS.width (k : AS) : Nat := match k.kind with
  | .chars => 1
  | _ => k.wanted.length
def AS.reach (k : AS) (a : Nat) : AS := if k.lead = none ∧ k.bg ≤ a ∧ a < k.en then { k with lead := some a } else k
def AS.took (k : AS) (a : Nat) : AS := { k with lead := some (a + k.width), done := decide (k.kind = .first) }
def fitS (o : List UInt8) (k : AS) (a : Nat) : Bool :=
  if k.done = true ∨ ¬ k.bg ≤ a ∨ a + k.width > k.en then false
  else if k.kind = .chars then true
  else if k.kind = .leading ∧ k.lead ≠ some a then false
  else liesAt o k.wanted a
/-- a seeker as it lies in the heap -/
structure SK where
  x : Addr
  d : Addr
  k1 : Tok
  k2 : Tok
  k3 : Tok
  k4 : Tok
  k5 : Tok
  k6 : Tok
  kt : Tok
  wt : Tok
  bt : Tok
  et : Tok
  lt : Tok
  abs : AS
def SK.up (k : SK) (s : AS) (t : Tok) : SK := { k with abs := s, lt := t }
def wvOf (kind : Kind) (wanted : List UInt8) (t : Tok) : Value := match kind with
  | .chars => .none
  | _ => .bytes wanted.toArray t
def lvOf (lead : Option Nat) (t : Tok) : Value := match lead with
  | none => .none
  | some a => .int (a : Int) t
def skEs (w : World) (k1 k2 k3 k4 k5 k6 : Tok) (kv wv bv ev lv dv : Value) : List DictEntry :=
  [⟨PyData.keyHash w.params (Str.ofString "kind"), .str (Str.ofString "kind") k1, kv⟩, ⟨PyData.keyHash w.params (Str.ofString "wanted"), .str (Str.ofString "wanted") k2, wv⟩, ⟨PyData.keyHash w.params (Str.ofString "begin"), .str (Str.ofString "begin") k3, bv⟩,
   ⟨PyData.keyHash w.params (Str.ofString "end"), .str (Str.ofString "end") k4, ev⟩, ⟨PyData.keyHash w.params (Str.ofString "lead"), .str (Str.ofString "lead") k5, lv⟩, ⟨PyData.keyHash w.params (Str.ofString "is_done"), .str (Str.ofString "is_done") k6, dv⟩]
def SK.led (w : World) (k : SK) : Led := [(k.x, instObj 135 k.d), (k.d, dictOf (skEs w k.k1 k.k2 k.k3 k.k4 k.k5 k.k6 (.str k.abs.kind.str k.kt) (wvOf k.abs.kind k.abs.wanted k.wt) (.int (k.abs.bg : Int) k.bt) (.int (k.abs.en : Int) k.et) (lvOf k.abs.lead k.lt) (.bool k.abs.done)) 6)]
set_option maxRecDepth 100000 in
set_option maxHeartbeats 8000000 in
theorem width_spec (w : World) (k : SK) (news : Led) (hw : k.abs.wanted.length ≤ 1000) (hm : ∀ p ∈ k.led w, p ∈ news) :
    Spec w 1 111 [.ref k.x] news (fun v news' => (∀ p ∈ news, p ∈ news') ∧ ∃ t, v = .int (k.abs.width : Int) t) := by
  unfold Spec
  intro dp un gd env outer A₀ mean mg mb base h₀ L m s Q E B F X N T hf hk hdp hun hret
  ((have fill : (∀ w : World, (Mine.hdHeap w.params) = (Mine.hdHeap w.params)) ∧ PySem.Challenge.rw_og0077_01.Holds → True := by ((first | k_fill | skip); exact fun _ => trivial)); clear fill)
  have hE : Enter [(Str.ofString "self", .ref k.x)] (fun y => List.lookup y [(Str.ofString "self", .ref k.x)]) := ⟨⟩
  have hm1 := hm _ (.head _)
  have hm2 := hm _ (.tail _ (.head _))
  clear hm
  have hall := fun p (hp : p ∈ news) => hp
  have hwd : k.abs.width = match k.abs.kind with | .chars => 1 | _ => k.abs.wanted.length := rfl
  unfold skEs wvOf at hm2
  cases hkk : k.abs.kind <;> simp only [hkk, Kind.str] at hm2 hwd
  all_goals ((k_dflt (refine' enter_plainN (by assumption) ?k1 ?k2 ?k3 ?k4 ?k5 ?kF ?kK ?k6 ?k7 ?k8 ?k9 ?kB ?km ?_ ?c2 ?c3 ?c4 ?c5; (case kF => assumption); (case kK => assumption); (case k1 => k_asm); (case k2 => k_asm); (case k3 => k_asm); (case k4 => k_asm); (case k5 => k_asm); (case k6 => k_is); (case k7 => k_is); (case k8 => ktr_room); (case k9 => exact BindsTo.of_eq rfl); (case km => exact rfl); (case c5 => decide); (case kB => exact locs rfl); (case c2 => exact rfl); (case c3 => exact rfl); (case c4 => exact rfl); k_whole; intro _ _ _ _ _ _ _ _ _ _; (try dsimp only); (try k_fold))); (repeat' (first | (k_unfold; (try dsimp only)) | (k_end; wrow_close) | ((with_reducible show wpAny _ _ (call _ _) _ _ _); k_here; (try dsimp only); (with_reducible show wpAny _ _ (call (Value.ref 69) _) _ _ _); k_dflt (refine' SpecV.callB (lies_at_spec _ _ _ _ _ _ _ ?e0 ?e1) ?k1 ?k2 ?k3 ?k4 ?k5 ?k6 ?k7 ?k8 ?k9 ?ka ?kb ?kc ?_; (case k1 => k_asm); (case k2 => k_asm); (case k3 => k_asm); (case k4 => k_asm); (case k5 => k_asm); (case k6 => first | assumption | exact rfl); (case k7 => first | assumption | exact rfl); (case k8 => k_asm); (case k9 => k_asm); (case ka => rfl); (case kb => rfl); (case kc => exact Nat.le_of_ble_eq_true rfl); (case e0 => assumption); (case e1 => assumption); k_whole; intro _ _ _ _ _; (try dsimp only); (try k_fold))) | walk1 | (dsimp only; walk1) | (leave1; try dsimp only) | fail "no step")))
  all_goals (refine hret _ _ _ _ ⟨hall, ?_, ?_⟩ (by assumption) (by assumption); rotate_left; rw [hwd]; try exact rfl)
theorem AS.reach_pos {k : AS} {a : Nat} (h : k.lead = none ∧ k.bg ≤ a ∧ a < k.en) : k.reach a = { k with lead := some a } := if_pos h
theorem AS.reach_neg {k : AS} {a : Nat} (h : ¬ (k.lead = none ∧ k.bg ≤ a ∧ a < k.en)) : k.reach a = k := if_neg h
set_option maxRecDepth 100000 in
set_option maxHeartbeats 8000000 in
theorem reach_spec (w : World) (k : SK) (a : Nat) (ta : Tok) (rest : Led) (hx : k.x ≠ k.d) (hr : ∀ p ∈ rest, p.1 ≠ k.d) :
    Spec w 1 118 [.ref k.x, .int (a : Int) ta] (k.led w ++ rest) (fun v news' => v = .none ∧ ∃ t, ∀ p ∈ (k.up (k.abs.reach a) t).led w ++ rest, p ∈ news') := by
  unfold Spec
  intro dp un gd env outer A₀ mean mg mb base h₀ L m s Q E B F X N T hf hk hdp hun hret
  ((have fill : (∀ w : World, (Mine.hdHeap w.params) = (Mine.hdHeap w.params)) ∧ PySem.Challenge.rw_og0077_01.Holds → True := by ((first | k_fill | skip); exact fun _ => trivial)); clear fill)
  have hE : Enter [(Str.ofString "self", .ref k.x), (Str.ofString "at", .int (a : Int) ta)] (fun y => List.lookup y [(Str.ofString "at", .int (a : Int) ta), (Str.ofString "self", .ref k.x)]) := ⟨⟩
  cases hl : k.abs.lead <;> (unfold SK.led skEs lvOf at N; simp only [hl, List.cons_append, List.nil_append] at N)
  all_goals ((k_dflt (refine' enter_plainN (by assumption) ?k1 ?k2 ?k3 ?k4 ?k5 ?kF ?kK ?k6 ?k7 ?k8 ?k9 ?kB ?km ?_ ?c2 ?c3 ?c4 ?c5; (case kF => assumption); (case kK => assumption); (case k1 => k_asm); (case k2 => k_asm); (case k3 => k_asm); (case k4 => k_asm); (case k5 => k_asm); (case k6 => k_is); (case k7 => k_is); (case k8 => ktr_room); (case k9 => exact BindsTo.of_eq rfl); (case km => exact rfl); (case c5 => decide); (case kB => exact locs rfl); (case c2 => exact rfl); (case c3 => exact rfl); (case c4 => exact rfl); k_whole; intro _ _ _ _ _ _ _ _ _ _; (try dsimp only); (try k_fold))); (repeat' (first | (k_unfold; (try dsimp only)) | (k_end; wrow_close) | ((with_reducible show wpAny _ _ (call _ _) _ _ _); k_here; (try dsimp only); (with_reducible show wpAny _ _ (call (Value.ref 69) _) _ _ _); k_dflt (refine' SpecV.callB (lies_at_spec _ _ _ _ _ _ _ ?e0 ?e1) ?k1 ?k2 ?k3 ?k4 ?k5 ?k6 ?k7 ?k8 ?k9 ?ka ?kb ?kc ?_; (case k1 => k_asm); (case k2 => k_asm); (case k3 => k_asm); (case k4 => k_asm); (case k5 => k_asm); (case k6 => first | assumption | exact rfl); (case k7 => first | assumption | exact rfl); (case k8 => k_asm); (case k9 => k_asm); (case ka => rfl); (case kb => rfl); (case kc => exact Nat.le_of_ble_eq_true rfl); (case e0 => assumption); (case e1 => assumption); k_whole; intro _ _ _ _ _; (try dsimp only); (try k_fold))) | walk1 | (dsimp only; walk1) | (leave1; try dsimp only) | fail "no step")))
  · rw [AS.reach_pos ⟨hl, by omega, by omega⟩] at hret
    exact hret _ _ _ _ ⟨rfl, ta, fun p hp => hp⟩ (by assumption) (by assumption)
  · rw [AS.reach_neg (fun h => by omega)] at hret
    refine hret _ _ _ _ ⟨rfl, k.lt, ?_⟩ (by assumption) (by assumption)
    unfold SK.led SK.up skEs lvOf
    simp only [hl, List.cons_append, List.nil_append]
    exact fun p hp => hp
  · rw [AS.reach_neg (fun h => by omega)] at hret
    refine hret _ _ _ _ ⟨rfl, k.lt, ?_⟩ (by assumption) (by assumption)
    unfold SK.led SK.up skEs lvOf
    simp only [hl, List.cons_append, List.nil_append]
    exact fun p hp => hp
  · rw [AS.reach_neg (fun h => by rw [hl] at h; cases h.1)] at hret
    refine hret _ _ _ _ ⟨rfl, k.lt, ?_⟩ (by assumption) (by assumption)
    unfold SK.led SK.up skEs lvOf
    simp only [hl, List.cons_append, List.nil_append]
    exact fun p hp => hp
theorem first_str (k : Kind) : (k.str == Str.ofString "FIRST") = decide (k = .first) := by cases k <;> decide
set_option maxRecDepth 100000 in
set_option maxHeartbeats 8000000 in
theorem took_spec (w : World) (k : SK) (a : Nat) (ta : Tok) (rest : Led) (hw : k.abs.wanted.length ≤ 1000) (hx : k.x ≠ k.d) (hr : ∀ p ∈ rest, p.1 ≠ k.d) :
    Spec w 2 132 [.ref k.x, .int (a : Int) ta] (k.led w ++ rest) (fun v news' => v = .none ∧ ∃ t, ∀ p ∈ (k.up (k.abs.took a) t).led w ++ rest, p ∈ news') := by
  unfold Spec
  intro dp un gd env outer A₀ mean mg mb base h₀ L m s Q E B F X N T hf hk hdp hun hret
  ((have fill : (∀ w : World, (Mine.hdHeap w.params) = (Mine.hdHeap w.params)) ∧ PySem.Challenge.rw_og0077_01.Holds → True := by ((first | k_fill | skip); exact fun _ => trivial)); clear fill)
  have hE : Enter [(Str.ofString "self", .ref k.x), (Str.ofString "at", .int (a : Int) ta)] (fun y => List.lookup y [(Str.ofString "at", .int (a : Int) ta), (Str.ofString "self", .ref k.x)]) := ⟨⟩
  unfold SK.led skEs at N
  simp only [List.cons_append, List.nil_append] at N
  (k_dflt (refine' enter_plainN (by assumption) ?k1 ?k2 ?k3 ?k4 ?k5 ?kF ?kK ?k6 ?k7 ?k8 ?k9 ?kB ?km ?_ ?c2 ?c3 ?c4 ?c5; (case kF => assumption); (case kK => assumption); (case k1 => k_asm); (case k2 => k_asm); (case k3 => k_asm); (case k4 => k_asm); (case k5 => k_asm); (case k6 => k_is); (case k7 => k_is); (case k8 => ktr_room); (case k9 => exact BindsTo.of_eq rfl); (case km => exact rfl); (case c5 => decide); (case kB => exact locs rfl); (case c2 => exact rfl); (case c3 => exact rfl); (case c4 => exact rfl); k_whole; intro _ _ _ _ _ _ _ _ _ _; (try dsimp only); (try k_fold)))
  (repeat' (first | (k_unfold; (try dsimp only)) | (k_end; wrow_close) | ((with_reducible show wpAny _ _ (call _ _) _ _ _); k_here; (try dsimp only); (with_reducible show wpAny _ _ (call (Value.ref 111) _) _ _ _); k_dflt (refine' Spec.callB (width_spec _ _ _ ?e0 ?e1) ?k1 ?k2 ?k3 ?k4 ?k5 ?k6 ?k7 ?k8 ?k9 ?ka ?kb ?kc ?_; (case k1 => k_asm); (case k2 => k_asm); (case k3 => k_asm); (case k4 => k_asm); (case k5 => k_asm); (case k6 => first | assumption | exact rfl); (case k7 => first | assumption | exact rfl); (case k8 => k_asm); (case k9 => k_asm); (case ka => rfl); (case kb => rfl); (case kc => exact Nat.le_of_ble_eq_true rfl); (case e0 => assumption); (case e1 => first | assumption | (unfold SK.led skEs; exact fun p hp => List.mem_append_left _ hp)); k_whole; intro v9 nw9 h9 tk9 hr9 F9 N9; (refine Exists.elim hr9.2 ?_; intro t9 e9; subst e9; replace N9 := cb_drop N9 hr9.1; clear hr9); revert nw9 h9 tk9 F9 N9 t9; intros; (try dsimp only); (try k_fold))) | ((with_reducible show wpAny _ _ (call _ _) _ _ _); k_here; (try dsimp only); (with_reducible show wpAny _ _ (call (Value.ref 69) _) _ _ _); k_dflt (refine' SpecV.callB (lies_at_spec _ _ _ _ _ _ _ ?e0 ?e1) ?k1 ?k2 ?k3 ?k4 ?k5 ?k6 ?k7 ?k8 ?k9 ?ka ?kb ?kc ?_; (case k1 => k_asm); (case k2 => k_asm); (case k3 => k_asm); (case k4 => k_asm); (case k5 => k_asm); (case k6 => first | assumption | exact rfl); (case k7 => first | assumption | exact rfl); (case k8 => k_asm); (case k9 => k_asm); (case ka => rfl); (case kb => rfl); (case kc => exact Nat.le_of_ble_eq_true rfl); (case e0 => assumption); (case e1 => assumption); k_whole; intro _ _ _ _ _; (try dsimp only); (try k_fold))) | walk1 | (dsimp only; walk1) | (leave1; try dsimp only) | fail "no step"))
  rename News _ _ _ _ => kN
  rw [first_str, ← Int.natCast_add] at kN
  exact hret _ _ _ _ ⟨rfl, _, fun p hp => hp⟩ (by assumption) kN
section
variable {o : List UInt8} {k : AS} {a : Nat}
theorem fitS_early (h : ¬ k.bg ≤ a) : fitS o k a = false := by rw [fitS, if_pos (.inr (.inl h))]
theorem fitS_late (h : a + k.width > k.en) : fitS o k a = false := by rw [fitS, if_pos (.inr (.inr h))]
theorem fit_in (hd : k.done = false) (h1 : k.bg ≤ a) (h2 : ¬ a + k.width > k.en) : ¬ (k.done = true ∨ ¬ k.bg ≤ a ∨ a + k.width > k.en) := by
  rintro (h | h | h)
  · rw [hd] at h; cases h
  · exact h h1
  · exact h2 h
theorem fitS_chars (hd : k.done = false) (h1 : k.bg ≤ a) (h2 : ¬ a + k.width > k.en) (hk : k.kind = .chars) : fitS o k a = true := by
  rw [fitS, if_neg (fit_in hd h1 h2), if_pos hk]
theorem fitS_all (hd : k.done = false) (h1 : k.bg ≤ a) (h2 : ¬ a + k.width > k.en) (hk : k.kind = .all ∨ k.kind = .first) : fitS o k a = liesAt o k.wanted a := by
  rw [fitS, if_neg (fit_in hd h1 h2), if_neg (by rcases hk with h | h <;> rw [h] <;> exact fun e => nomatch e), if_neg (by rcases hk with h | h <;> rw [h] <;> exact fun e => nomatch e.1)]
theorem fitS_led (hk : k.kind = .leading) (hl : k.lead ≠ some a) : fitS o k a = false := by
  rw [fitS]
  split
  · rfl
  · rw [if_neg (by rw [hk]; exact fun e => nomatch e), if_pos ⟨hk, hl⟩]
theorem fitS_lead (hd : k.done = false) (h1 : k.bg ≤ a) (h2 : ¬ a + k.width > k.en) (hk : k.kind = .leading) (hl : k.lead = some a) : fitS o k a = liesAt o k.wanted a := by
  rw [fitS, if_neg (fit_in hd h1 h2), if_neg (by rw [hk]; exact fun e => nomatch e), if_neg (fun e => e.2 hl)]
end
set_option maxRecDepth 100000 in
set_option maxHeartbeats 8000000 in
theorem is_fit_spec (w : World) (o : List UInt8) (k : SK) (a : Nat) (to ta : Tok) (news : Led) (ho : o.length ≤ 1000) (hw : k.abs.wanted.length ≤ 1000) (hm : ∀ p ∈ k.led w, p ∈ news) :
    Spec w 2 125 [.ref k.x, .bytes o.toArray to, .int (a : Int) ta] news (fun v news' => (∀ p ∈ news, p ∈ news') ∧ v = .bool (fitS o k.abs a)) := by
  unfold Spec
  intro dp un gd env outer A₀ mean mg mb base h₀ L m s Q E B F X N T hf hk hdp hun hret
  ((have fill : (∀ w : World, (Mine.hdHeap w.params) = (Mine.hdHeap w.params)) ∧ PySem.Challenge.rw_og0077_01.Holds → True := by ((first | k_fill | skip); exact fun _ => trivial)); clear fill)
  have hE : Enter [(Str.ofString "self", .ref k.x), (Str.ofString "octets", .bytes o.toArray to), (Str.ofString "at", .int (a : Int) ta)] (fun y => List.lookup y [(Str.ofString "at", .int (a : Int) ta), (Str.ofString "octets", .bytes o.toArray to), (Str.ofString "self", .ref k.x)]) := ⟨⟩
  have hall := fun p (hp : p ∈ news) => hp
  have hm1 := hm _ (.head _)
  have hm2 := hm _ (.tail _ (.head _))
  unfold skEs at hm2
  cases hd : k.abs.done <;> simp only [hd] at hm2
  · cases hkk : k.abs.kind <;> unfold wvOf at hm2 <;> simp only [hkk, Kind.str] at hm2
    · (k_dflt (refine' enter_plainN (by assumption) ?k1 ?k2 ?k3 ?k4 ?k5 ?kF ?kK ?k6 ?k7 ?k8 ?k9 ?kB ?km ?_ ?c2 ?c3 ?c4 ?c5; (case kF => assumption); (case kK => assumption); (case k1 => k_asm); (case k2 => k_asm); (case k3 => k_asm); (case k4 => k_asm); (case k5 => k_asm); (case k6 => k_is); (case k7 => k_is); (case k8 => ktr_room); (case k9 => exact BindsTo.of_eq rfl); (case km => exact rfl); (case c5 => decide); (case kB => exact locs rfl); (case c2 => exact rfl); (case c3 => exact rfl); (case c4 => exact rfl); k_whole; intro _ _ _ _ _ _ _ _ _ _; (try dsimp only); (try k_fold)))
      (repeat' (first | (k_unfold; (try dsimp only)) | (k_end; wrow_close) | ((with_reducible show wpAny _ _ (call _ _) _ _ _); k_here; (try dsimp only); (with_reducible show wpAny _ _ (call (Value.ref 111) _) _ _ _); k_dflt (refine' Spec.callB (width_spec _ _ _ ?e0 ?e1) ?k1 ?k2 ?k3 ?k4 ?k5 ?k6 ?k7 ?k8 ?k9 ?ka ?kb ?kc ?_; (case k1 => k_asm); (case k2 => k_asm); (case k3 => k_asm); (case k4 => k_asm); (case k5 => k_asm); (case k6 => first | assumption | exact rfl); (case k7 => first | assumption | exact rfl); (case k8 => k_asm); (case k9 => k_asm); (case ka => rfl); (case kb => rfl); (case kc => exact Nat.le_of_ble_eq_true rfl); (case e0 => assumption); (case e1 => first | assumption | (unfold SK.led skEs; exact fun p hp => List.mem_append_left _ hp)); k_whole; intro v9 nw9 h9 tk9 hr9 F9 N9; (refine Exists.elim hr9.2 ?_; intro t9 e9; subst e9; replace N9 := cb_drop N9 hr9.1; clear hr9); revert nw9 h9 tk9 F9 N9 t9; intros; (try dsimp only); (try k_fold))) | ((with_reducible show wpAny _ _ (call _ _) _ _ _); k_here; (try dsimp only); (with_reducible show wpAny _ _ (call (Value.ref 69) _) _ _ _); k_dflt (refine' SpecV.callB (lies_at_spec _ _ _ _ _ _ _ ?e0 ?e1) ?k1 ?k2 ?k3 ?k4 ?k5 ?k6 ?k7 ?k8 ?k9 ?ka ?kb ?kc ?_; (case k1 => k_asm); (case k2 => k_asm); (case k3 => k_asm); (case k4 => k_asm); (case k5 => k_asm); (case k6 => first | assumption | exact rfl); (case k7 => first | assumption | exact rfl); (case k8 => k_asm); (case k9 => k_asm); (case ka => rfl); (case kb => rfl); (case kc => exact Nat.le_of_ble_eq_true rfl); (case e0 => assumption); (case e1 => assumption); k_whole; intro _ _ _ _ _; (try dsimp only); (try k_fold))) | walk1 | (dsimp only; walk1) | (leave1; try dsimp only) | fail "no step"))
      all_goals (refine hret _ _ _ _ ⟨hall, ?_⟩ (by assumption) (by assumption))
      · rw [fitS_late (by omega)]
      · rw [fitS_all hd (by omega) (by omega) (.inl hkk)]
      · rw [fitS_early (by omega)]
    · cases hl : k.abs.lead <;> unfold lvOf at hm2 <;> simp only [hl] at hm2
      · (k_dflt (refine' enter_plainN (by assumption) ?k1 ?k2 ?k3 ?k4 ?k5 ?kF ?kK ?k6 ?k7 ?k8 ?k9 ?kB ?km ?_ ?c2 ?c3 ?c4 ?c5; (case kF => assumption); (case kK => assumption); (case k1 => k_asm); (case k2 => k_asm); (case k3 => k_asm); (case k4 => k_asm); (case k5 => k_asm); (case k6 => k_is); (case k7 => k_is); (case k8 => ktr_room); (case k9 => exact BindsTo.of_eq rfl); (case km => exact rfl); (case c5 => decide); (case kB => exact locs rfl); (case c2 => exact rfl); (case c3 => exact rfl); (case c4 => exact rfl); k_whole; intro _ _ _ _ _ _ _ _ _ _; (try dsimp only); (try k_fold)))
        (repeat' (first | (k_unfold; (try dsimp only)) | (k_end; wrow_close) | ((with_reducible show wpAny _ _ (call _ _) _ _ _); k_here; (try dsimp only); (with_reducible show wpAny _ _ (call (Value.ref 111) _) _ _ _); k_dflt (refine' Spec.callB (width_spec _ _ _ ?e0 ?e1) ?k1 ?k2 ?k3 ?k4 ?k5 ?k6 ?k7 ?k8 ?k9 ?ka ?kb ?kc ?_; (case k1 => k_asm); (case k2 => k_asm); (case k3 => k_asm); (case k4 => k_asm); (case k5 => k_asm); (case k6 => first | assumption | exact rfl); (case k7 => first | assumption | exact rfl); (case k8 => k_asm); (case k9 => k_asm); (case ka => rfl); (case kb => rfl); (case kc => exact Nat.le_of_ble_eq_true rfl); (case e0 => assumption); (case e1 => first | assumption | (unfold SK.led skEs; exact fun p hp => List.mem_append_left _ hp)); k_whole; intro v9 nw9 h9 tk9 hr9 F9 N9; (refine Exists.elim hr9.2 ?_; intro t9 e9; subst e9; replace N9 := cb_drop N9 hr9.1; clear hr9); revert nw9 h9 tk9 F9 N9 t9; intros; (try dsimp only); (try k_fold))) | ((with_reducible show wpAny _ _ (call _ _) _ _ _); k_here; (try dsimp only); (with_reducible show wpAny _ _ (call (Value.ref 69) _) _ _ _); k_dflt (refine' SpecV.callB (lies_at_spec _ _ _ _ _ _ _ ?e0 ?e1) ?k1 ?k2 ?k3 ?k4 ?k5 ?k6 ?k7 ?k8 ?k9 ?ka ?kb ?kc ?_; (case k1 => k_asm); (case k2 => k_asm); (case k3 => k_asm); (case k4 => k_asm); (case k5 => k_asm); (case k6 => first | assumption | exact rfl); (case k7 => first | assumption | exact rfl); (case k8 => k_asm); (case k9 => k_asm); (case ka => rfl); (case kb => rfl); (case kc => exact Nat.le_of_ble_eq_true rfl); (case e0 => assumption); (case e1 => assumption); k_whole; intro _ _ _ _ _; (try dsimp only); (try k_fold))) | walk1 | (dsimp only; walk1) | (leave1; try dsimp only) | fail "no step"))
        all_goals (refine hret _ _ _ _ ⟨hall, ?_⟩ (by assumption) (by assumption))
        · rw [fitS_late (by omega)]
        · rw [fitS_led hkk (by rw [hl]; exact fun h => nomatch h)]
        · rw [fitS_early (by omega)]
      · (k_dflt (refine' enter_plainN (by assumption) ?k1 ?k2 ?k3 ?k4 ?k5 ?kF ?kK ?k6 ?k7 ?k8 ?k9 ?kB ?km ?_ ?c2 ?c3 ?c4 ?c5; (case kF => assumption); (case kK => assumption); (case k1 => k_asm); (case k2 => k_asm); (case k3 => k_asm); (case k4 => k_asm); (case k5 => k_asm); (case k6 => k_is); (case k7 => k_is); (case k8 => ktr_room); (case k9 => exact BindsTo.of_eq rfl); (case km => exact rfl); (case c5 => decide); (case kB => exact locs rfl); (case c2 => exact rfl); (case c3 => exact rfl); (case c4 => exact rfl); k_whole; intro _ _ _ _ _ _ _ _ _ _; (try dsimp only); (try k_fold)))
        (repeat' (first | (k_unfold; (try dsimp only)) | (k_end; wrow_close) | ((with_reducible show wpAny _ _ (call _ _) _ _ _); k_here; (try dsimp only); (with_reducible show wpAny _ _ (call (Value.ref 111) _) _ _ _); k_dflt (refine' Spec.callB (width_spec _ _ _ ?e0 ?e1) ?k1 ?k2 ?k3 ?k4 ?k5 ?k6 ?k7 ?k8 ?k9 ?ka ?kb ?kc ?_; (case k1 => k_asm); (case k2 => k_asm); (case k3 => k_asm); (case k4 => k_asm); (case k5 => k_asm); (case k6 => first | assumption | exact rfl); (case k7 => first | assumption | exact rfl); (case k8 => k_asm); (case k9 => k_asm); (case ka => rfl); (case kb => rfl); (case kc => exact Nat.le_of_ble_eq_true rfl); (case e0 => assumption); (case e1 => first | assumption | (unfold SK.led skEs; exact fun p hp => List.mem_append_left _ hp)); k_whole; intro v9 nw9 h9 tk9 hr9 F9 N9; (refine Exists.elim hr9.2 ?_; intro t9 e9; subst e9; replace N9 := cb_drop N9 hr9.1; clear hr9); revert nw9 h9 tk9 F9 N9 t9; intros; (try dsimp only); (try k_fold))) | ((with_reducible show wpAny _ _ (call _ _) _ _ _); k_here; (try dsimp only); (with_reducible show wpAny _ _ (call (Value.ref 69) _) _ _ _); k_dflt (refine' SpecV.callB (lies_at_spec _ _ _ _ _ _ _ ?e0 ?e1) ?k1 ?k2 ?k3 ?k4 ?k5 ?k6 ?k7 ?k8 ?k9 ?ka ?kb ?kc ?_; (case k1 => k_asm); (case k2 => k_asm); (case k3 => k_asm); (case k4 => k_asm); (case k5 => k_asm); (case k6 => first | assumption | exact rfl); (case k7 => first | assumption | exact rfl); (case k8 => k_asm); (case k9 => k_asm); (case ka => rfl); (case kb => rfl); (case kc => exact Nat.le_of_ble_eq_true rfl); (case e0 => assumption); (case e1 => assumption); k_whole; intro _ _ _ _ _; (try dsimp only); (try k_fold))) | walk1 | (dsimp only; walk1) | (leave1; try dsimp only) | fail "no step"))
        all_goals (refine hret _ _ _ _ ⟨hall, ?_⟩ (by assumption) (by assumption))
        · rw [fitS_late (by omega)]
        · rw [fitS_led hkk (by rw [hl]; intro h; cases h; omega)]
        · rw [fitS_lead hd (by omega) (by omega) hkk (by rw [hl]; congr 1; omega)]
        · rw [fitS_early (by omega)]
    · (k_dflt (refine' enter_plainN (by assumption) ?k1 ?k2 ?k3 ?k4 ?k5 ?kF ?kK ?k6 ?k7 ?k8 ?k9 ?kB ?km ?_ ?c2 ?c3 ?c4 ?c5; (case kF => assumption); (case kK => assumption); (case k1 => k_asm); (case k2 => k_asm); (case k3 => k_asm); (case k4 => k_asm); (case k5 => k_asm); (case k6 => k_is); (case k7 => k_is); (case k8 => ktr_room); (case k9 => exact BindsTo.of_eq rfl); (case km => exact rfl); (case c5 => decide); (case kB => exact locs rfl); (case c2 => exact rfl); (case c3 => exact rfl); (case c4 => exact rfl); k_whole; intro _ _ _ _ _ _ _ _ _ _; (try dsimp only); (try k_fold)))
      (repeat' (first | (k_unfold; (try dsimp only)) | (k_end; wrow_close) | ((with_reducible show wpAny _ _ (call _ _) _ _ _); k_here; (try dsimp only); (with_reducible show wpAny _ _ (call (Value.ref 111) _) _ _ _); k_dflt (refine' Spec.callB (width_spec _ _ _ ?e0 ?e1) ?k1 ?k2 ?k3 ?k4 ?k5 ?k6 ?k7 ?k8 ?k9 ?ka ?kb ?kc ?_; (case k1 => k_asm); (case k2 => k_asm); (case k3 => k_asm); (case k4 => k_asm); (case k5 => k_asm); (case k6 => first | assumption | exact rfl); (case k7 => first | assumption | exact rfl); (case k8 => k_asm); (case k9 => k_asm); (case ka => rfl); (case kb => rfl); (case kc => exact Nat.le_of_ble_eq_true rfl); (case e0 => assumption); (case e1 => first | assumption | (unfold SK.led skEs; exact fun p hp => List.mem_append_left _ hp)); k_whole; intro v9 nw9 h9 tk9 hr9 F9 N9; (refine Exists.elim hr9.2 ?_; intro t9 e9; subst e9; replace N9 := cb_drop N9 hr9.1; clear hr9); revert nw9 h9 tk9 F9 N9 t9; intros; (try dsimp only); (try k_fold))) | ((with_reducible show wpAny _ _ (call _ _) _ _ _); k_here; (try dsimp only); (with_reducible show wpAny _ _ (call (Value.ref 69) _) _ _ _); k_dflt (refine' SpecV.callB (lies_at_spec _ _ _ _ _ _ _ ?e0 ?e1) ?k1 ?k2 ?k3 ?k4 ?k5 ?k6 ?k7 ?k8 ?k9 ?ka ?kb ?kc ?_; (case k1 => k_asm); (case k2 => k_asm); (case k3 => k_asm); (case k4 => k_asm); (case k5 => k_asm); (case k6 => first | assumption | exact rfl); (case k7 => first | assumption | exact rfl); (case k8 => k_asm); (case k9 => k_asm); (case ka => rfl); (case kb => rfl); (case kc => exact Nat.le_of_ble_eq_true rfl); (case e0 => assumption); (case e1 => assumption); k_whole; intro _ _ _ _ _; (try dsimp only); (try k_fold))) | walk1 | (dsimp only; walk1) | (leave1; try dsimp only) | fail "no step"))
      all_goals (refine hret _ _ _ _ ⟨hall, ?_⟩ (by assumption) (by assumption))
      · rw [fitS_late (by omega)]
      · rw [fitS_all hd (by omega) (by omega) (.inr hkk)]
      · rw [fitS_early (by omega)]
    · (k_dflt (refine' enter_plainN (by assumption) ?k1 ?k2 ?k3 ?k4 ?k5 ?kF ?kK ?k6 ?k7 ?k8 ?k9 ?kB ?km ?_ ?c2 ?c3 ?c4 ?c5; (case kF => assumption); (case kK => assumption); (case k1 => k_asm); (case k2 => k_asm); (case k3 => k_asm); (case k4 => k_asm); (case k5 => k_asm); (case k6 => k_is); (case k7 => k_is); (case k8 => ktr_room); (case k9 => exact BindsTo.of_eq rfl); (case km => exact rfl); (case c5 => decide); (case kB => exact locs rfl); (case c2 => exact rfl); (case c3 => exact rfl); (case c4 => exact rfl); k_whole; intro _ _ _ _ _ _ _ _ _ _; (try dsimp only); (try k_fold)))
      (repeat' (first | (k_unfold; (try dsimp only)) | (k_end; wrow_close) | ((with_reducible show wpAny _ _ (call _ _) _ _ _); k_here; (try dsimp only); (with_reducible show wpAny _ _ (call (Value.ref 111) _) _ _ _); k_dflt (refine' Spec.callB (width_spec _ _ _ ?e0 ?e1) ?k1 ?k2 ?k3 ?k4 ?k5 ?k6 ?k7 ?k8 ?k9 ?ka ?kb ?kc ?_; (case k1 => k_asm); (case k2 => k_asm); (case k3 => k_asm); (case k4 => k_asm); (case k5 => k_asm); (case k6 => first | assumption | exact rfl); (case k7 => first | assumption | exact rfl); (case k8 => k_asm); (case k9 => k_asm); (case ka => rfl); (case kb => rfl); (case kc => exact Nat.le_of_ble_eq_true rfl); (case e0 => assumption); (case e1 => first | assumption | (unfold SK.led skEs; exact fun p hp => List.mem_append_left _ hp)); k_whole; intro v9 nw9 h9 tk9 hr9 F9 N9; (refine Exists.elim hr9.2 ?_; intro t9 e9; subst e9; replace N9 := cb_drop N9 hr9.1; clear hr9); revert nw9 h9 tk9 F9 N9 t9; intros; (try dsimp only); (try k_fold))) | ((with_reducible show wpAny _ _ (call _ _) _ _ _); k_here; (try dsimp only); (with_reducible show wpAny _ _ (call (Value.ref 69) _) _ _ _); k_dflt (refine' SpecV.callB (lies_at_spec _ _ _ _ _ _ _ ?e0 ?e1) ?k1 ?k2 ?k3 ?k4 ?k5 ?k6 ?k7 ?k8 ?k9 ?ka ?kb ?kc ?_; (case k1 => k_asm); (case k2 => k_asm); (case k3 => k_asm); (case k4 => k_asm); (case k5 => k_asm); (case k6 => first | assumption | exact rfl); (case k7 => first | assumption | exact rfl); (case k8 => k_asm); (case k9 => k_asm); (case ka => rfl); (case kb => rfl); (case kc => exact Nat.le_of_ble_eq_true rfl); (case e0 => assumption); (case e1 => assumption); k_whole; intro _ _ _ _ _; (try dsimp only); (try k_fold))) | walk1 | (dsimp only; walk1) | (leave1; try dsimp only) | fail "no step"))
      all_goals (refine hret _ _ _ _ ⟨hall, ?_⟩ (by assumption) (by assumption))
      · rw [fitS_late (by omega)]
      · rw [fitS_chars hd (by omega) (by omega) hkk]
      · rw [fitS_early (by omega)]
  · (k_dflt (refine' enter_plainN (by assumption) ?k1 ?k2 ?k3 ?k4 ?k5 ?kF ?kK ?k6 ?k7 ?k8 ?k9 ?kB ?km ?_ ?c2 ?c3 ?c4 ?c5; (case kF => assumption); (case kK => assumption); (case k1 => k_asm); (case k2 => k_asm); (case k3 => k_asm); (case k4 => k_asm); (case k5 => k_asm); (case k6 => k_is); (case k7 => k_is); (case k8 => ktr_room); (case k9 => exact BindsTo.of_eq rfl); (case km => exact rfl); (case c5 => decide); (case kB => exact locs rfl); (case c2 => exact rfl); (case c3 => exact rfl); (case c4 => exact rfl); k_whole; intro _ _ _ _ _ _ _ _ _ _; (try dsimp only); (try k_fold)))
    (repeat' (first | (k_unfold; (try dsimp only)) | (k_end; wrow_close) | ((with_reducible show wpAny _ _ (call _ _) _ _ _); k_here; (try dsimp only); (with_reducible show wpAny _ _ (call (Value.ref 111) _) _ _ _); k_dflt (refine' Spec.callB (width_spec _ _ _ ?e0 ?e1) ?k1 ?k2 ?k3 ?k4 ?k5 ?k6 ?k7 ?k8 ?k9 ?ka ?kb ?kc ?_; (case k1 => k_asm); (case k2 => k_asm); (case k3 => k_asm); (case k4 => k_asm); (case k5 => k_asm); (case k6 => first | assumption | exact rfl); (case k7 => first | assumption | exact rfl); (case k8 => k_asm); (case k9 => k_asm); (case ka => rfl); (case kb => rfl); (case kc => exact Nat.le_of_ble_eq_true rfl); (case e0 => assumption); (case e1 => first | assumption | (unfold SK.led skEs; exact fun p hp => List.mem_append_left _ hp)); k_whole; intro v9 nw9 h9 tk9 hr9 F9 N9; (refine Exists.elim hr9.2 ?_; intro t9 e9; subst e9; replace N9 := cb_drop N9 hr9.1; clear hr9); revert nw9 h9 tk9 F9 N9 t9; intros; (try dsimp only); (try k_fold))) | ((with_reducible show wpAny _ _ (call _ _) _ _ _); k_here; (try dsimp only); (with_reducible show wpAny _ _ (call (Value.ref 69) _) _ _ _); k_dflt (refine' SpecV.callB (lies_at_spec _ _ _ _ _ _ _ ?e0 ?e1) ?k1 ?k2 ?k3 ?k4 ?k5 ?k6 ?k7 ?k8 ?k9 ?ka ?kb ?kc ?_; (case k1 => k_asm); (case k2 => k_asm); (case k3 => k_asm); (case k4 => k_asm); (case k5 => k_asm); (case k6 => first | assumption | exact rfl); (case k7 => first | assumption | exact rfl); (case k8 => k_asm); (case k9 => k_asm); (case ka => rfl); (case kb => rfl); (case kc => exact Nat.le_of_ble_eq_true rfl); (case e0 => assumption); (case e1 => assumption); k_whole; intro _ _ _ _ _; (try dsimp only); (try k_fold))) | walk1 | (dsimp only; walk1) | (leave1; try dsimp only) | fail "no step"))
    refine hret _ _ _ _ ⟨hall, ?_⟩ (by assumption) (by assumption)
    rw [fitS, if_pos (.inl hd)]
theorem is_fit_at (w : World) (o : List UInt8) (k : SK) (x : Addr) (a : Nat) (to ta : Tok) (rest : Led) (ho : o.length ≤ 1000) (hx : x = k.x) (hw : k.abs.wanted.length ≤ 1000) :
    Spec w 2 125 [.ref x, .bytes o.toArray to, .int (a : Int) ta] (k.led w ++ rest) (fun v news' => (∀ p ∈ k.led w ++ rest, p ∈ news') ∧ v = .bool (fitS o k.abs a)) :=
  hx ▸ is_fit_spec w o k a to ta _ ho hw fun _ hp => List.mem_append_left _ hp
theorem width_at (w : World) (k : SK) (x : Addr) (rest : Led) (hx : x = k.x) (hw : k.abs.wanted.length ≤ 1000) :
    Spec w 1 111 [.ref x] (k.led w ++ rest) (fun v news' => (∀ p ∈ k.led w ++ rest, p ∈ news') ∧ ∃ t, v = .int (k.abs.width : Int) t) :=
  hx ▸ width_spec w k _ hw fun _ hp => List.mem_append_left _ hp
end
section
theorem sk_sub {A B C : Addr × Obj} {news : Led} : ∀ p ∈ [A, B] ++ news, p ∈ A :: B :: C :: news := by
  intro p hp
  rcases List.mem_cons.mp hp with rfl | hp
  · exact .head _
  · rcases List.mem_cons.mp hp with rfl | hp
    · exact .tail _ (.head _)
    · exact .tail _ (.tail _ (.tail _ hp))
/-- a seeker made anew -/
def AS.fresh (o : List UInt8) (kind : Kind) (wanted : List UInt8) (b a : Option (List UInt8)) : AS := ⟨kind, wanted, beginS o a, endS o b, none, false⟩
theorem fresh_at {w : World} {h₀ h : Heap} {L x d : Addr} {k1 k2 k3 k4 k5 k6 kt wt bt et : Tok} {kind : Kind} {o wn : List UInt8} {b a : Option (List UInt8)} {C : Addr × Obj} {news : Led}
    (_N : News h₀ L h ((x, instObj 135 d) :: (d, dictOf (skEs w k1 k2 k3 k4 k5 k6 (.str kind.str kt) (wvOf kind wn wt) (.int (beginS o a : Nat) bt) (.int (endS o b : Nat) et) .none (.bool false)) 6) :: C :: news)) (h1 : ∀ p ∈ news, p.1 < d) (h2 : d < x) :
    ∃ k : SK, k.abs = AS.fresh o kind wn b a ∧ Value.ref x = .ref k.x ∧ (∀ p ∈ k.led w ++ news, p ∈ (x, instObj 135 d) :: (d, dictOf (skEs w k1 k2 k3 k4 k5 k6 (.str kind.str kt) (wvOf kind wn wt) (.int (beginS o a : Nat) bt) (.int (endS o b : Nat) et) .none (.bool false)) 6) :: C :: news) ∧ (∀ p ∈ news, p.1 < k.d) ∧ k.d < k.x :=
  ⟨⟨x, d, k1, k2, k3, k4, k5, k6, kt, wt, bt, et, 0, AS.fresh o kind wn b a⟩, rfl, rfl, sk_sub, h1, h2⟩
theorem wv_bytes {kind : Kind} (h : kind ≠ .chars) (wn : List UInt8) (t : Tok) : wvOf kind wn t = .bytes wn.toArray t := by
  cases kind <;> first | rfl | exact absurd rfl h
theorem kind_any : ∀ kind : Kind, ([Str.ofString "ALL", Str.ofString "LEADING", Str.ofString "FIRST", Str.ofString "CHARACTERS"] : List Str).any (· == kind.str) = true := by
  intro kind
  cases kind <;> decide
theorem kind_ne {kind : Kind} (h : kind ≠ .chars) : (kind.str != Str.ofString "CHARACTERS") = true := by
  cases kind <;> first | decide | exact absurd rfl h
theorem notin_kind {w : World} {A : Around} {E : Value → Shared → Prop} {s : Shared} {l : Addr} {vs : List Value} {ys : List Str} {k : Str} {t : Tok} {Q : Value → Shared → Prop} (hl : s.heap.IsList l vs.toArray) (hi : StrsAre vs ys) (hk : ys.any (· == k) = true)
    (h : Q (.bool false) s) : wpAny (model PG w) A (compareOp .NotIn (.str k t) (.ref l)) Q E s :=
  notin_list_strs hl hi (by rw [hk]; exact h)
theorem ne_kind {w : World} {A : Around} {E : Value → Shared → Prop} {s : Shared} {a b : Str} {t u : Tok} {Q : Value → Shared → Prop} (hk : (a != b) = true) (h : Q (.bool true) s) : wpAny (model PG w) A (compareOp .NotEq (.str a t) (.str b u)) Q E s :=
  ne_str (by rw [hk]; exact h)
section
set_option maxRecDepth 100000 in
set_option maxHeartbeats 8000000 in
theorem seeker_of_wanted (w : World) (o : List UInt8) (kind : Kind) (wn : List UInt8) (b a : Option (List UInt8)) (t1 t2 t3 t4 t5 : Tok) (news : Led) (hkc : kind ≠ .chars) (ho : o.length ≤ 1000) (hw : wn.length ≤ 1000) (hw0 : 0 < wn.length) (hb : okOpt b) (ha : okOpt a) :
    Spec w 6 146 [.bytes o.toArray t1, .str kind.str t2, .bytes wn.toArray t3, vOpt b t4, vOpt a t5] news (fun v news' => ∃ k : SK, k.abs = AS.fresh o kind wn b a ∧ v = .ref k.x ∧ (∀ p ∈ k.led w ++ news, p ∈ news') ∧ (∀ p ∈ news, p.1 < k.d) ∧ k.d < k.x) := by
  unfold Spec
  intro dp un gd env outer A₀ mean mg mb base h₀ L m s Q E B F X N T hf hk hdp hun hret
  ((have fill : (∀ w : World, (Mine.hdHeap w.params) = (Mine.hdHeap w.params)) ∧ PySem.Challenge.rw_og0077_01.Holds → True := by ((first | k_fill | skip); exact fun _ => trivial)); clear fill)
  have hE : Enter [(Str.ofString "octets", .bytes o.toArray t1), (Str.ofString "kind", .str kind.str t2), (Str.ofString "wanted", .bytes wn.toArray t3), (Str.ofString "before", vOpt b t4), (Str.ofString "after", vOpt a t5)] (fun y => List.lookup y [(Str.ofString "after", vOpt a t5), (Str.ofString "before", vOpt b t4), (Str.ofString "wanted", .bytes wn.toArray t3), (Str.ofString "kind", .str kind.str t2), (Str.ofString "octets", .bytes o.toArray t1)]) := ⟨⟩
  (k_dflt (refine' enter_plainN (by assumption) ?k1 ?k2 ?k3 ?k4 ?k5 ?kF ?kK ?k6 ?k7 ?k8 ?k9 ?kB ?km ?_ ?c2 ?c3 ?c4 ?c5; (case kF => assumption); (case kK => assumption); (case k1 => k_asm); (case k2 => k_asm); (case k3 => k_asm); (case k4 => k_asm); (case k5 => k_asm); (case k6 => k_is); (case k7 => k_is); (case k8 => ktr_room); (case k9 => exact BindsTo.of_eq rfl); (case km => exact rfl); (case c5 => decide); (case kB => exact locs rfl); (case c2 => exact rfl); (case c3 => exact rfl); (case c4 => exact rfl); k_whole; intro _ _ _ _ _ _ _ _ _ _; (try dsimp only); (try k_fold)))
  (repeat' (first | (k_unfold; (try dsimp only)) | (k_end; wrow_close) | (k_here; (with_reducible show wpAny _ _ (compareOp CmpOp.NotEq (Value.str _ _) (Value.str _ _)) _ _ _); refine ne_kind (kind_ne (by assumption)) ?_) | (k_here; (with_reducible show wpAny _ _ (compareOp CmpOp.NotIn (Value.str _ _) (Value.ref _)) _ _ _); (with_unfolding_all refine' notin_kind ?k1 ?k2 ?k3 ?_; (case k1 => exact News.isList (by k_asm) (by news_mem)); (case k2 => kde_strs); (case k3 => exact kind_any _); k_whole)) | ((with_reducible show wpAny _ _ (call _ _) _ _ _); k_here; (try dsimp only); (with_reducible show wpAny _ _ (call (Value.ref 90) _) _ _ _); k_dflt (refine' SpecV.callB (stretch_end_spec _ _ _ _ _ ?e0 ?e1) ?k1 ?k2 ?k3 ?k4 ?k5 ?k6 ?k7 ?k8 ?k9 ?ka ?kb ?kc ?_; (case k1 => k_asm); (case k2 => k_asm); (case k3 => k_asm); (case k4 => k_asm); (case k5 => k_asm); (case k6 => first | assumption | exact rfl); (case k7 => first | assumption | exact rfl); (case k8 => k_asm); (case k9 => k_asm); (case ka => rfl); (case kb => rfl); (case kc => exact Nat.le_of_ble_eq_true rfl); (case e0 => assumption); (case e1 => assumption); k_whole; intro _ _ _ _ _; (try dsimp only); (try k_fold))) | ((with_reducible show wpAny _ _ (call _ _) _ _ _); k_here; (try dsimp only); (with_reducible show wpAny _ _ (call (Value.ref 83) _) _ _ _); k_dflt (refine' SpecV.callB (stretch_begin_spec _ _ _ _ _ ?e0 ?e1) ?k1 ?k2 ?k3 ?k4 ?k5 ?k6 ?k7 ?k8 ?k9 ?ka ?kb ?kc ?_; (case k1 => k_asm); (case k2 => k_asm); (case k3 => k_asm); (case k4 => k_asm); (case k5 => k_asm); (case k6 => first | assumption | exact rfl); (case k7 => first | assumption | exact rfl); (case k8 => k_asm); (case k9 => k_asm); (case ka => rfl); (case kb => rfl); (case kc => exact Nat.le_of_ble_eq_true rfl); (case e0 => assumption); (case e1 => assumption); k_whole; intro _ _ _ _ _; (try dsimp only); (try k_fold))) | (k_here; (with_reducible show wpAny _ _ (call (Value.ref 135) _) _ _ _); k_dflt (refine' call_cls ?k1 ?k2 ?k3 ?k4 ?k5 ?k6 ?_; (case k1 => k_asm); (case k2 => k_asm); (case k3 => k_asm); (case k4 => k_is); (case k5 => k_is); (case k6 => k_is); k_whole; intro _ _ _ _ _ l1 l2; (try k_lt l1); (try k_lt2 l2); (try k_sweep); refine' code_def ?k1 ?k2 ?k3 ?k4 ?k5 ?kA ?kF ?kK ?k6 ?k7 ?k8 ?k9 ?kB ?_ ?c2 ?c3 ?c4 ?c5; (case kA => exact rfl); (case kF => exact rfl); (case kK => first | exact rfl | assumption); (case k1 => k_asm); (case k2 => k_asm); (case k3 => k_asm); (case k4 => k_asm); (case k5 => k_asm); (case k6 => k_is); (case k7 => k_is); (case k8 => ktr_room); (case k9 => exact BindsTo.of_eq rfl); (case c5 => decide); (case kB => exact locs rfl); (case c2 => exact rfl); (case c3 => exact rfl); (case c4 => exact rfl); k_whole; intro _ _ _ _ _ _ _ _ _; (try dsimp only); (try k_fold))) | walk1 | (dsimp only; walk1) | (leave1; try dsimp only) | fail "no step"))
  rename News _ _ _ _ => kN
  rw [← wv_bytes hkc] at kN
  exact hret _ _ _ _ (fresh_at (kind := kind) kN (ktn_ltOf (by first | assumption | exact (‹_ ∧ AllLt _ _›).2)) (by omega)) (by assumption) kN
end
set_option maxRecDepth 100000 in
set_option maxHeartbeats 8000000 in
theorem seeker_of_spec (w : World) (o : List UInt8) (kind : Kind) (wn : List UInt8) (b a : Option (List UInt8)) (t1 t2 t3 t4 t5 : Tok) (news : Led) (ho : o.length ≤ 1000) (hw : wn.length ≤ 1000) (hw0 : kind ≠ .chars → 0 < wn.length) (hb : okOpt b) (ha : okOpt a) :
    Spec w 6 146 [.bytes o.toArray t1, .str kind.str t2, wvOf kind wn t3, vOpt b t4, vOpt a t5] news (fun v news' => ∃ k : SK, k.abs = AS.fresh o kind wn b a ∧ v = .ref k.x ∧ (∀ p ∈ k.led w ++ news, p ∈ news') ∧ (∀ p ∈ news, p.1 < k.d) ∧ k.d < k.x) := by
  rcases Decidable.em (kind = .chars) with hkc | hkc
  rotate_left
  · rw [wv_bytes hkc]
    exact seeker_of_wanted w o kind wn b a t1 t2 t3 t4 t5 news hkc ho hw (hw0 hkc) hb ha
  subst hkc
  unfold Spec
  intro dp un gd env outer A₀ mean mg mb base h₀ L m s Q E B F X N T hf hk hdp hun hret
  ((have fill : (∀ w : World, (Mine.hdHeap w.params) = (Mine.hdHeap w.params)) ∧ PySem.Challenge.rw_og0077_01.Holds → True := by ((first | k_fill | skip); exact fun _ => trivial)); clear fill)
  have hE : Enter [(Str.ofString "octets", .bytes o.toArray t1), (Str.ofString "kind", .str Kind.chars.str t2), (Str.ofString "wanted", wvOf Kind.chars wn t3), (Str.ofString "before", vOpt b t4), (Str.ofString "after", vOpt a t5)] (fun y => List.lookup y [(Str.ofString "after", vOpt a t5), (Str.ofString "before", vOpt b t4), (Str.ofString "wanted", wvOf Kind.chars wn t3), (Str.ofString "kind", .str Kind.chars.str t2), (Str.ofString "octets", .bytes o.toArray t1)]) := ⟨⟩
  dsimp only [Kind.str, wvOf] at hE ⊢
  (k_dflt (refine' enter_plainN (by assumption) ?k1 ?k2 ?k3 ?k4 ?k5 ?kF ?kK ?k6 ?k7 ?k8 ?k9 ?kB ?km ?_ ?c2 ?c3 ?c4 ?c5; (case kF => assumption); (case kK => assumption); (case k1 => k_asm); (case k2 => k_asm); (case k3 => k_asm); (case k4 => k_asm); (case k5 => k_asm); (case k6 => k_is); (case k7 => k_is); (case k8 => ktr_room); (case k9 => exact BindsTo.of_eq rfl); (case km => exact rfl); (case c5 => decide); (case kB => exact locs rfl); (case c2 => exact rfl); (case c3 => exact rfl); (case c4 => exact rfl); k_whole; intro _ _ _ _ _ _ _ _ _ _; (try dsimp only); (try k_fold)))
  (repeat' (first | (k_unfold; (try dsimp only)) | (k_end; wrow_close) | (k_here; (with_reducible show wpAny _ _ (compareOp CmpOp.NotEq (Value.str _ _) (Value.str _ _)) _ _ _); refine ne_kind (kind_ne (by assumption)) ?_) | (k_here; (with_reducible show wpAny _ _ (compareOp CmpOp.NotIn (Value.str _ _) (Value.ref _)) _ _ _); (with_unfolding_all refine' notin_kind ?k1 ?k2 ?k3 ?_; (case k1 => exact News.isList (by k_asm) (by news_mem)); (case k2 => kde_strs); (case k3 => exact kind_any _); k_whole)) | ((with_reducible show wpAny _ _ (call _ _) _ _ _); k_here; (try dsimp only); (with_reducible show wpAny _ _ (call (Value.ref 90) _) _ _ _); k_dflt (refine' SpecV.callB (stretch_end_spec _ _ _ _ _ ?e0 ?e1) ?k1 ?k2 ?k3 ?k4 ?k5 ?k6 ?k7 ?k8 ?k9 ?ka ?kb ?kc ?_; (case k1 => k_asm); (case k2 => k_asm); (case k3 => k_asm); (case k4 => k_asm); (case k5 => k_asm); (case k6 => first | assumption | exact rfl); (case k7 => first | assumption | exact rfl); (case k8 => k_asm); (case k9 => k_asm); (case ka => rfl); (case kb => rfl); (case kc => exact Nat.le_of_ble_eq_true rfl); (case e0 => assumption); (case e1 => assumption); k_whole; intro _ _ _ _ _; (try dsimp only); (try k_fold))) | ((with_reducible show wpAny _ _ (call _ _) _ _ _); k_here; (try dsimp only); (with_reducible show wpAny _ _ (call (Value.ref 83) _) _ _ _); k_dflt (refine' SpecV.callB (stretch_begin_spec _ _ _ _ _ ?e0 ?e1) ?k1 ?k2 ?k3 ?k4 ?k5 ?k6 ?k7 ?k8 ?k9 ?ka ?kb ?kc ?_; (case k1 => k_asm); (case k2 => k_asm); (case k3 => k_asm); (case k4 => k_asm); (case k5 => k_asm); (case k6 => first | assumption | exact rfl); (case k7 => first | assumption | exact rfl); (case k8 => k_asm); (case k9 => k_asm); (case ka => rfl); (case kb => rfl); (case kc => exact Nat.le_of_ble_eq_true rfl); (case e0 => assumption); (case e1 => assumption); k_whole; intro _ _ _ _ _; (try dsimp only); (try k_fold))) | (k_here; (with_reducible show wpAny _ _ (call (Value.ref 135) _) _ _ _); k_dflt (refine' call_cls ?k1 ?k2 ?k3 ?k4 ?k5 ?k6 ?_; (case k1 => k_asm); (case k2 => k_asm); (case k3 => k_asm); (case k4 => k_is); (case k5 => k_is); (case k6 => k_is); k_whole; intro _ _ _ _ _ l1 l2; (try k_lt l1); (try k_lt2 l2); (try k_sweep); refine' code_def ?k1 ?k2 ?k3 ?k4 ?k5 ?kA ?kF ?kK ?k6 ?k7 ?k8 ?k9 ?kB ?_ ?c2 ?c3 ?c4 ?c5; (case kA => exact rfl); (case kF => exact rfl); (case kK => first | exact rfl | assumption); (case k1 => k_asm); (case k2 => k_asm); (case k3 => k_asm); (case k4 => k_asm); (case k5 => k_asm); (case k6 => k_is); (case k7 => k_is); (case k8 => ktr_room); (case k9 => exact BindsTo.of_eq rfl); (case c5 => decide); (case kB => exact locs rfl); (case c2 => exact rfl); (case c3 => exact rfl); (case c4 => exact rfl); k_whole; intro _ _ _ _ _ _ _ _ _; (try dsimp only); (try k_fold))) | walk1 | (dsimp only; walk1) | (leave1; try dsimp only) | fail "no step"))
  rename News _ _ _ _ => kN
  exact hret _ _ _ _ (fresh_at (kind := .chars) (wt := 0) kN (ktn_ltOf (by first | assumption | exact (‹_ ∧ AllLt _ _›).2)) (by omega)) (by assumption) kN
end
section
def ledAll (w : World) (ks : List SK) : Led := ks.flatMap (SK.led w)
theorem ledAll_append (w : World) (a b : List SK) : ledAll w (a ++ b) = ledAll w a ++ ledAll w b := List.flatMap_append
theorem ledAll_cons (w : World) (k : SK) (b : List SK) : ledAll w (k :: b) = k.led w ++ ledAll w b := List.flatMap_cons
def SK.ad (k : SK) : Addr × Addr := (k.x, k.d)
theorem mem_ledAll {w : World} {ks : List SK} {p : Addr × Obj} (h : p ∈ ledAll w ks) : ∃ k ∈ ks, p.1 = k.x ∨ p.1 = k.d := by
  obtain ⟨k, hk, hp⟩ := List.mem_flatMap.mp h
  refine ⟨k, hk, ?_⟩
  rcases List.mem_cons.mp hp with rfl | hp
  · exact .inl rfl
  · rw [List.mem_singleton.mp hp]; exact .inr rfl
/-- the seekers lie apart, and apart from what else is told -/
structure Sep (ads : List (Addr × Addr)) (rest : Led) : Prop where
  one : ∀ a ∈ ads, a.1 ≠ a.2
  two : ads.Pairwise fun a b => a.2 ≠ b.2 ∧ a.2 ≠ b.1 ∧ a.1 ≠ b.2
  off : ∀ a ∈ ads, ∀ p ∈ rest, p.1 ≠ a.2
theorem Sep.mid {w : World} {rest : Led} {pre post : List SK} {k : SK} (S : Sep ((pre ++ k :: post).map SK.ad) rest) : k.x ≠ k.d ∧ ∀ p ∈ ledAll w pre ++ (ledAll w post ++ rest), p.1 ≠ k.d := by
  refine ⟨S.one k.ad (List.mem_map_of_mem (List.mem_append_right _ (.head _))), fun p hp => ?_⟩
  have two := S.two
  rw [List.map_append, List.map_cons, List.pairwise_append] at two
  obtain ⟨_, t2, t3⟩ := two
  rw [List.pairwise_cons] at t2
  rcases List.mem_append.mp hp with hp | hp
  · obtain ⟨k', hk', e⟩ := mem_ledAll hp
    have := t3 k'.ad (List.mem_map_of_mem hk') k.ad (.head _)
    rcases e with e | e <;> rw [e]
    · exact this.2.2
    · exact this.1
  · rcases List.mem_append.mp hp with hp | hp
    · obtain ⟨k', hk', e⟩ := mem_ledAll hp
      have := t2.1 k'.ad (List.mem_map_of_mem hk')
      rcases e with e | e <;> rw [e]
      · exact Ne.symm this.2.1
      · exact Ne.symm this.1
    · exact S.off k.ad (List.mem_map_of_mem (List.mem_append_right _ (.head _))) p hp
def takerIn (o : List UInt8) (a : Nat) (ss : List AS) : Option Nat := ss.findIdx? (fun s => fitS o s a)
theorem takerIn_snoc (o : List UInt8) (a : Nat) (ss : List AS) (s : AS) : takerIn o a (ss ++ [s]) = match takerIn o a ss with
    | some j => some j
    | none => if fitS o s a = true then some ss.length else none := by
  unfold takerIn
  rw [List.findIdx?_append]
  cases List.findIdx? (fun s => fitS o s a) ss with
  | some j => rfl
  | none =>
    cases h : fitS o s a <;> simp [List.findIdx?_cons, h]
def AS.nil : AS := ⟨.all, [], 0, 0, none, false⟩
def reachAll (a : Nat) (ss : List AS) : List AS := ss.map fun s => s.reach a
/-- the walk of fits_in, in plain words: n is fuel -/
def fitsF (o : List UInt8) : Nat → Nat → List AS → List (Nat × Nat)
  | 0, _, _ => []
  | f + 1, a, ss => if a < o.length then
      (match takerIn o a (reachAll a ss) with
      | none => fitsF o f (a + 1) (reachAll a ss)
      | some i => (a, i) :: fitsF o f (a + ((reachAll a ss).getD i AS.nil).width) ((reachAll a ss).set i (((reachAll a ss).getD i AS.nil).took a)))
    else []
def fitsEnd (o : List UInt8) : Nat → Nat → List AS → List AS
  | 0, _, ss => ss
  | f + 1, a, ss => if a < o.length then
      (match takerIn o a (reachAll a ss) with
      | none => fitsEnd o f (a + 1) (reachAll a ss)
      | some i => fitsEnd o f (a + ((reachAll a ss).getD i AS.nil).width) ((reachAll a ss).set i (((reachAll a ss).getD i AS.nil).took a)))
    else ss
/-- a pair of ints, told by the ledger -/
def PairIn (news : Led) (v : Value) (q : Nat × Nat) : Prop := ∃ T t1 t2, v = .ref T ∧ (T, tupOf [.int (q.1 : Int) t1, .int (q.2 : Int) t2]) ∈ news
def PairsIn (news : Led) : List Value → List (Nat × Nat) → Prop
  | [], [] => True
  | v :: vs, q :: qs => PairIn news v q ∧ PairsIn news vs qs
  | _, _ => False
theorem PairIn.mono {news news' : Led} {v : Value} {q : Nat × Nat} (h : PairIn news v q) (hs : ∀ p ∈ news, p ∈ news') : PairIn news' v q := by
  obtain ⟨T, t1, t2, e, hm⟩ := h
  exact ⟨T, t1, t2, e, hs _ hm⟩
theorem PairsIn.mono {news news' : Led} (hs : ∀ p ∈ news, p ∈ news') : ∀ {vs : List Value} {qs : List (Nat × Nat)}, PairsIn news vs qs → PairsIn news' vs qs
  | [], [], _ => trivial
  | _ :: _, _ :: _, h => ⟨h.1.mono hs, PairsIn.mono hs h.2⟩
  | [], _ :: _, h => h.elim
  | _ :: _, [], h => h.elim
theorem PairsIn.snoc {news : Led} {v : Value} {q : Nat × Nat} (hv : PairIn news v q) : ∀ {vs : List Value} {qs : List (Nat × Nat)}, PairsIn news vs qs → PairsIn news (vs ++ [v]) (qs ++ [q])
  | [], [], _ => ⟨hv, trivial⟩
  | _ :: _, _ :: _, h => ⟨h.1, PairsIn.snoc hv h.2⟩
  | [], _ :: _, h => h.elim
  | _ :: _, [], h => h.elim
theorem PairsIn.length {news : Led} : ∀ {vs : List Value} {qs : List (Nat × Nat)}, PairsIn news vs qs → vs.length = qs.length
  | [], [], _ => rfl
  | _ :: _, _ :: _, h => congrArg (· + 1) (PairsIn.length h.2)
  | [], _ :: _, h => h.elim
  | _ :: _, [], h => h.elim
theorem fitsF_stop {o : List UInt8} {a : Nat} (h : ¬ a < o.length) : ∀ (n : Nat) (ss : List AS), fitsF o n a ss = []
  | 0, _ => rfl
  | n + 1, ss => if_neg h
theorem fitsEnd_stop {o : List UInt8} {a : Nat} (h : ¬ a < o.length) : ∀ (n : Nat) (ss : List AS), fitsEnd o n a ss = ss
  | 0, _ => rfl
  | n + 1, ss => if_neg h
theorem reach_wanted (s : AS) (a : Nat) : (s.reach a).wanted = s.wanted ∧ (s.reach a).kind = s.kind ∧ (s.reach a).width = s.width := by
  unfold AS.reach AS.width
  split <;> exact ⟨rfl, rfl, rfl⟩
theorem step_abs {ss : List AS} {a i : Nat} {pre post : List AS} {x : AS} (h : pre ++ x :: post = (reachAll a ss).take i ++ ss.drop i) (hp : pre.length = i) (hi : i < ss.length) :
    pre ++ x.reach a :: post = (reachAll a ss).take (i + 1) ++ ss.drop (i + 1) ∧ (reachAll a ss).take (i + 1) = (reachAll a ss).take i ++ [x.reach a] := by
  have hl : (reachAll a ss).length = ss.length := List.length_map _
  have hlen : pre.length = ((reachAll a ss).take i).length := by rw [List.length_take, hl, hp]; omega
  obtain ⟨h1, h2⟩ := List.append_inj h hlen
  rw [List.drop_eq_getElem_cons hi] at h2
  injection h2 with h3 h4
  have e : (reachAll a ss).take (i + 1) = (reachAll a ss).take i ++ [x.reach a] := by
    rw [List.take_succ_eq_append_getElem (by rw [hl]; exact hi)]
    congr 2
    unfold reachAll
    rw [List.getElem_map, h3]
  refine ⟨?_, e⟩
  rw [e, h1, h4, List.append_assoc]
  rfl
theorem ad_in {w : World} {ks : List SK} {a : Addr × Addr} (h : a ∈ ks.map SK.ad) : (∃ o, (a.1, o) ∈ ledAll w ks) ∧ ∃ o, (a.2, o) ∈ ledAll w ks := by
  obtain ⟨k, hk, rfl⟩ := List.mem_map.mp h
  exact ⟨⟨_, List.mem_flatMap.mpr ⟨k, hk, .head _⟩⟩, ⟨_, List.mem_flatMap.mpr ⟨k, hk, .tail _ (.head _)⟩⟩⟩
theorem get_ad {xs ys : List SK} (h : xs.map SK.ad = ys.map SK.ad) : xs.map (fun k => Value.ref k.x) = ys.map (fun k => Value.ref k.x) := by
  have := congrArg (List.map fun a : Addr × Addr => Value.ref a.1) h
  simpa [List.map_map, Function.comp_def, SK.ad] using this
theorem split_at (l : List SK) (i : Nat) (h : i < l.length) : ∃ pre k post, l = pre ++ k :: post ∧ pre.length = i :=
  ⟨l.take i, l[i], l.drop (i + 1), by rw [← List.drop_eq_getElem_cons h, List.take_append_drop], by rw [List.length_take]; omega⟩
theorem pull_out {w : World} {pre post : List SK} {k : SK} {tl rest : Led} {a b c : Addr × Obj} : ∀ p ∈ k.led w ++ (a :: b :: c :: (tl ++ (ledAll w pre ++ (ledAll w post ++ rest)))), p ∈ a :: b :: c :: (tl ++ (ledAll w (pre ++ k :: post) ++ rest)) := by
  intro p hp
  simp only [ledAll_append, ledAll_cons, List.mem_append, List.mem_cons] at hp ⊢
  grind
theorem pull_one {w : World} {pre post : List SK} {k : SK} {tl rest : Led} {c : Addr × Obj} : ∀ p ∈ c :: (k.led w ++ (tl ++ (ledAll w pre ++ (ledAll w post ++ rest)))), p ∈ c :: (tl ++ (ledAll w (pre ++ k :: post) ++ rest)) := by
  intro p hp
  simp only [ledAll_append, ledAll_cons, List.mem_append, List.mem_cons] at hp ⊢
  grind
theorem pull_two {w : World} {k : SK} {tl : Led} {c d : Addr × Obj} : ∀ p ∈ k.led w ++ (c :: d :: tl), p ∈ c :: d :: (k.led w ++ tl) := by
  intro p hp
  simp only [List.mem_append, List.mem_cons] at hp ⊢
  grind
theorem push_two {w : World} {pre post : List SK} {k : SK} {tl rest : Led} {c d : Addr × Obj} : ∀ p ∈ d :: ((c :: tl) ++ (ledAll w (pre ++ k :: post) ++ rest)), p ∈ k.led w ++ (c :: d :: (tl ++ (ledAll w pre ++ (ledAll w post ++ rest)))) := by
  intro p hp
  simp only [ledAll_append, ledAll_cons, List.mem_append, List.mem_cons, List.cons_append] at hp ⊢
  grind
theorem takerIn_lt {o : List UInt8} {a j : Nat} {ss : List AS} (h : takerIn o a ss = some j) : j < ss.length := by
  unfold takerIn at h
  exact (List.findIdx?_eq_some_iff_getElem.mp h).1
theorem push_in {w : World} {pre post : List SK} {k : SK} {tl rest : Led} {a b c : Addr × Obj} : ∀ p ∈ a :: b :: c :: (tl ++ (ledAll w (pre ++ k :: post) ++ rest)), p ∈ k.led w ++ (a :: b :: c :: (tl ++ (ledAll w pre ++ (ledAll w post ++ rest)))) := by
  intro p hp
  simp only [ledAll_append, ledAll_cons, List.mem_append, List.mem_cons] at hp ⊢
  grind
theorem same_ad {w : World} {pre post : List SK} {k : SK} {s : AS} {t : Tok} {tl rest : Led} {c : Addr × Obj} {c' : Obj} {p : Addr × Obj} (h : p ∈ (c.1, c') :: (tl ++ (ledAll w (pre ++ k.up s t :: post) ++ rest))) : ∃ q ∈ c :: (tl ++ (ledAll w (pre ++ k :: post) ++ rest)), q.1 = p.1 := by
  rcases List.mem_cons.mp h with rfl | h
  · exact ⟨_, .head _, rfl⟩
  rcases List.mem_append.mp h with h | h
  · exact ⟨p, .tail _ (List.mem_append_left _ h), rfl⟩
  rcases List.mem_append.mp h with h | h
  · rw [ledAll_append, ledAll_cons] at h
    rcases List.mem_append.mp h with h | h
    · exact ⟨p, .tail _ (List.mem_append_right _ (List.mem_append_left _ (by rw [ledAll_append]; exact List.mem_append_left _ h))), rfl⟩
    rcases List.mem_append.mp h with h | h
    · have : ∃ q ∈ k.led w, q.1 = p.1 := by
        rcases List.mem_cons.mp h with rfl | h
        · exact ⟨_, .head _, rfl⟩
        · rw [List.mem_singleton.mp h]
          exact ⟨_, .tail _ (.head _), rfl⟩
      obtain ⟨q, hq, e⟩ := this
      exact ⟨q, .tail _ (List.mem_append_right _ (List.mem_append_left _ (by rw [ledAll_append, ledAll_cons]; exact List.mem_append_right _ (List.mem_append_left _ hq)))), e⟩
    · exact ⟨p, .tail _ (List.mem_append_right _ (List.mem_append_left _ (by rw [ledAll_append, ledAll_cons]; exact List.mem_append_right _ (List.mem_append_right _ h)))), rfl⟩
  · exact ⟨p, .tail _ (List.mem_append_right _ (List.mem_append_right _ h)), rfl⟩
theorem succ_of {n a l : Nat} (h : l < a + n) (h2 : a < l) : ∃ f, n = f + 1 := ⟨n - 1, by omega⟩
theorem step1 {l a f : Nat} (h : l < a + (f + 1)) : l < a + 1 + f := by omega
/-- the while of fits_in, and the for in it -/
inductive FitJ (w : World) (o : List UInt8) (to : Tok) (ks : List SK) (rest : Led) (fa sl : Addr) (n : Nat) (m1 : Ns) (nw : Led) : Prop
  | intro (a : Nat) (ta : Tok) (vals : List Value) (fn : Nat) (tl : Led) (ks' : List SK) (u1 u2 u3 : Option Value) (acc : List (Nat × Nat))
    (em : m1 = ov [(Str.ofString "found", some (.ref fa)), (Str.ofString "at", some (.int (a : Int) ta)), (Str.ofString "taker", u1), (Str.ofString "number", u2), (Str.ofString "seeker", u3)] (fun y => List.lookup y [(Str.ofString "seekers", .ref sl), (Str.ofString "octets", .bytes o.toArray to)]))
    (en : nw = (fa, listOf vals.toArray fn) :: (tl ++ (ledAll w ks' ++ rest))) (had : ks'.map SK.ad = ks.map SK.ad) (hp : PairsIn tl vals acc) (hf : acc ++ fitsF o n a (ks'.map SK.abs) = fitsF o (o.length + 1) 0 (ks.map SK.abs))
    (he : fitsEnd o n a (ks'.map SK.abs) = fitsEnd o (o.length + 1) 0 (ks.map SK.abs)) (hn : o.length < a + n) (hv : vals.length ≤ a) (hk : ∀ k ∈ ks', k.abs.wanted.length ≤ 1000 ∧ 1 ≤ k.abs.width)
    (ht : ∀ p ∈ tl, fa < p.1 ∧ ∀ a ∈ ks.map SK.ad, p.1 ≠ a.2) : FitJ w o to ks rest fa sl n m1 nw
inductive FitK (w : World) (o : List UInt8) (to : Tok) (ks ks' : List SK) (rest tl : Led) (fa sl : Addr) (a : Nat) (ta : Tok) (vals : List Value) (fn : Nat) (i : Nat) (m2 : Ns) (nw2 : Led) : Prop
  | intro (k2 : List SK) (tt : Tok) (v1 v2 : Option Value)
    (em : m2 = ov [(Str.ofString "found", some (.ref fa)), (Str.ofString "at", some (.int (a : Int) ta)), (Str.ofString "taker", some (lvOf (takerIn o a ((reachAll a (ks'.map SK.abs)).take i)) tt)), (Str.ofString "number", v1), (Str.ofString "seeker", v2)] (fun y => List.lookup y [(Str.ofString "seekers", .ref sl), (Str.ofString "octets", .bytes o.toArray to)]))
    (en : nw2 = (fa, listOf vals.toArray fn) :: (tl ++ (ledAll w k2 ++ rest))) (had : k2.map SK.ad = ks.map SK.ad) (hab : k2.map SK.abs = (reachAll a (ks'.map SK.abs)).take i ++ (ks'.map SK.abs).drop i) : FitK w o to ks ks' rest tl fa sl a ta vals fn i m2 nw2
set_option maxRecDepth 100000 in
set_option maxHeartbeats 8000000 in
theorem fits_in_spec (w : World) (o : List UInt8) (ks : List SK) (to : Tok) (sl : Addr) (sn : Nat) (rest : Led) (ho : o.length ≤ 1000) (hkl : ks.length ≤ 1000) (hw : ∀ k ∈ ks, k.abs.wanted.length ≤ 1000) (hw1 : ∀ k ∈ ks, 1 ≤ k.abs.width) (hl : (sl, listOf (ks.map fun k => Value.ref k.x).toArray sn) ∈ rest) (S : Sep (ks.map SK.ad) rest) :
    Spec w 3 153 [.bytes o.toArray to, .ref sl] (ledAll w ks ++ rest) (fun v news' => ∃ fa fn vals tl ks', v = .ref fa ∧ (fa, listOf vals.toArray fn) ∈ news' ∧ (∀ p ∈ tl ++ (ledAll w ks' ++ rest), p ∈ news') ∧ PairsIn tl vals (fitsF o (o.length + 1) 0 (ks.map SK.abs)) ∧ (∀ p ∈ ledAll w ks ++ rest, p.1 < fa) ∧ (∀ p ∈ tl, fa < p.1) ∧ ks'.map SK.ad = ks.map SK.ad ∧ ks'.map SK.abs = fitsEnd o (o.length + 1) 0 (ks.map SK.abs)) := by
  unfold Spec
  intro dp un gd env outer A₀ mean mg mb base h₀ L m s Q E B F X N T hf hk hdp hun hret
  ((have fill : (∀ w : World, (Mine.hdHeap w.params) = (Mine.hdHeap w.params)) ∧ PySem.Challenge.rw_og0077_01.Holds → True := by ((first | k_fill | skip); exact fun _ => trivial)); clear fill)
  have hE : Enter [(Str.ofString "octets", .bytes o.toArray to), (Str.ofString "seekers", .ref sl)] (fun y => List.lookup y [(Str.ofString "seekers", .ref sl), (Str.ofString "octets", .bytes o.toArray to)]) := ⟨⟩
  (k_dflt (refine' enter_plainN (by assumption) ?k1 ?k2 ?k3 ?k4 ?k5 ?kF ?kK ?k6 ?k7 ?k8 ?k9 ?kB ?km ?_ ?c2 ?c3 ?c4 ?c5; (case kF => assumption); (case kK => assumption); (case k1 => k_asm); (case k2 => k_asm); (case k3 => k_asm); (case k4 => k_asm); (case k5 => k_asm); (case k6 => k_is); (case k7 => k_is); (case k8 => ktr_room); (case k9 => exact BindsTo.of_eq rfl); (case km => exact rfl); (case c5 => decide); (case kB => exact locs rfl); (case c2 => exact rfl); (case c3 => exact rfl); (case c4 => exact rfl); k_whole; intro _ _ _ _ _ _ _ _ _ _; (try dsimp only); (try k_fold)))
  (repeat' (first | (k_unfold; (try dsimp only)) | (k_end; wrow_close) | ((with_reducible show wpAny _ _ (call _ _) _ _ _); k_here; (try dsimp only); (with_reducible show wpAny _ _ (call (Value.ref 111) _) _ _ _); k_dflt (refine' Spec.callB (width_at _ _ _ _ ?e0 ?e1) ?k1 ?k2 ?k3 ?k4 ?k5 ?k6 ?k7 ?k8 ?k9 ?ka ?kb ?kc ?_; (case k1 => k_asm); (case k2 => k_asm); (case k3 => k_asm); (case k4 => k_asm); (case k5 => k_asm); (case k6 => first | assumption | exact rfl); (case k7 => first | assumption | exact rfl); (case k8 => k_asm); (case k9 => k_asm); (case ka => rfl); (case kb => rfl); (case kc => exact Nat.le_of_ble_eq_true rfl); (case e0 => assumption); (case e1 => assumption); k_whole; intro v9 nw9 h9 tk9 hr9 F9 N9; (obtain ⟨e9, t8, e8⟩ := hr9; subst e8; replace N9 := cb_drop N9 e9; clear e9); revert nw9 h9 tk9 F9 N9 t8; intros; (try dsimp only); (try k_fold))) | ((with_reducible show wpAny _ _ (call _ _) _ _ _); k_here; (try dsimp only); (with_reducible show wpAny _ _ (call (Value.ref 132) _) _ _ _); k_dflt (refine' Spec.callB (took_spec _ _ _ _ _ ?e0 ?e1 ?e2) ?k1 ?k2 ?k3 ?k4 ?k5 ?k6 ?k7 ?k8 ?k9 ?ka ?kb ?kc ?_; (case k1 => k_asm); (case k2 => k_asm); (case k3 => k_asm); (case k4 => k_asm); (case k5 => k_asm); (case k6 => first | assumption | exact rfl); (case k7 => first | assumption | exact rfl); (case k8 => k_asm); (case k9 => k_asm); (case ka => rfl); (case kb => rfl); (case kc => exact Nat.le_of_ble_eq_true rfl); (case e0 => assumption); (case e1 => assumption); (case e2 => assumption); k_whole; intro v9 nw9 h9 tk9 hr9 F9 N9; (refine Exists.elim hr9.2 ?_; intro t9 e9; obtain ⟨e8, _⟩ := hr9; subst e8; replace N9 := cb_drop N9 e9; clear e9); revert nw9 h9 tk9 F9 N9 t9; intros; (try dsimp only); (try k_fold))) | (k_here; (with_reducible show wpAny _ _ (subscriptTail _ _ (Value.ref _) (Value.int (Nat.cast _) _)) _ _ _); (refine item_at (s := ⟨_, _, _, _, _⟩) (by k_asm) (by assumption) (by omega) (by assumption) ?_)) | ((with_reducible show wpAny _ _ (call _ _) _ _ _); k_here; (try dsimp only); (with_reducible show wpAny _ _ (call (Value.ref 125) _) _ _ _); k_dflt (refine' Spec.callB (is_fit_at _ _ _ _ _ _ _ _ ?e0 ?e1 ?e2) ?k1 ?k2 ?k3 ?k4 ?k5 ?k6 ?k7 ?k8 ?k9 ?ka ?kb ?kc ?_; (case k1 => k_asm); (case k2 => k_asm); (case k3 => k_asm); (case k4 => k_asm); (case k5 => k_asm); (case k6 => first | assumption | exact rfl); (case k7 => first | assumption | exact rfl); (case k8 => k_asm); (case k9 => k_asm); (case ka => rfl); (case kb => rfl); (case kc => exact Nat.le_of_ble_eq_true rfl); (case e0 => assumption); (case e1 => exact rfl); (case e2 => assumption); k_whole; intro v9 nw9 h9 tk9 hr9 F9 N9; (obtain ⟨e9, e8⟩ := hr9; subst e8; replace N9 := cb_drop N9 e9; clear e9); revert nw9 h9 tk9 F9 N9; intros; (try dsimp only); (try k_fold))) | ((with_reducible show wpAny _ _ (call _ _) _ _ _); k_here; (try dsimp only); (with_reducible show wpAny _ _ (call (Value.ref 118) _) _ _ _); k_dflt (refine' Spec.callB (reach_spec _ _ _ _ _ ?e0 ?e1) ?k1 ?k2 ?k3 ?k4 ?k5 ?k6 ?k7 ?k8 ?k9 ?ka ?kb ?kc ?_; (case k1 => k_asm); (case k2 => k_asm); (case k3 => k_asm); (case k4 => k_asm); (case k5 => k_asm); (case k6 => first | assumption | exact rfl); (case k7 => first | assumption | exact rfl); (case k8 => k_asm); (case k9 => k_asm); (case ka => rfl); (case kb => rfl); (case kc => exact Nat.le_of_ble_eq_true rfl); (case e0 => assumption); (case e1 => assumption); k_whole; intro v9 nw9 h9 tk9 hr9 F9 N9; (refine Exists.elim hr9.2 ?_; intro t9 e9; obtain ⟨e8, _⟩ := hr9; subst e8; replace N9 := cb_drop N9 e9; clear e9); revert nw9 h9 tk9 F9 N9 t9; intros; (try dsimp only); (try k_fold))) | ((with_reducible show wpAny _ _ (exec (Stmt.While _ _ _ _) _) _ _ _); k_here; k_dflt (refine' while_at ?k1 ?_; (case k1 => k_asm))) | (k_here; (with_reducible show wpAny _ _ (call (Value.type "enumerate") [Value.ref _]) _ _ _); refine enum_call ?_) | ((with_reducible show wpAny _ _ (exec (Stmt.For (Expr.Tuple _ _ _) (Expr.Call _ _ _ _) _ _ _) _) _ _ _); k_here; k_dflt (refine' for_turns ?k1 ?_; (case k1 => k_asm))) | walk1 | (dsimp only; walk1) | (leave1; try dsimp only) | fail "no step"))
  rename Fr _ _ _ _ => F1
  rename News _ _ _ _ => N1
  rename_i tk0 fa hx1 hfa l2 hx2 lt2 hx3 hx4 hx5
  have e0 : (fun y => List.lookup y [(Str.ofString "seekers", .ref sl), (Str.ofString "octets", .bytes o.toArray to)]) = ov [(Str.ofString "found", none), (Str.ofString "at", none), (Str.ofString "taker", none), (Str.ofString "number", none), (Str.ofString "seeker", none)] (fun y => List.lookup y [(Str.ofString "seekers", .ref sl), (Str.ofString "octets", .bytes o.toArray to)]) := ov_start (ov_start (ov_start (ov_start (ov_start ov_nil))))
  refine ⟨FitJ w o to ks rest fa sl, o.length + 1, _, (fa, listOf #[] 0) :: ([] ++ (ledAll w ks ++ rest)), F1, fun p hp => N1 p (.tail _ hp), ?_, ?_⟩
  · exact ⟨0, tk0, [], 0, [], ks, none, none, none, [], ov_if (ov_if e0), rfl, rfl, trivial, rfl, rfl, by omega, Nat.le_refl _, fun k hk => ⟨hw k hk, hw1 k hk⟩, fun p hp => nomatch hp⟩
  · intro n m1 nw h1 tk1 F2 N2 hJ
    refine opq_while fun P1 P0 hP1 hP0 => ?_
    obtain ⟨a, ta, vals, fn, tl, ks', u1, u2, u3, acc, eJ, eK, hads, hacc, hf, he, hn, hvl, hks, htl⟩ := hJ
    subst m1
    subst nw
    (repeat' (first | (k_unfold; (try dsimp only)) | (k_end; wrow_close) | ((with_reducible show wpAny _ _ (call _ _) _ _ _); k_here; (try dsimp only); (with_reducible show wpAny _ _ (call (Value.ref 111) _) _ _ _); k_dflt (refine' Spec.callB (width_at _ _ _ _ ?e0 ?e1) ?k1 ?k2 ?k3 ?k4 ?k5 ?k6 ?k7 ?k8 ?k9 ?ka ?kb ?kc ?_; (case k1 => k_asm); (case k2 => k_asm); (case k3 => k_asm); (case k4 => k_asm); (case k5 => k_asm); (case k6 => first | assumption | exact rfl); (case k7 => first | assumption | exact rfl); (case k8 => k_asm); (case k9 => k_asm); (case ka => rfl); (case kb => rfl); (case kc => exact Nat.le_of_ble_eq_true rfl); (case e0 => assumption); (case e1 => assumption); k_whole; intro v9 nw9 h9 tk9 hr9 F9 N9; (obtain ⟨e9, t8, e8⟩ := hr9; subst e8; replace N9 := cb_drop N9 e9; clear e9); revert nw9 h9 tk9 F9 N9 t8; intros; (try dsimp only); (try k_fold))) | ((with_reducible show wpAny _ _ (call _ _) _ _ _); k_here; (try dsimp only); (with_reducible show wpAny _ _ (call (Value.ref 132) _) _ _ _); k_dflt (refine' Spec.callB (took_spec _ _ _ _ _ ?e0 ?e1 ?e2) ?k1 ?k2 ?k3 ?k4 ?k5 ?k6 ?k7 ?k8 ?k9 ?ka ?kb ?kc ?_; (case k1 => k_asm); (case k2 => k_asm); (case k3 => k_asm); (case k4 => k_asm); (case k5 => k_asm); (case k6 => first | assumption | exact rfl); (case k7 => first | assumption | exact rfl); (case k8 => k_asm); (case k9 => k_asm); (case ka => rfl); (case kb => rfl); (case kc => exact Nat.le_of_ble_eq_true rfl); (case e0 => assumption); (case e1 => assumption); (case e2 => assumption); k_whole; intro v9 nw9 h9 tk9 hr9 F9 N9; (refine Exists.elim hr9.2 ?_; intro t9 e9; obtain ⟨e8, _⟩ := hr9; subst e8; replace N9 := cb_drop N9 e9; clear e9); revert nw9 h9 tk9 F9 N9 t9; intros; (try dsimp only); (try k_fold))) | (k_here; (with_reducible show wpAny _ _ (subscriptTail _ _ (Value.ref _) (Value.int (Nat.cast _) _)) _ _ _); (refine item_at (s := ⟨_, _, _, _, _⟩) (by k_asm) (by assumption) (by omega) (by assumption) ?_)) | ((with_reducible show wpAny _ _ (call _ _) _ _ _); k_here; (try dsimp only); (with_reducible show wpAny _ _ (call (Value.ref 125) _) _ _ _); k_dflt (refine' Spec.callB (is_fit_at _ _ _ _ _ _ _ _ ?e0 ?e1 ?e2) ?k1 ?k2 ?k3 ?k4 ?k5 ?k6 ?k7 ?k8 ?k9 ?ka ?kb ?kc ?_; (case k1 => k_asm); (case k2 => k_asm); (case k3 => k_asm); (case k4 => k_asm); (case k5 => k_asm); (case k6 => first | assumption | exact rfl); (case k7 => first | assumption | exact rfl); (case k8 => k_asm); (case k9 => k_asm); (case ka => rfl); (case kb => rfl); (case kc => exact Nat.le_of_ble_eq_true rfl); (case e0 => assumption); (case e1 => exact rfl); (case e2 => assumption); k_whole; intro v9 nw9 h9 tk9 hr9 F9 N9; (obtain ⟨e9, e8⟩ := hr9; subst e8; replace N9 := cb_drop N9 e9; clear e9); revert nw9 h9 tk9 F9 N9; intros; (try dsimp only); (try k_fold))) | ((with_reducible show wpAny _ _ (call _ _) _ _ _); k_here; (try dsimp only); (with_reducible show wpAny _ _ (call (Value.ref 118) _) _ _ _); k_dflt (refine' Spec.callB (reach_spec _ _ _ _ _ ?e0 ?e1) ?k1 ?k2 ?k3 ?k4 ?k5 ?k6 ?k7 ?k8 ?k9 ?ka ?kb ?kc ?_; (case k1 => k_asm); (case k2 => k_asm); (case k3 => k_asm); (case k4 => k_asm); (case k5 => k_asm); (case k6 => first | assumption | exact rfl); (case k7 => first | assumption | exact rfl); (case k8 => k_asm); (case k9 => k_asm); (case ka => rfl); (case kb => rfl); (case kc => exact Nat.le_of_ble_eq_true rfl); (case e0 => assumption); (case e1 => assumption); k_whole; intro v9 nw9 h9 tk9 hr9 F9 N9; (refine Exists.elim hr9.2 ?_; intro t9 e9; obtain ⟨e8, _⟩ := hr9; subst e8; replace N9 := cb_drop N9 e9; clear e9); revert nw9 h9 tk9 F9 N9 t9; intros; (try dsimp only); (try k_fold))) | ((with_reducible show wpAny _ _ (exec (Stmt.While _ _ _ _) _) _ _ _); k_here; k_dflt (refine' while_at ?k1 ?_; (case k1 => k_asm))) | (k_here; (with_reducible show wpAny _ _ (call (Value.type "enumerate") [Value.ref _]) _ _ _); refine enum_call ?_) | ((with_reducible show wpAny _ _ (exec (Stmt.For (Expr.Tuple _ _ _) (Expr.Call _ _ _ _) _ _ _) _) _ _ _); k_here; k_dflt (refine' for_turns ?k1 ?_; (case k1 => k_asm))) | walk1 | (dsimp only; walk1) | (leave1; try dsimp only) | fail "no step"))
    · rename Fr _ _ _ _ => F3
      rename News _ _ _ _ => N3
      have hlt : a < o.length := by omega
      refine ⟨ks.map (fun k => Value.ref k.x), sn, _, _, FitK w o to ks ks' rest tl fa sl a ta vals fn, F3, N3, ?_, ⟨ks', 0, u2, u3, ov_if rfl, rfl, hads, rfl⟩, rfl, ?_, ?_⟩
      · rintro i m2 nw2 ⟨k2, tt, v1, v2, _, rfl, _⟩
        exact .tail _ (List.mem_append_right _ (List.mem_append_right _ hl))
      · intro i v I oE oI T9 t m2 nw2 h tk2 hv hJ2 hI hoff hT F4 N4
        refine opq_turn fun P2 hP2 => ?_
        obtain ⟨k2, tt, v1, v2, eJ, eK, had2, hab2⟩ := hJ2
        subst m2
        subst nw2
        have hi : i < ks.length := by
          obtain ⟨h1, _⟩ := List.getElem?_eq_some_iff.mp hv
          simpa using h1
        have hl2 : k2.length = ks.length := by simpa using congrArg List.length had2
        have hl' : ks'.length = ks.length := by simpa using congrArg List.length hads
        obtain ⟨pre, k, post, rfl, hpre⟩ := split_at k2 i (by rw [hl2]; exact hi)
        have hvk : v = .ref k.x := by
          rw [← get_ad had2, List.map_append, List.getElem?_append_right (by simp [hpre])] at hv
          simpa [hpre] using hv.symm
        subst hvk
        have S2 : Sep ((pre ++ k :: post).map SK.ad) rest := had2 ▸ S
        obtain ⟨hkx, hko⟩ := S2.mid (w := w)
        have hka : k.ad ∈ ks.map SK.ad := by rw [← had2]; exact List.mem_map_of_mem (List.mem_append_right _ (.head _))
        have hkI : k.d < I := by
          obtain ⟨_, o1, h1⟩ := ad_in (w := w) (ks := ks') (a := k.ad) (by rw [hads]; exact hka)
          exact hI _ (.tail _ (List.mem_append_right _ (List.mem_append_left _ h1)))
        have hkf : k.d < fa := by
          obtain ⟨_, o1, h1⟩ := ad_in (w := w) hka
          exact hfa _ (List.mem_append_left _ h1)
        have hR : ∀ p ∈ (I + 1, oE) :: (I, oI) :: (fa, listOf vals.toArray fn) :: (tl ++ (ledAll w pre ++ (ledAll w post ++ rest))), p.1 ≠ k.d := by
          intro p hp
          rcases List.mem_cons.mp hp with rfl | hp
          · exact Nat.ne_of_gt (Nat.lt_succ_of_lt hkI)
          rcases List.mem_cons.mp hp with rfl | hp
          · exact Nat.ne_of_gt hkI
          rcases List.mem_cons.mp hp with rfl | hp
          · exact Nat.ne_of_gt hkf
          rcases List.mem_append.mp hp with hp | hp
          · exact (htl p hp).2 _ hka
          · exact hko p hp
        have N5 := cb_drop N4 (pull_out (w := w) (pre := pre) (post := post) (k := k))
        clear N4
        have hab3 := hab2
        rw [List.map_append, List.map_cons] at hab3
        obtain ⟨hst1, hst2⟩ := step_abs hab3 (by simpa using hpre) (by simpa using (show i < ks'.length by rw [hl']; exact hi))
        have hkw : k.abs.wanted.length ≤ 1000 := by
          have : k.abs ∈ (reachAll a (ks'.map SK.abs)).take i ++ (ks'.map SK.abs).drop i := by rw [← hab3]; exact List.mem_append_right _ (.head _)
          rcases List.mem_append.mp this with h1 | h1
          · obtain ⟨s1, h2, h3⟩ := List.mem_map.mp (List.mem_of_mem_take h1)
            obtain ⟨k1, h4, h5⟩ := List.mem_map.mp h2
            rw [← h3, (reach_wanted s1 a).1, ← h5]
            exact (hks k1 h4).1
          · obtain ⟨k1, h4, h5⟩ := List.mem_map.mp (List.mem_of_mem_drop h1)
            rw [← h5]
            exact (hks k1 h4).1
        have hkr : (k.abs.reach a).wanted.length ≤ 1000 := by rw [(reach_wanted _ _).1]; exact hkw
        have hoff2 : ∀ t9, ∀ p ∈ (fa, listOf vals.toArray fn) :: (tl ++ (ledAll w (pre ++ k.up (k.abs.reach a) t9 :: post) ++ rest)), ∀ q ∈ [(I + 1, oE), (I, oI)], p.1 ≠ q.1 := by
          intro t9 p hp q hq
          obtain ⟨p', hp', e⟩ := same_ad (c := (fa, listOf vals.toArray fn)) hp
          have := hoff p' hp'
          rw [e] at this
          rcases List.mem_cons.mp hq with rfl | hq
          · exact this.1
          · rw [List.mem_singleton.mp hq]; exact this.2
        have hup : ∀ t9, (pre ++ k.up (k.abs.reach a) t9 :: post).map SK.ad = ks.map SK.ad ∧ (pre ++ k.up (k.abs.reach a) t9 :: post).map SK.abs = (reachAll a (ks'.map SK.abs)).take (i + 1) ++ (ks'.map SK.abs).drop (i + 1) := by
          intro t9
          refine ⟨?_, ?_⟩
          · rw [← had2, List.map_append, List.map_append]; rfl
          · rw [← hst1, List.map_append]; rfl
        have hil : ((reachAll a (ks'.map SK.abs)).take i).length = i := by
          rw [List.length_take]; unfold reachAll; rw [List.length_map, List.length_map]; first | exact Nat.min_eq_left (Nat.le_of_lt (by rw [hl']; exact hi)) | omega
        cases htv : takerIn o a ((reachAll a (ks'.map SK.abs)).take i) <;> simp only [htv, lvOf] at F4
        all_goals (repeat' (first | (k_unfold; (try dsimp only)) | (k_end; wrow_close) | ((with_reducible show wpAny _ _ (call _ _) _ _ _); k_here; (try dsimp only); (with_reducible show wpAny _ _ (call (Value.ref 111) _) _ _ _); k_dflt (refine' Spec.callB (width_at _ _ _ _ ?e0 ?e1) ?k1 ?k2 ?k3 ?k4 ?k5 ?k6 ?k7 ?k8 ?k9 ?ka ?kb ?kc ?_; (case k1 => k_asm); (case k2 => k_asm); (case k3 => k_asm); (case k4 => k_asm); (case k5 => k_asm); (case k6 => first | assumption | exact rfl); (case k7 => first | assumption | exact rfl); (case k8 => k_asm); (case k9 => k_asm); (case ka => rfl); (case kb => rfl); (case kc => exact Nat.le_of_ble_eq_true rfl); (case e0 => assumption); (case e1 => assumption); k_whole; intro v9 nw9 h9 tk9 hr9 F9 N9; (obtain ⟨e9, t8, e8⟩ := hr9; subst e8; replace N9 := cb_drop N9 e9; clear e9); revert nw9 h9 tk9 F9 N9 t8; intros; (try dsimp only); (try k_fold))) | ((with_reducible show wpAny _ _ (call _ _) _ _ _); k_here; (try dsimp only); (with_reducible show wpAny _ _ (call (Value.ref 132) _) _ _ _); k_dflt (refine' Spec.callB (took_spec _ _ _ _ _ ?e0 ?e1 ?e2) ?k1 ?k2 ?k3 ?k4 ?k5 ?k6 ?k7 ?k8 ?k9 ?ka ?kb ?kc ?_; (case k1 => k_asm); (case k2 => k_asm); (case k3 => k_asm); (case k4 => k_asm); (case k5 => k_asm); (case k6 => first | assumption | exact rfl); (case k7 => first | assumption | exact rfl); (case k8 => k_asm); (case k9 => k_asm); (case ka => rfl); (case kb => rfl); (case kc => exact Nat.le_of_ble_eq_true rfl); (case e0 => assumption); (case e1 => assumption); (case e2 => assumption); k_whole; intro v9 nw9 h9 tk9 hr9 F9 N9; (refine Exists.elim hr9.2 ?_; intro t9 e9; obtain ⟨e8, _⟩ := hr9; subst e8; replace N9 := cb_drop N9 e9; clear e9); revert nw9 h9 tk9 F9 N9 t9; intros; (try dsimp only); (try k_fold))) | (k_here; (with_reducible show wpAny _ _ (subscriptTail _ _ (Value.ref _) (Value.int (Nat.cast _) _)) _ _ _); (refine item_at (s := ⟨_, _, _, _, _⟩) (by k_asm) (by assumption) (by omega) (by assumption) ?_)) | ((with_reducible show wpAny _ _ (call _ _) _ _ _); k_here; (try dsimp only); (with_reducible show wpAny _ _ (call (Value.ref 125) _) _ _ _); k_dflt (refine' Spec.callB (is_fit_at _ _ _ _ _ _ _ _ ?e0 ?e1 ?e2) ?k1 ?k2 ?k3 ?k4 ?k5 ?k6 ?k7 ?k8 ?k9 ?ka ?kb ?kc ?_; (case k1 => k_asm); (case k2 => k_asm); (case k3 => k_asm); (case k4 => k_asm); (case k5 => k_asm); (case k6 => first | assumption | exact rfl); (case k7 => first | assumption | exact rfl); (case k8 => k_asm); (case k9 => k_asm); (case ka => rfl); (case kb => rfl); (case kc => exact Nat.le_of_ble_eq_true rfl); (case e0 => assumption); (case e1 => exact rfl); (case e2 => assumption); k_whole; intro v9 nw9 h9 tk9 hr9 F9 N9; (obtain ⟨e9, e8⟩ := hr9; subst e8; replace N9 := cb_drop N9 e9; clear e9); revert nw9 h9 tk9 F9 N9; intros; (try dsimp only); (try k_fold))) | ((with_reducible show wpAny _ _ (call _ _) _ _ _); k_here; (try dsimp only); (with_reducible show wpAny _ _ (call (Value.ref 118) _) _ _ _); k_dflt (refine' Spec.callB (reach_spec _ _ _ _ _ ?e0 ?e1) ?k1 ?k2 ?k3 ?k4 ?k5 ?k6 ?k7 ?k8 ?k9 ?ka ?kb ?kc ?_; (case k1 => k_asm); (case k2 => k_asm); (case k3 => k_asm); (case k4 => k_asm); (case k5 => k_asm); (case k6 => first | assumption | exact rfl); (case k7 => first | assumption | exact rfl); (case k8 => k_asm); (case k9 => k_asm); (case ka => rfl); (case kb => rfl); (case kc => exact Nat.le_of_ble_eq_true rfl); (case e0 => assumption); (case e1 => assumption); k_whole; intro v9 nw9 h9 tk9 hr9 F9 N9; (refine Exists.elim hr9.2 ?_; intro t9 e9; obtain ⟨e8, _⟩ := hr9; subst e8; replace N9 := cb_drop N9 e9; clear e9); revert nw9 h9 tk9 F9 N9 t9; intros; (try dsimp only); (try k_fold))) | ((with_reducible show wpAny _ _ (exec (Stmt.While _ _ _ _) _) _ _ _); k_here; k_dflt (refine' while_at ?k1 ?_; (case k1 => k_asm))) | (k_here; (with_reducible show wpAny _ _ (call (Value.type "enumerate") [Value.ref _]) _ _ _); refine enum_call ?_) | ((with_reducible show wpAny _ _ (exec (Stmt.For (Expr.Tuple _ _ _) (Expr.Call _ _ _ _) _ _ _) _) _ _ _); k_here; k_dflt (refine' for_turns ?k1 ?_; (case k1 => k_asm))) | walk1 | (dsimp only; walk1) | (leave1; try dsimp only) | fail "no step"))
        · have hfit : fitS o (k.abs.reach a) a = true := by assumption
          refine hP2 _ _ ?_
          refine EEnd.next _ (by assumption) (by assumption) push_in (hoff2 _) ⟨_, t, some (.int (i : Int) t), some (.ref k.x), ?_, rfl, (hup _).1, (hup _).2⟩
          rw [hst2, takerIn_snoc, htv]
          simp only [hfit, if_true, hil, lvOf, ov_pt]
          rfl
        · have hfit : ¬ fitS o (k.abs.reach a) a = true := by first | assumption | exact Bool.eq_false_iff.mp (by assumption)
          refine hP2 _ _ ?_
          refine EEnd.next _ (by assumption) (by assumption) push_in (hoff2 _) ⟨_, t, some (.int (i : Int) t), some (.ref k.x), ?_, rfl, (hup _).1, (hup _).2⟩
          rw [hst2, takerIn_snoc, htv]
          simp only [hfit, if_false, lvOf, ov_pt]
          rfl
        · refine hP2 _ _ ?_
          refine EEnd.next _ (by assumption) (by assumption) push_in (hoff2 _) ⟨_, tt, some (.int (i : Int) t), some (.ref k.x), ?_, rfl, (hup _).1, (hup _).2⟩
          rw [hst2, takerIn_snoc, htv]
          simp only [lvOf, ov_pt]
          rfl
      · rintro m2 nw2 h tk2 hJ2 F4 N4
        obtain ⟨k2, tt, v1, v2, eJ, eK, had2, hab2⟩ := hJ2
        subst m2
        subst nw2
        have hab : k2.map SK.abs = reachAll a (ks'.map SK.abs) := by
          have hl' : ks'.length = ks.length := by simpa using congrArg List.length hads
          rw [hab2, List.length_map, List.take_of_length_le (by unfold reachAll; rw [List.length_map, List.length_map]; first | exact Nat.le_of_eq hl' | omega), List.drop_of_length_le (by rw [List.length_map]; first | exact Nat.le_of_eq hl' | omega), List.append_nil]
        rw [List.length_map, List.take_of_length_le (by unfold reachAll; rw [List.length_map, List.length_map]; have hl' : ks'.length = ks.length := by simpa using congrArg List.length hads
                                                        first | exact Nat.le_of_eq hl' | omega)] at F4
        obtain ⟨f, rfl⟩ := succ_of hn hlt
        rw [fitsF, if_pos hlt] at hf
        rw [fitsEnd, if_pos hlt] at he
        rw [← hab] at hf he F4
        dsimp only
        have hk2 : ∀ k ∈ k2, k.abs.wanted.length ≤ 1000 ∧ 1 ≤ k.abs.width := by
          intro k hk
          have h0 : k.abs ∈ reachAll a (ks'.map SK.abs) := hab ▸ List.mem_map_of_mem hk
          obtain ⟨s1, h2, h3⟩ := List.mem_map.mp h0
          obtain ⟨k1, h4, h5⟩ := List.mem_map.mp h2
          rw [← h3, (reach_wanted s1 a).1, (reach_wanted s1 a).2.2, ← h5]
          exact hks k1 h4
        cases htv : takerIn o a (k2.map SK.abs) with
        | none =>
          simp only [htv, lvOf] at F4 hf he
          (repeat' (first | (k_unfold; (try dsimp only)) | (k_end; wrow_close) | ((with_reducible show wpAny _ _ (call _ _) _ _ _); k_here; (try dsimp only); (with_reducible show wpAny _ _ (call (Value.ref 111) _) _ _ _); k_dflt (refine' Spec.callB (width_at _ _ _ _ ?e0 ?e1) ?k1 ?k2 ?k3 ?k4 ?k5 ?k6 ?k7 ?k8 ?k9 ?ka ?kb ?kc ?_; (case k1 => k_asm); (case k2 => k_asm); (case k3 => k_asm); (case k4 => k_asm); (case k5 => k_asm); (case k6 => first | assumption | exact rfl); (case k7 => first | assumption | exact rfl); (case k8 => k_asm); (case k9 => k_asm); (case ka => rfl); (case kb => rfl); (case kc => exact Nat.le_of_ble_eq_true rfl); (case e0 => assumption); (case e1 => assumption); k_whole; intro v9 nw9 h9 tk9 hr9 F9 N9; (obtain ⟨e9, t8, e8⟩ := hr9; subst e8; replace N9 := cb_drop N9 e9; clear e9); revert nw9 h9 tk9 F9 N9 t8; intros; (try dsimp only); (try k_fold))) | ((with_reducible show wpAny _ _ (call _ _) _ _ _); k_here; (try dsimp only); (with_reducible show wpAny _ _ (call (Value.ref 132) _) _ _ _); k_dflt (refine' Spec.callB (took_spec _ _ _ _ _ ?e0 ?e1 ?e2) ?k1 ?k2 ?k3 ?k4 ?k5 ?k6 ?k7 ?k8 ?k9 ?ka ?kb ?kc ?_; (case k1 => k_asm); (case k2 => k_asm); (case k3 => k_asm); (case k4 => k_asm); (case k5 => k_asm); (case k6 => first | assumption | exact rfl); (case k7 => first | assumption | exact rfl); (case k8 => k_asm); (case k9 => k_asm); (case ka => rfl); (case kb => rfl); (case kc => exact Nat.le_of_ble_eq_true rfl); (case e0 => assumption); (case e1 => assumption); (case e2 => assumption); k_whole; intro v9 nw9 h9 tk9 hr9 F9 N9; (refine Exists.elim hr9.2 ?_; intro t9 e9; obtain ⟨e8, _⟩ := hr9; subst e8; replace N9 := cb_drop N9 e9; clear e9); revert nw9 h9 tk9 F9 N9 t9; intros; (try dsimp only); (try k_fold))) | (k_here; (with_reducible show wpAny _ _ (subscriptTail _ _ (Value.ref _) (Value.int (Nat.cast _) _)) _ _ _); (refine item_at (s := ⟨_, _, _, _, _⟩) (by k_asm) (by assumption) (by omega) (by assumption) ?_)) | ((with_reducible show wpAny _ _ (call _ _) _ _ _); k_here; (try dsimp only); (with_reducible show wpAny _ _ (call (Value.ref 125) _) _ _ _); k_dflt (refine' Spec.callB (is_fit_at _ _ _ _ _ _ _ _ ?e0 ?e1 ?e2) ?k1 ?k2 ?k3 ?k4 ?k5 ?k6 ?k7 ?k8 ?k9 ?ka ?kb ?kc ?_; (case k1 => k_asm); (case k2 => k_asm); (case k3 => k_asm); (case k4 => k_asm); (case k5 => k_asm); (case k6 => first | assumption | exact rfl); (case k7 => first | assumption | exact rfl); (case k8 => k_asm); (case k9 => k_asm); (case ka => rfl); (case kb => rfl); (case kc => exact Nat.le_of_ble_eq_true rfl); (case e0 => assumption); (case e1 => exact rfl); (case e2 => assumption); k_whole; intro v9 nw9 h9 tk9 hr9 F9 N9; (obtain ⟨e9, e8⟩ := hr9; subst e8; replace N9 := cb_drop N9 e9; clear e9); revert nw9 h9 tk9 F9 N9; intros; (try dsimp only); (try k_fold))) | ((with_reducible show wpAny _ _ (call _ _) _ _ _); k_here; (try dsimp only); (with_reducible show wpAny _ _ (call (Value.ref 118) _) _ _ _); k_dflt (refine' Spec.callB (reach_spec _ _ _ _ _ ?e0 ?e1) ?k1 ?k2 ?k3 ?k4 ?k5 ?k6 ?k7 ?k8 ?k9 ?ka ?kb ?kc ?_; (case k1 => k_asm); (case k2 => k_asm); (case k3 => k_asm); (case k4 => k_asm); (case k5 => k_asm); (case k6 => first | assumption | exact rfl); (case k7 => first | assumption | exact rfl); (case k8 => k_asm); (case k9 => k_asm); (case ka => rfl); (case kb => rfl); (case kc => exact Nat.le_of_ble_eq_true rfl); (case e0 => assumption); (case e1 => assumption); k_whole; intro v9 nw9 h9 tk9 hr9 F9 N9; (refine Exists.elim hr9.2 ?_; intro t9 e9; obtain ⟨e8, _⟩ := hr9; subst e8; replace N9 := cb_drop N9 e9; clear e9); revert nw9 h9 tk9 F9 N9 t9; intros; (try dsimp only); (try k_fold))) | ((with_reducible show wpAny _ _ (exec (Stmt.While _ _ _ _) _) _ _ _); k_here; k_dflt (refine' while_at ?k1 ?_; (case k1 => k_asm))) | (k_here; (with_reducible show wpAny _ _ (call (Value.type "enumerate") [Value.ref _]) _ _ _); refine enum_call ?_) | ((with_reducible show wpAny _ _ (exec (Stmt.For (Expr.Tuple _ _ _) (Expr.Call _ _ _ _) _ _ _) _) _ _ _); k_here; k_dflt (refine' for_turns ?k1 ?_; (case k1 => k_asm))) | walk1 | (dsimp only; walk1) | (leave1; try dsimp only) | fail "no step"))
          rename Fr _ _ _ _ => F5
          rename News _ _ _ _ => N5
          have e1 : ((a : Int) + 1) = ((a + 1 : Nat) : Int) := rfl
          simp only [ov_pt, e1] at F5
          exact hP1 _ _ <| WhileStep.intro F5 N5 (Nat.lt_succ_self f) ⟨a + 1, _, vals, fn, tl, k2, _, _, _, acc, rfl, rfl, had2, hacc, hf, he, step1 hn, Nat.le_succ_of_le hvl, hk2, htl⟩
        | some j =>
          simp only [htv, lvOf] at F4 hf he
          have hj : j < k2.length := by simpa using takerIn_lt htv
          have hj2 : j < 100000 := Nat.lt_of_lt_of_le hj (by have := congrArg List.length had2; simp only [List.length_map] at this; rw [this]; exact Nat.le_trans hkl (Nat.le_of_ble_eq_true rfl))
          have hl2 : k2.length = ks.length := by simpa using congrArg List.length had2
          obtain ⟨pre, k, post, rfl, hpre⟩ := split_at k2 j hj
          have hget : ((pre ++ k :: post).map SK.abs).getD j AS.nil = k.abs := by
            rw [List.map_append, List.getD_eq_getElem?_getD, List.getElem?_append_right (by simp [hpre])]
            simp [hpre]
          have hset : ∀ t9, ((pre ++ k :: post).map SK.abs).set j (k.abs.took a) = (pre ++ k.up (k.abs.took a) t9 :: post).map SK.abs := by
            intro t9
            rw [List.map_append, List.set_append_right _ _ (by simp [hpre])]
            simp [hpre, SK.up]
          rw [hget] at hf he
          have hx : (ks.map fun k => Value.ref k.x)[j]? = some (.ref k.x) := by
            rw [← get_ad had2, List.map_append, List.getElem?_append_right (by simp [hpre])]
            simp [hpre]
          have S2 : Sep ((pre ++ k :: post).map SK.ad) rest := had2 ▸ S
          obtain ⟨hkx, hko⟩ := S2.mid (w := w)
          have hka : k.ad ∈ ks.map SK.ad := by rw [← had2]; exact List.mem_map_of_mem (List.mem_append_right _ (.head _))
          have hfl : ∀ p ∈ ledAll w (pre ++ k :: post), p.1 < fa := by
            intro p hp
            obtain ⟨k3, hk3, e3⟩ := mem_ledAll hp
            obtain ⟨⟨o1, h1⟩, o2, h2⟩ := ad_in (w := w) (ks := ks) (a := k3.ad) (by rw [← had2]; exact List.mem_map_of_mem hk3)
            rcases e3 with e3 | e3 <;> rw [e3]
            · exact hfa _ (List.mem_append_left _ h1)
            · exact hfa _ (List.mem_append_left _ h2)
          have hkf : k.d < fa := hfl (k.d, _) (by rw [ledAll_append, ledAll_cons]; exact List.mem_append_right _ (List.mem_append_left _ (.tail _ (.head _))))
          have hR : ∀ p ∈ k.led w ++ (tl ++ (ledAll w pre ++ (ledAll w post ++ rest))), p.1 ≠ fa := by
            intro p hp
            rcases List.mem_append.mp hp with hp | hp
            · exact Nat.ne_of_lt (hfl p (by rw [ledAll_append, ledAll_cons]; exact List.mem_append_right _ (List.mem_append_left _ hp)))
            rcases List.mem_append.mp hp with hp | hp
            · exact Nat.ne_of_gt (htl p hp).1
            rcases List.mem_append.mp hp with hp | hp
            · exact Nat.ne_of_lt (hfl p (by rw [ledAll_append]; exact List.mem_append_left _ hp))
            rcases List.mem_append.mp hp with hp | hp
            · exact Nat.ne_of_lt (hfl p (by rw [ledAll_append, ledAll_cons]; exact List.mem_append_right _ (List.mem_append_right _ hp)))
            · exact Nat.ne_of_lt (hfa p (List.mem_append_right _ hp))
          have N5 := cb_drop N4 (pull_one (w := w) (pre := pre) (post := post) (k := k))
          clear N4
          have hsz : vals.toArray.size ≤ sizeLine := by simp only [List.size_toArray]; exact Nat.le_trans hvl (Nat.le_trans (Nat.le_trans (Nat.le_of_lt hlt) ho) (Nat.le_of_ble_eq_true rfl))
          obtain ⟨hkw, hk1⟩ := hk2 k (List.mem_append_right _ (.head _))
          (repeat' (first | (k_unfold; (try dsimp only)) | (k_end; wrow_close) | ((with_reducible show wpAny _ _ (call _ _) _ _ _); k_here; (try dsimp only); (with_reducible show wpAny _ _ (call (Value.ref 111) _) _ _ _); k_dflt (refine' Spec.callB (width_at _ _ _ _ ?e0 ?e1) ?k1 ?k2 ?k3 ?k4 ?k5 ?k6 ?k7 ?k8 ?k9 ?ka ?kb ?kc ?_; (case k1 => k_asm); (case k2 => k_asm); (case k3 => k_asm); (case k4 => k_asm); (case k5 => k_asm); (case k6 => first | assumption | exact rfl); (case k7 => first | assumption | exact rfl); (case k8 => k_asm); (case k9 => k_asm); (case ka => rfl); (case kb => rfl); (case kc => exact Nat.le_of_ble_eq_true rfl); (case e0 => assumption); (case e1 => assumption); k_whole; intro v9 nw9 h9 tk9 hr9 F9 N9; (obtain ⟨e9, t8, e8⟩ := hr9; subst e8; replace N9 := cb_drop N9 e9; clear e9); revert nw9 h9 tk9 F9 N9 t8; intros; (try dsimp only); (try k_fold))) | ((with_reducible show wpAny _ _ (call _ _) _ _ _); k_here; (try dsimp only); (with_reducible show wpAny _ _ (call (Value.ref 132) _) _ _ _); k_dflt (refine' Spec.callB (took_spec _ _ _ _ _ ?e0 ?e1 ?e2) ?k1 ?k2 ?k3 ?k4 ?k5 ?k6 ?k7 ?k8 ?k9 ?ka ?kb ?kc ?_; (case k1 => k_asm); (case k2 => k_asm); (case k3 => k_asm); (case k4 => k_asm); (case k5 => k_asm); (case k6 => first | assumption | exact rfl); (case k7 => first | assumption | exact rfl); (case k8 => k_asm); (case k9 => k_asm); (case ka => rfl); (case kb => rfl); (case kc => exact Nat.le_of_ble_eq_true rfl); (case e0 => assumption); (case e1 => assumption); (case e2 => assumption); k_whole; intro v9 nw9 h9 tk9 hr9 F9 N9; (refine Exists.elim hr9.2 ?_; intro t9 e9; obtain ⟨e8, _⟩ := hr9; subst e8; replace N9 := cb_drop N9 e9; clear e9); revert nw9 h9 tk9 F9 N9 t9; intros; (try dsimp only); (try k_fold))) | (k_here; (with_reducible show wpAny _ _ (subscriptTail _ _ (Value.ref _) (Value.int (Nat.cast _) _)) _ _ _); (refine item_at (s := ⟨_, _, _, _, _⟩) (by k_asm) (by assumption) (by omega) (by assumption) ?_)) | ((with_reducible show wpAny _ _ (call _ _) _ _ _); k_here; (try dsimp only); (with_reducible show wpAny _ _ (call (Value.ref 125) _) _ _ _); k_dflt (refine' Spec.callB (is_fit_at _ _ _ _ _ _ _ _ ?e0 ?e1 ?e2) ?k1 ?k2 ?k3 ?k4 ?k5 ?k6 ?k7 ?k8 ?k9 ?ka ?kb ?kc ?_; (case k1 => k_asm); (case k2 => k_asm); (case k3 => k_asm); (case k4 => k_asm); (case k5 => k_asm); (case k6 => first | assumption | exact rfl); (case k7 => first | assumption | exact rfl); (case k8 => k_asm); (case k9 => k_asm); (case ka => rfl); (case kb => rfl); (case kc => exact Nat.le_of_ble_eq_true rfl); (case e0 => assumption); (case e1 => exact rfl); (case e2 => assumption); k_whole; intro v9 nw9 h9 tk9 hr9 F9 N9; (obtain ⟨e9, e8⟩ := hr9; subst e8; replace N9 := cb_drop N9 e9; clear e9); revert nw9 h9 tk9 F9 N9; intros; (try dsimp only); (try k_fold))) | ((with_reducible show wpAny _ _ (call _ _) _ _ _); k_here; (try dsimp only); (with_reducible show wpAny _ _ (call (Value.ref 118) _) _ _ _); k_dflt (refine' Spec.callB (reach_spec _ _ _ _ _ ?e0 ?e1) ?k1 ?k2 ?k3 ?k4 ?k5 ?k6 ?k7 ?k8 ?k9 ?ka ?kb ?kc ?_; (case k1 => k_asm); (case k2 => k_asm); (case k3 => k_asm); (case k4 => k_asm); (case k5 => k_asm); (case k6 => first | assumption | exact rfl); (case k7 => first | assumption | exact rfl); (case k8 => k_asm); (case k9 => k_asm); (case ka => rfl); (case kb => rfl); (case kc => exact Nat.le_of_ble_eq_true rfl); (case e0 => assumption); (case e1 => assumption); k_whole; intro v9 nw9 h9 tk9 hr9 F9 N9; (refine Exists.elim hr9.2 ?_; intro t9 e9; obtain ⟨e8, _⟩ := hr9; subst e8; replace N9 := cb_drop N9 e9; clear e9); revert nw9 h9 tk9 F9 N9 t9; intros; (try dsimp only); (try k_fold))) | ((with_reducible show wpAny _ _ (exec (Stmt.While _ _ _ _) _) _ _ _); k_here; k_dflt (refine' while_at ?k1 ?_; (case k1 => k_asm))) | (k_here; (with_reducible show wpAny _ _ (call (Value.type "enumerate") [Value.ref _]) _ _ _); refine enum_call ?_) | ((with_reducible show wpAny _ _ (exec (Stmt.For (Expr.Tuple _ _ _) (Expr.Call _ _ _ _) _ _ _) _) _ _ _); k_here; k_dflt (refine' for_turns ?k1 ?_; (case k1 => k_asm))) | walk1 | (dsimp only; walk1) | (leave1; try dsimp only) | fail "no step"))
          k_here
          rename Fr _ _ _ _ => F6
          rename News _ _ _ _ => N6
          rename ∀ (p : Addr × Obj), _ → p.fst < _ => lt6
          rename_i T6 h6
          refine append_K F6 N6 (Upd.tail (Nat.ne_of_gt (lt6 _ (.head _))) (Upd.head hR)) ?_ hsz
          intro h7 F7 N7
          rw [List.push_toArray] at N7
          have hTd : k.d < T6 := lt6 (k.d, _) (.tail _ (List.mem_append_left _ (.tail _ (.head _))))
          have hR2 : ∀ p ∈ (T6, tupOf [.int (a : Int) ta, .int (j : Int) tt]) :: (fa, listOf (vals ++ [Value.ref T6]).toArray (fn + 1)) :: (tl ++ (ledAll w pre ++ (ledAll w post ++ rest))), p.1 ≠ k.d := by
            intro p hp
            rcases List.mem_cons.mp hp with rfl | hp
            · exact Nat.ne_of_gt hTd
            rcases List.mem_cons.mp hp with rfl | hp
            · exact Nat.ne_of_gt hkf
            rcases List.mem_append.mp hp with hp | hp
            · exact (htl p hp).2 _ hka
            · exact hko p hp
          have N8 := cb_drop N7 (pull_two (w := w) (k := k))
          clear N7
          have hlm : (sl, listOf (ks.map fun k => Value.ref k.x).toArray sn) ∈ k.led w ++ ((T6, tupOf [.int (a : Int) ta, .int (j : Int) tt]) :: (fa, listOf (vals ++ [Value.ref T6]).toArray (fn + 1)) :: (tl ++ (ledAll w pre ++ (ledAll w post ++ rest)))) := List.mem_append_right _ (.tail _ (.tail _ (List.mem_append_right _ (List.mem_append_right _ (List.mem_append_right _ hl)))))
          (repeat' (first | (k_unfold; (try dsimp only)) | (k_end; wrow_close) | ((with_reducible show wpAny _ _ (call _ _) _ _ _); k_here; (try dsimp only); (with_reducible show wpAny _ _ (call (Value.ref 111) _) _ _ _); k_dflt (refine' Spec.callB (width_at _ _ _ _ ?e0 ?e1) ?k1 ?k2 ?k3 ?k4 ?k5 ?k6 ?k7 ?k8 ?k9 ?ka ?kb ?kc ?_; (case k1 => k_asm); (case k2 => k_asm); (case k3 => k_asm); (case k4 => k_asm); (case k5 => k_asm); (case k6 => first | assumption | exact rfl); (case k7 => first | assumption | exact rfl); (case k8 => k_asm); (case k9 => k_asm); (case ka => rfl); (case kb => rfl); (case kc => exact Nat.le_of_ble_eq_true rfl); (case e0 => assumption); (case e1 => assumption); k_whole; intro v9 nw9 h9 tk9 hr9 F9 N9; (obtain ⟨e9, t8, e8⟩ := hr9; subst e8; replace N9 := cb_drop N9 e9; clear e9); revert nw9 h9 tk9 F9 N9 t8; intros; (try dsimp only); (try k_fold))) | ((with_reducible show wpAny _ _ (call _ _) _ _ _); k_here; (try dsimp only); (with_reducible show wpAny _ _ (call (Value.ref 132) _) _ _ _); k_dflt (refine' Spec.callB (took_spec _ _ _ _ _ ?e0 ?e1 ?e2) ?k1 ?k2 ?k3 ?k4 ?k5 ?k6 ?k7 ?k8 ?k9 ?ka ?kb ?kc ?_; (case k1 => k_asm); (case k2 => k_asm); (case k3 => k_asm); (case k4 => k_asm); (case k5 => k_asm); (case k6 => first | assumption | exact rfl); (case k7 => first | assumption | exact rfl); (case k8 => k_asm); (case k9 => k_asm); (case ka => rfl); (case kb => rfl); (case kc => exact Nat.le_of_ble_eq_true rfl); (case e0 => assumption); (case e1 => assumption); (case e2 => assumption); k_whole; intro v9 nw9 h9 tk9 hr9 F9 N9; (refine Exists.elim hr9.2 ?_; intro t9 e9; obtain ⟨e8, _⟩ := hr9; subst e8; replace N9 := cb_drop N9 e9; clear e9); revert nw9 h9 tk9 F9 N9 t9; intros; (try dsimp only); (try k_fold))) | (k_here; (with_reducible show wpAny _ _ (subscriptTail _ _ (Value.ref _) (Value.int (Nat.cast _) _)) _ _ _); (refine item_at (s := ⟨_, _, _, _, _⟩) (by k_asm) (by assumption) (by omega) (by assumption) ?_)) | ((with_reducible show wpAny _ _ (call _ _) _ _ _); k_here; (try dsimp only); (with_reducible show wpAny _ _ (call (Value.ref 125) _) _ _ _); k_dflt (refine' Spec.callB (is_fit_at _ _ _ _ _ _ _ _ ?e0 ?e1 ?e2) ?k1 ?k2 ?k3 ?k4 ?k5 ?k6 ?k7 ?k8 ?k9 ?ka ?kb ?kc ?_; (case k1 => k_asm); (case k2 => k_asm); (case k3 => k_asm); (case k4 => k_asm); (case k5 => k_asm); (case k6 => first | assumption | exact rfl); (case k7 => first | assumption | exact rfl); (case k8 => k_asm); (case k9 => k_asm); (case ka => rfl); (case kb => rfl); (case kc => exact Nat.le_of_ble_eq_true rfl); (case e0 => assumption); (case e1 => exact rfl); (case e2 => assumption); k_whole; intro v9 nw9 h9 tk9 hr9 F9 N9; (obtain ⟨e9, e8⟩ := hr9; subst e8; replace N9 := cb_drop N9 e9; clear e9); revert nw9 h9 tk9 F9 N9; intros; (try dsimp only); (try k_fold))) | ((with_reducible show wpAny _ _ (call _ _) _ _ _); k_here; (try dsimp only); (with_reducible show wpAny _ _ (call (Value.ref 118) _) _ _ _); k_dflt (refine' Spec.callB (reach_spec _ _ _ _ _ ?e0 ?e1) ?k1 ?k2 ?k3 ?k4 ?k5 ?k6 ?k7 ?k8 ?k9 ?ka ?kb ?kc ?_; (case k1 => k_asm); (case k2 => k_asm); (case k3 => k_asm); (case k4 => k_asm); (case k5 => k_asm); (case k6 => first | assumption | exact rfl); (case k7 => first | assumption | exact rfl); (case k8 => k_asm); (case k9 => k_asm); (case ka => rfl); (case kb => rfl); (case kc => exact Nat.le_of_ble_eq_true rfl); (case e0 => assumption); (case e1 => assumption); k_whole; intro v9 nw9 h9 tk9 hr9 F9 N9; (refine Exists.elim hr9.2 ?_; intro t9 e9; obtain ⟨e8, _⟩ := hr9; subst e8; replace N9 := cb_drop N9 e9; clear e9); revert nw9 h9 tk9 F9 N9 t9; intros; (try dsimp only); (try k_fold))) | ((with_reducible show wpAny _ _ (exec (Stmt.While _ _ _ _) _) _ _ _); k_here; k_dflt (refine' while_at ?k1 ?_; (case k1 => k_asm))) | (k_here; (with_reducible show wpAny _ _ (call (Value.type "enumerate") [Value.ref _]) _ _ _); refine enum_call ?_) | ((with_reducible show wpAny _ _ (exec (Stmt.For (Expr.Tuple _ _ _) (Expr.Call _ _ _ _) _ _ _) _) _ _ _); k_here; k_dflt (refine' for_turns ?k1 ?_; (case k1 => k_asm))) | walk1 | (dsimp only; walk1) | (leave1; try dsimp only) | fail "no step"))
          rename News _ _ _ _ => N9
          rename_i t9 _
          have hlm2 : (sl, listOf (ks.map fun k => Value.ref k.x).toArray sn) ∈ (k.up (k.abs.took a) t9).led w ++ ((T6, tupOf [.int (a : Int) ta, .int (j : Int) tt]) :: (fa, listOf (vals ++ [Value.ref T6]).toArray (fn + 1)) :: (tl ++ (ledAll w pre ++ (ledAll w post ++ rest)))) := List.mem_append_right _ (.tail _ (.tail _ (List.mem_append_right _ (List.mem_append_right _ (List.mem_append_right _ hl)))))
          have hkw2 : (k.up (k.abs.took a) t9).abs.wanted.length ≤ 1000 := hkw
          have hkx2 : k.x = (k.up (k.abs.took a) t9).x := rfl
          (repeat' (first | (k_unfold; (try dsimp only)) | (k_end; wrow_close) | ((with_reducible show wpAny _ _ (call _ _) _ _ _); k_here; (try dsimp only); (with_reducible show wpAny _ _ (call (Value.ref 111) _) _ _ _); k_dflt (refine' Spec.callB (width_at _ _ _ _ ?e0 ?e1) ?k1 ?k2 ?k3 ?k4 ?k5 ?k6 ?k7 ?k8 ?k9 ?ka ?kb ?kc ?_; (case k1 => k_asm); (case k2 => k_asm); (case k3 => k_asm); (case k4 => k_asm); (case k5 => k_asm); (case k6 => first | assumption | exact rfl); (case k7 => first | assumption | exact rfl); (case k8 => k_asm); (case k9 => k_asm); (case ka => rfl); (case kb => rfl); (case kc => exact Nat.le_of_ble_eq_true rfl); (case e0 => assumption); (case e1 => assumption); k_whole; intro v9 nw9 h9 tk9 hr9 F9 N9; (obtain ⟨e9, t8, e8⟩ := hr9; subst e8; replace N9 := cb_drop N9 e9; clear e9); revert nw9 h9 tk9 F9 N9 t8; intros; (try dsimp only); (try k_fold))) | ((with_reducible show wpAny _ _ (call _ _) _ _ _); k_here; (try dsimp only); (with_reducible show wpAny _ _ (call (Value.ref 132) _) _ _ _); k_dflt (refine' Spec.callB (took_spec _ _ _ _ _ ?e0 ?e1 ?e2) ?k1 ?k2 ?k3 ?k4 ?k5 ?k6 ?k7 ?k8 ?k9 ?ka ?kb ?kc ?_; (case k1 => k_asm); (case k2 => k_asm); (case k3 => k_asm); (case k4 => k_asm); (case k5 => k_asm); (case k6 => first | assumption | exact rfl); (case k7 => first | assumption | exact rfl); (case k8 => k_asm); (case k9 => k_asm); (case ka => rfl); (case kb => rfl); (case kc => exact Nat.le_of_ble_eq_true rfl); (case e0 => assumption); (case e1 => assumption); (case e2 => assumption); k_whole; intro v9 nw9 h9 tk9 hr9 F9 N9; (refine Exists.elim hr9.2 ?_; intro t9 e9; obtain ⟨e8, _⟩ := hr9; subst e8; replace N9 := cb_drop N9 e9; clear e9); revert nw9 h9 tk9 F9 N9 t9; intros; (try dsimp only); (try k_fold))) | (k_here; (with_reducible show wpAny _ _ (subscriptTail _ _ (Value.ref _) (Value.int (Nat.cast _) _)) _ _ _); (refine item_at (s := ⟨_, _, _, _, _⟩) (by k_asm) (by assumption) (by omega) (by assumption) ?_)) | ((with_reducible show wpAny _ _ (call _ _) _ _ _); k_here; (try dsimp only); (with_reducible show wpAny _ _ (call (Value.ref 125) _) _ _ _); k_dflt (refine' Spec.callB (is_fit_at _ _ _ _ _ _ _ _ ?e0 ?e1 ?e2) ?k1 ?k2 ?k3 ?k4 ?k5 ?k6 ?k7 ?k8 ?k9 ?ka ?kb ?kc ?_; (case k1 => k_asm); (case k2 => k_asm); (case k3 => k_asm); (case k4 => k_asm); (case k5 => k_asm); (case k6 => first | assumption | exact rfl); (case k7 => first | assumption | exact rfl); (case k8 => k_asm); (case k9 => k_asm); (case ka => rfl); (case kb => rfl); (case kc => exact Nat.le_of_ble_eq_true rfl); (case e0 => assumption); (case e1 => exact rfl); (case e2 => assumption); k_whole; intro v9 nw9 h9 tk9 hr9 F9 N9; (obtain ⟨e9, e8⟩ := hr9; subst e8; replace N9 := cb_drop N9 e9; clear e9); revert nw9 h9 tk9 F9 N9; intros; (try dsimp only); (try k_fold))) | ((with_reducible show wpAny _ _ (call _ _) _ _ _); k_here; (try dsimp only); (with_reducible show wpAny _ _ (call (Value.ref 118) _) _ _ _); k_dflt (refine' Spec.callB (reach_spec _ _ _ _ _ ?e0 ?e1) ?k1 ?k2 ?k3 ?k4 ?k5 ?k6 ?k7 ?k8 ?k9 ?ka ?kb ?kc ?_; (case k1 => k_asm); (case k2 => k_asm); (case k3 => k_asm); (case k4 => k_asm); (case k5 => k_asm); (case k6 => first | assumption | exact rfl); (case k7 => first | assumption | exact rfl); (case k8 => k_asm); (case k9 => k_asm); (case ka => rfl); (case kb => rfl); (case kc => exact Nat.le_of_ble_eq_true rfl); (case e0 => assumption); (case e1 => assumption); k_whole; intro v9 nw9 h9 tk9 hr9 F9 N9; (refine Exists.elim hr9.2 ?_; intro t9 e9; obtain ⟨e8, _⟩ := hr9; subst e8; replace N9 := cb_drop N9 e9; clear e9); revert nw9 h9 tk9 F9 N9 t9; intros; (try dsimp only); (try k_fold))) | ((with_reducible show wpAny _ _ (exec (Stmt.While _ _ _ _) _) _ _ _); k_here; k_dflt (refine' while_at ?k1 ?_; (case k1 => k_asm))) | (k_here; (with_reducible show wpAny _ _ (call (Value.type "enumerate") [Value.ref _]) _ _ _); refine enum_call ?_) | ((with_reducible show wpAny _ _ (exec (Stmt.For (Expr.Tuple _ _ _) (Expr.Call _ _ _ _) _ _ _) _) _ _ _); k_here; k_dflt (refine' for_turns ?k1 ?_; (case k1 => k_asm))) | walk1 | (dsimp only; walk1) | (leave1; try dsimp only) | fail "no step"))
          rename Fr _ _ _ _ => F10
          rename News _ _ _ _ => N10
          have e1 : ((a : Int) + ((k.up (k.abs.took a) t9).abs.width : Int)) = ((a + k.abs.width : Nat) : Int) := (Int.natCast_add a k.abs.width).symm
          simp only [ov_pt, e1] at F10
          have hfT : fa < T6 := lt6 (fa, _) (.head _)
          refine hP1 _ _ <| WhileStep.intro F10 (cb_drop N10 (push_two (w := w) (k := k.up (k.abs.took a) t9))) (Nat.lt_succ_self f) ⟨a + k.abs.width, _, vals ++ [Value.ref T6], fn + 1, (T6, tupOf [.int (a : Int) ta, .int (j : Int) tt]) :: tl, pre ++ k.up (k.abs.took a) t9 :: post, _, _, _, acc ++ [(a, j)], rfl, rfl, ?_, ?_, ?_, ?_, by omega, ?_, ?_, ?_⟩
          · rw [← had2, List.map_append, List.map_append]; rfl
          · exact PairsIn.snoc (q := (a, j)) ⟨T6, ta, tt, rfl, .head _⟩ (hacc.mono fun p hp => .tail _ hp)
          · rw [← hset t9, List.append_assoc]; exact hf
          · rw [← hset t9]; exact he
          · rw [List.length_append]; simp only [List.length_cons, List.length_nil]; omega
          · intro k3 hk3
            rcases List.mem_append.mp hk3 with h1 | h1
            · exact hk2 _ (List.mem_append_left _ h1)
            rcases List.mem_cons.mp h1 with rfl | h1
            · exact ⟨hkw, hk1⟩
            · exact hk2 _ (List.mem_append_right _ (.tail _ h1))
          · intro p hp
            rcases List.mem_cons.mp hp with rfl | hp
            · refine ⟨hfT, fun b hb => ?_⟩
              rw [← had2] at hb
              obtain ⟨_, o2, h2⟩ := ad_in (w := w) hb
              exact Nat.ne_of_gt (Nat.lt_trans (hfl _ h2) hfT)
            · exact htl p hp
    · refine hP0 _ ?_
      (repeat' (first | (k_unfold; (try dsimp only)) | (k_end; wrow_close) | ((with_reducible show wpAny _ _ (call _ _) _ _ _); k_here; (try dsimp only); (with_reducible show wpAny _ _ (call (Value.ref 111) _) _ _ _); k_dflt (refine' Spec.callB (width_at _ _ _ _ ?e0 ?e1) ?k1 ?k2 ?k3 ?k4 ?k5 ?k6 ?k7 ?k8 ?k9 ?ka ?kb ?kc ?_; (case k1 => k_asm); (case k2 => k_asm); (case k3 => k_asm); (case k4 => k_asm); (case k5 => k_asm); (case k6 => first | assumption | exact rfl); (case k7 => first | assumption | exact rfl); (case k8 => k_asm); (case k9 => k_asm); (case ka => rfl); (case kb => rfl); (case kc => exact Nat.le_of_ble_eq_true rfl); (case e0 => assumption); (case e1 => assumption); k_whole; intro v9 nw9 h9 tk9 hr9 F9 N9; (obtain ⟨e9, t8, e8⟩ := hr9; subst e8; replace N9 := cb_drop N9 e9; clear e9); revert nw9 h9 tk9 F9 N9 t8; intros; (try dsimp only); (try k_fold))) | ((with_reducible show wpAny _ _ (call _ _) _ _ _); k_here; (try dsimp only); (with_reducible show wpAny _ _ (call (Value.ref 132) _) _ _ _); k_dflt (refine' Spec.callB (took_spec _ _ _ _ _ ?e0 ?e1 ?e2) ?k1 ?k2 ?k3 ?k4 ?k5 ?k6 ?k7 ?k8 ?k9 ?ka ?kb ?kc ?_; (case k1 => k_asm); (case k2 => k_asm); (case k3 => k_asm); (case k4 => k_asm); (case k5 => k_asm); (case k6 => first | assumption | exact rfl); (case k7 => first | assumption | exact rfl); (case k8 => k_asm); (case k9 => k_asm); (case ka => rfl); (case kb => rfl); (case kc => exact Nat.le_of_ble_eq_true rfl); (case e0 => assumption); (case e1 => assumption); (case e2 => assumption); k_whole; intro v9 nw9 h9 tk9 hr9 F9 N9; (refine Exists.elim hr9.2 ?_; intro t9 e9; obtain ⟨e8, _⟩ := hr9; subst e8; replace N9 := cb_drop N9 e9; clear e9); revert nw9 h9 tk9 F9 N9 t9; intros; (try dsimp only); (try k_fold))) | (k_here; (with_reducible show wpAny _ _ (subscriptTail _ _ (Value.ref _) (Value.int (Nat.cast _) _)) _ _ _); (refine item_at (s := ⟨_, _, _, _, _⟩) (by k_asm) (by assumption) (by omega) (by assumption) ?_)) | ((with_reducible show wpAny _ _ (call _ _) _ _ _); k_here; (try dsimp only); (with_reducible show wpAny _ _ (call (Value.ref 125) _) _ _ _); k_dflt (refine' Spec.callB (is_fit_at _ _ _ _ _ _ _ _ ?e0 ?e1 ?e2) ?k1 ?k2 ?k3 ?k4 ?k5 ?k6 ?k7 ?k8 ?k9 ?ka ?kb ?kc ?_; (case k1 => k_asm); (case k2 => k_asm); (case k3 => k_asm); (case k4 => k_asm); (case k5 => k_asm); (case k6 => first | assumption | exact rfl); (case k7 => first | assumption | exact rfl); (case k8 => k_asm); (case k9 => k_asm); (case ka => rfl); (case kb => rfl); (case kc => exact Nat.le_of_ble_eq_true rfl); (case e0 => assumption); (case e1 => exact rfl); (case e2 => assumption); k_whole; intro v9 nw9 h9 tk9 hr9 F9 N9; (obtain ⟨e9, e8⟩ := hr9; subst e8; replace N9 := cb_drop N9 e9; clear e9); revert nw9 h9 tk9 F9 N9; intros; (try dsimp only); (try k_fold))) | ((with_reducible show wpAny _ _ (call _ _) _ _ _); k_here; (try dsimp only); (with_reducible show wpAny _ _ (call (Value.ref 118) _) _ _ _); k_dflt (refine' Spec.callB (reach_spec _ _ _ _ _ ?e0 ?e1) ?k1 ?k2 ?k3 ?k4 ?k5 ?k6 ?k7 ?k8 ?k9 ?ka ?kb ?kc ?_; (case k1 => k_asm); (case k2 => k_asm); (case k3 => k_asm); (case k4 => k_asm); (case k5 => k_asm); (case k6 => first | assumption | exact rfl); (case k7 => first | assumption | exact rfl); (case k8 => k_asm); (case k9 => k_asm); (case ka => rfl); (case kb => rfl); (case kc => exact Nat.le_of_ble_eq_true rfl); (case e0 => assumption); (case e1 => assumption); k_whole; intro v9 nw9 h9 tk9 hr9 F9 N9; (refine Exists.elim hr9.2 ?_; intro t9 e9; obtain ⟨e8, _⟩ := hr9; subst e8; replace N9 := cb_drop N9 e9; clear e9); revert nw9 h9 tk9 F9 N9 t9; intros; (try dsimp only); (try k_fold))) | ((with_reducible show wpAny _ _ (exec (Stmt.While _ _ _ _) _) _ _ _); k_here; k_dflt (refine' while_at ?k1 ?_; (case k1 => k_asm))) | (k_here; (with_reducible show wpAny _ _ (call (Value.type "enumerate") [Value.ref _]) _ _ _); refine enum_call ?_) | ((with_reducible show wpAny _ _ (exec (Stmt.For (Expr.Tuple _ _ _) (Expr.Call _ _ _ _) _ _ _) _) _ _ _); k_here; k_dflt (refine' for_turns ?k1 ?_; (case k1 => k_asm))) | walk1 | (dsimp only; walk1) | (leave1; try dsimp only) | fail "no step"))
      have hge : ¬ a < o.length := by omega
      rw [fitsF_stop hge, List.append_nil] at hf
      rw [fitsEnd_stop hge] at he
      subst hf
      exact hret _ _ _ _ ⟨fa, fn, vals, tl, ks', rfl, .head _, fun p hp => .tail _ hp, hacc, hfa, fun p hp => (htl p hp).1, hads, he⟩ (by assumption) (by assumption)
end
section
def AllIn {α : Type} (R : Value → α → Prop) (vs : List Value) (xs : List α) : Prop := vs.length = xs.length ∧ ∀ (i : Nat) (v : Value) (x : α), vs[i]? = some v → xs[i]? = some x → R v x
theorem AllIn.mono {α : Type} {R R' : Value → α → Prop} {vs : List Value} {xs : List α} (h : AllIn R vs xs) (k : ∀ v x, R v x → R' v x) : AllIn R' vs xs := ⟨h.1, fun i v x a b => k v x (h.2 i v x a b)⟩
theorem AllIn.nil {α : Type} {R : Value → α → Prop} : AllIn R [] [] := ⟨rfl, fun i v x a _ => by simp at a⟩
theorem AllIn.snoc {α : Type} {R : Value → α → Prop} {vs : List Value} {xs : List α} {v : Value} {x : α} (h : AllIn R vs xs) (hv : R v x) : AllIn R (vs ++ [v]) (xs ++ [x]) := by
  refine ⟨by simp [h.1], fun i u y a b => ?_⟩
  rw [List.getElem?_append] at a b
  rw [h.1] at a
  split at a
  · rw [if_pos (by assumption)] at b
    exact h.2 i u y a b
  · rw [if_neg (by assumption)] at b
    rcases Nat.eq_zero_or_pos (i - xs.length) with e | e
    · rw [e] at a b
      simp at a b
      subst a; subst b; exact hv
    · rw [List.getElem?_eq_none (by simp only [List.length_cons, List.length_nil]; omega)] at a
      cases a
theorem AllIn.get {α : Type} {R : Value → α → Prop} {vs : List Value} {xs : List α} {i : Nat} {v : Value} (h : AllIn R vs xs) (hv : vs[i]? = some v) : ∃ x, xs[i]? = some x ∧ R v x := by
  have hi : i < xs.length := by
    obtain ⟨h1, _⟩ := List.getElem?_eq_some_iff.mp hv
    rw [← h.1]; exact h1
  exact ⟨xs[i], List.getElem?_eq_getElem hi, h.2 i v _ hv (List.getElem?_eq_getElem hi)⟩
theorem AllIn.get' {α : Type} {R : Value → α → Prop} {vs : List Value} {xs : List α} {i : Nat} {x : α} (h : AllIn R vs xs) (hv : xs[i]? = some x) : ∃ v, vs[i]? = some v ∧ R v x := by
  have hi : i < vs.length := by
    obtain ⟨h1, _⟩ := List.getElem?_eq_some_iff.mp hv
    rw [h.1]; exact h1
  exact ⟨vs[i], List.getElem?_eq_getElem hi, h.2 i _ x (List.getElem?_eq_getElem hi) hv⟩
structure Row where
  kind : Kind
  wanted : List UInt8
  given : List UInt8
  before : Option (List UInt8)
  after : Option (List UInt8)
  deriving DecidableEq
structure Row.ok (r : Row) : Prop where
  len : r.wanted.length ≤ 1000
  pos : r.kind ≠ .chars → 0 < r.wanted.length
  bef : okOpt r.before
  aft : okOpt r.after
def CRow (news : Led) (v : Value) (r : Row) : Prop := ∃ T t1 t2 t3 t4, v = .ref T ∧ (T, tupOf [.str r.kind.str t1, wvOf r.kind r.wanted t2, vOpt r.before t3, vOpt r.after t4]) ∈ news
def XRow (news : Led) (v : Value) (r : Row) : Prop := ∃ T t1 t2 t3 t4 t5, v = .ref T ∧ (T, tupOf [.str r.kind.str t1, wvOf r.kind r.wanted t2, .bytes r.given.toArray t3, vOpt r.before t4, vOpt r.after t5]) ∈ news
theorem CRow.mono {a b : Led} {v : Value} {r : Row} (h : CRow a v r) (s : ∀ p ∈ a, p ∈ b) : CRow b v r := by
  obtain ⟨T, t1, t2, t3, t4, e, hm⟩ := h
  exact ⟨T, t1, t2, t3, t4, e, s _ hm⟩
theorem XRow.mono {a b : Led} {v : Value} {r : Row} (h : XRow a v r) (s : ∀ p ∈ a, p ∈ b) : XRow b v r := by
  obtain ⟨T, t1, t2, t3, t4, t5, e, hm⟩ := h
  exact ⟨T, t1, t2, t3, t4, t5, e, s _ hm⟩
def IntV (v : Value) (n : Nat) : Prop := ∃ t, v = .int (n : Int) t
def Row.fresh (o : List UInt8) (r : Row) : AS := AS.fresh o r.kind r.wanted r.before r.after
def fitsP (o : List UInt8) (rows : List Row) : List (Nat × Nat) := fitsF o (o.length + 1) 0 (rows.map (Row.fresh o))
def countsOf (n : Nat) (qs : List (Nat × Nat)) : List Nat := (List.range n).map fun j => (qs.filter (fun q => q.2 == j)).length
theorem fresh_width {o : List UInt8} {r : Row} (h : r.ok) : 1 ≤ (r.fresh o).width := by
  have hp := h.pos
  unfold Row.fresh AS.fresh AS.width
  cases e : r.kind <;> simp only [e] at hp ⊢ <;> first | exact hp (by simp) | exact Nat.le_refl _
theorem Sep.nil {rest : Led} : Sep [] rest := ⟨fun _ h => by simp at h, List.Pairwise.nil, fun _ h => by simp at h⟩
theorem Sep.snoc {w : World} {ks : List SK} {rest : Led} {k : SK} (S : Sep (ks.map SK.ad) rest) (h : ∀ p ∈ ledAll w ks ++ rest, p.1 < k.d) (hd : k.d < k.x) : Sep ((ks ++ [k]).map SK.ad) rest := by
  have hk : ∀ a ∈ ks.map SK.ad, a.1 < k.d ∧ a.2 < k.d := by
    intro a ha
    obtain ⟨⟨o1, h1⟩, o2, h2⟩ := ad_in (w := w) ha
    exact ⟨h _ (List.mem_append_left _ h1), h _ (List.mem_append_left _ h2)⟩
  rw [List.map_append]
  refine ⟨fun a ha => ?_, List.pairwise_append.mpr ⟨S.two, List.pairwise_singleton _ _, fun a ha b hb => ?_⟩, fun a ha p hp => ?_⟩
  · rcases List.mem_append.mp ha with ha | ha
    · exact S.one a ha
    · rw [List.mem_singleton.mp ha]; exact Nat.ne_of_gt hd
  · rw [List.mem_singleton.mp hb]
    obtain ⟨h1, h2⟩ := hk a ha
    exact ⟨Nat.ne_of_lt h2, Nat.ne_of_lt (Nat.lt_trans h2 hd), Nat.ne_of_lt h1⟩
  · rcases List.mem_append.mp ha with ha | ha
    · exact S.off a ha p hp
    · rw [List.mem_singleton.mp ha]; exact Nat.ne_of_lt (h p (List.mem_append_right _ hp))
theorem take_snoc {α : Type} {l : List α} {i : Nat} {x : α} (h : l[i]? = some x) : l.take (i + 1) = l.take i ++ [x] := by
  obtain ⟨h1, h2⟩ := List.getElem?_eq_some_iff.mp h
  rw [List.take_succ_eq_append_getElem h1, h2]
theorem sub_comp {w : World} {ks : List SK} {k : SK} {a b c : Addr × Obj} {R : Led} : ∀ p ∈ a :: b :: c :: (ledAll w (ks ++ [k]) ++ R), p ∈ k.led w ++ (a :: b :: c :: (ledAll w ks ++ R)) := by
  intro p hp
  rw [ledAll_append, ledAll_cons] at hp
  simp only [List.mem_append, List.mem_cons] at hp ⊢
  have : ledAll w [] = [] := rfl
  rw [this] at hp
  grind
theorem off_comp {w : World} {ks : List SK} {k : SK} {I C D : Addr} {R : Led} (h : ∀ p ∈ ledAll w ks ++ R, p.1 ≠ I ∧ p.1 ≠ C ∧ p.1 ≠ D) (h1 : I < k.d) (h2 : C < k.d) (h3 : D < k.d) (h4 : k.d < k.x) : ∀ p ∈ ledAll w (ks ++ [k]) ++ R, p.1 ≠ I ∧ p.1 ≠ C ∧ p.1 ≠ D := by
  intro p hp
  rcases List.mem_append.mp hp with hp | hp
  · obtain ⟨k2, hk, e⟩ := mem_ledAll hp
    rcases List.mem_append.mp hk with hk | hk
    · rw [ledAll_append] at hp
      rcases List.mem_append.mp hp with hp | hp
      · exact h p (List.mem_append_left _ hp)
      · obtain ⟨k3, hk3, e3⟩ := mem_ledAll hp
        rw [List.mem_singleton.mp hk3] at e3
        rcases e3 with e3 | e3 <;> rw [e3]
        · exact ⟨Nat.ne_of_gt (Nat.lt_trans h1 h4), Nat.ne_of_gt (Nat.lt_trans h2 h4), Nat.ne_of_gt (Nat.lt_trans h3 h4)⟩
        · exact ⟨Nat.ne_of_gt h1, Nat.ne_of_gt h2, Nat.ne_of_gt h3⟩
    · rw [List.mem_singleton.mp hk] at e
      rcases e with e | e <;> rw [e]
      · exact ⟨Nat.ne_of_gt (Nat.lt_trans h1 h4), Nat.ne_of_gt (Nat.lt_trans h2 h4), Nat.ne_of_gt (Nat.lt_trans h3 h4)⟩
      · exact ⟨Nat.ne_of_gt h1, Nat.ne_of_gt h2, Nat.ne_of_gt h3⟩
  · exact h p (List.mem_append_right _ hp)
theorem Sep.cons {ads : List (Addr × Addr)} {rest : Led} {q : Addr × Obj} (S : Sep ads rest) (h : ∀ a ∈ ads, q.1 ≠ a.2) : Sep ads (q :: rest) :=
  ⟨S.one, S.two, fun a ha p hp => by
    rcases List.mem_cons.mp hp with rfl | hp
    · exact h a ha
    · exact S.off a ha p hp⟩
theorem tal_sub {w : World} {ks : List SK} {c e d : Addr × Obj} {R : Led} : ∀ p ∈ ledAll w ks ++ (c :: d :: R), p ∈ c :: e :: d :: (ledAll w ks ++ R) := by
  intro p hp
  simp only [List.mem_append, List.mem_cons] at hp ⊢
  grind
theorem tal_sub2 {w : World} {ks : List SK} {c d f : Addr × Obj} {R tl nw : Led} (hf : f ∈ nw) (h : ∀ p ∈ tl ++ (ledAll w ks ++ (c :: d :: R)), p ∈ nw) : ∀ p ∈ c :: f :: (tl ++ (d :: R)), p ∈ nw := by
  intro p hp
  rcases List.mem_cons.mp hp with rfl | hp
  · exact h _ (List.mem_append_right _ (List.mem_append_right _ (.head _)))
  rcases List.mem_cons.mp hp with rfl | hp
  · exact hf
  rcases List.mem_append.mp hp with hp | hp
  · exact h _ (List.mem_append_left _ hp)
  · exact h _ (List.mem_append_right _ (List.mem_append_right _ (.tail _ hp)))
theorem PairsIn.get {news : Led} : ∀ {vs : List Value} {qs : List (Nat × Nat)} {i : Nat} {v : Value}, PairsIn news vs qs → vs[i]? = some v → ∃ q, qs[i]? = some q ∧ PairIn news v q
  | [], _, _, _, _, hv => by simp at hv
  | _ :: _, [], _, _, h, _ => h.elim
  | _ :: _, q :: _, 0, _, h, hv => ⟨q, rfl, by have e : _ = _ := Option.some.inj hv; subst e; exact h.1⟩
  | _ :: vs, _ :: qs, i + 1, v, h, hv => PairsIn.get (vs := vs) (qs := qs) (i := i) h.2 (by simpa using hv)
theorem fitsF_bound (o : List UInt8) : ∀ (n a : Nat) (ss : List AS), ∀ q ∈ fitsF o n a ss, q.1 < o.length ∧ q.2 < ss.length
  | 0, _, _ => fun _ h => by simp [fitsF] at h
  | n + 1, a, ss => by
    intro q hq
    have hl : (reachAll a ss).length = ss.length := List.length_map _
    rw [fitsF] at hq
    split at hq
    · cases e : takerIn o a (reachAll a ss) with
      | none =>
        simp only [e] at hq
        have := fitsF_bound o n _ _ q hq
        rw [hl] at this
        exact this
      | some i =>
        simp only [e] at hq
        rcases List.mem_cons.mp hq with rfl | hq
        · exact ⟨by assumption, by have := takerIn_lt e; rw [hl] at this; exact this⟩
        · have := fitsF_bound o n _ _ q hq
          rw [List.length_set, hl] at this
          exact this
    · simp at hq
theorem AllIn.set {α : Type} {R : Value → α → Prop} {vs : List Value} {xs : List α} {v : Value} {x : α} {i : Nat} (h : AllIn R vs xs) (hv : R v x) : AllIn R (vs.set i v) (xs.set i x) := by
  refine ⟨by simp [h.1], fun j u y a b => ?_⟩
  by_cases e : i = j
  · subst e
    have h1 : i < vs.length := by
      have := (List.getElem?_eq_some_iff.mp a).1
      simpa using this
    rw [List.getElem?_set_self h1] at a
    rw [List.getElem?_set_self (by rw [← h.1]; exact h1)] at b
    have e1 : v = u := Option.some.inj a
    have e2 : x = y := Option.some.inj b
    subst e1; subst e2; exact hv
  · rw [List.getElem?_set_ne e] at a b
    exact h.2 j u y a b
theorem countsOf_len (n : Nat) (qs : List (Nat × Nat)) : (countsOf n qs).length = n := by simp [countsOf]
theorem countsOf_snoc {n : Nat} {qs : List (Nat × Nat)} {q : Nat × Nat} {c : Nat} (hc : (countsOf n qs)[q.2]? = some c) : countsOf n (qs ++ [q]) = (countsOf n qs).set q.2 (c + 1) := by
  apply List.ext_getElem?
  intro i
  have hq : q.2 < n := by have := (List.getElem?_eq_some_iff.mp hc).1; rwa [countsOf_len] at this
  by_cases e : q.2 = i
  · subst e
    rw [List.getElem?_set_self (by rw [countsOf_len]; exact hq)]
    have h1 : c = (qs.filter (fun r => r.2 == q.2)).length := by
      unfold countsOf at hc
      simp [hq] at hc
      exact hc.symm
    unfold countsOf
    simp [hq, List.filter_append, h1]
  · rw [List.getElem?_set_ne e]
    unfold countsOf
    by_cases hi : i < n
    · have : (q.2 == i) = false := by simpa using e
      simp [hi, List.filter_append, this]
    · rw [List.getElem?_eq_none (by simpa using hi), List.getElem?_eq_none (by simpa using hi)]
theorem counts_zero (n : Nat) (t : Tok) : AllIn IntV (List.replicate n (.int 0 t)) (countsOf n []) := by
  refine ⟨by simp [countsOf], fun i v x a b => ?_⟩
  have h1 : v = .int 0 t := List.eq_of_mem_replicate (List.mem_of_getElem? a)
  have h2 : x = 0 := by
    obtain ⟨j, _, e⟩ := List.mem_map.mp (List.mem_of_getElem? b)
    rw [← e]; rfl
  exact ⟨t, by rw [h1, h2]; rfl⟩
/-- a row's names, bound in a comprehension; the counting for -/
inductive RowAt (rows : List Row) (i : Nat) (v : Value) (m : Ns) : Prop
  | intro (r : Row) (t1 t2 t3 t4 : Tok) (hr : rows[i]? = some r) (h1 : m (Str.ofString "kind") = some (.str r.kind.str t1)) (h2 : m (Str.ofString "wanted") = some (wvOf r.kind r.wanted t2)) (h3 : m (Str.ofString "before") = some (vOpt r.before t3)) (h4 : m (Str.ofString "after") = some (vOpt r.after t4)) : RowAt rows i v m
inductive CountJ (o : List UInt8) (rows : List Row) (c D rl : Addr) (R : Led) (i : Nat) (m : Ns) (nw : Led) : Prop
  | intro (cv : List Value) (cn : Nat) (u1 u2 : Option Value)
    (em : m = ov [(Str.ofString "at", u1), (Str.ofString "number", u2)] (fun y => if y = Str.ofString "counts" then some (.ref c) else if y = Str.ofString "seekers" then some (.ref D) else if y = Str.ofString "rows" then some (.ref rl) else none))
    (en : nw = (c, listOf cv.toArray cn) :: R) (hc : AllIn IntV cv (countsOf rows.length ((fitsP o rows).take i))) : CountJ o rows c D rl R i m nw
set_option maxRecDepth 100000 in
set_option maxHeartbeats 8000000 in
theorem tallied_spec (w : World) (o : List UInt8) (rows : List Row) (to : Tok) (rl : Addr) (rn : Nat) (vals : List Value) (news : Led) (ho : o.length ≤ 1000) (hrl : rows.length ≤ 100) (hok : ∀ r ∈ rows, r.ok) (hm : (rl, listOf vals.toArray rn) ∈ news) (hv : AllIn (CRow news) vals rows) :
    Spec w 8 158 [.bytes o.toArray to, .ref rl] news (fun v news' => (∀ p ∈ news, p ∈ news') ∧ ∃ c cn cv, v = .ref c ∧ (c, listOf cv.toArray cn) ∈ news' ∧ AllIn IntV cv (countsOf rows.length (fitsP o rows))) := by
  unfold Spec
  intro dp un gd env outer A₀ mean mg mb base h₀ L m s Q E B F X N T hf hk hdp hun hret
  ((have fill : (∀ w : World, (Mine.hdHeap w.params) = (Mine.hdHeap w.params)) ∧ PySem.Challenge.rw_og0077_01.Holds → True := by ((first | k_fill | skip); exact fun _ => trivial)); clear fill)
  have hE : Enter [(Str.ofString "octets", .bytes o.toArray to), (Str.ofString "rows", .ref rl)] (fun y => if y = Str.ofString "rows" then some (.ref rl) else none) := ⟨⟩
  (k_dflt (refine' enter_cellsN (by assumption) ?k1 ?k2 ?k3 ?k4 ?k5 ?kF ?kK ?k6 ?k7 ?k8 ?k9 ?kB ?kD ?km ?_ ?c2 ?c3 ?c4; (case kF => assumption); (case kK => assumption); (case k1 => k_asm); (case k2 => k_asm); (case k3 => k_asm); (case k4 => k_asm); (case k5 => k_asm); (case k6 => k_is); (case k7 => k_is); (case k8 => ktr_room); (case k9 => exact BindsTo.of_eq rfl); (case kB => exact rfl); (case kD => decide +kernel); (case km => intro _; exact rfl); (case c2 => exact rfl); (case c3 => exact rfl); (case c4 => exact rfl); k_whole; intro _ _ _ _ _ _ _ N' Y' _ _ _ _; k_cells Y'; (try simp only [List.cons_append, List.nil_append] at N'); (try dsimp only); (try k_fold)))
  (repeat' (first | (k_unfold; (try dsimp only)) | (k_end; wrow_close) | ((with_reducible show wpAny _ _ (call _ _) _ _ _); k_here; (try dsimp only); (with_reducible show wpAny _ _ (call (Value.ref 146) _) _ _ _); k_dflt (refine' Spec.callB (seeker_of_spec _ _ _ _ _ _ _ _ _ _ _ _ ?e0 ?e1 ?e2 ?e3 ?e4) ?k1 ?k2 ?k3 ?k4 ?k5 ?k6 ?k7 ?k8 ?k9 ?ka ?kb ?kc ?_; (case k1 => k_asm); (case k2 => k_asm); (case k3 => k_asm); (case k4 => k_asm); (case k5 => k_asm); (case k6 => first | assumption | exact rfl); (case k7 => first | assumption | exact rfl); (case k8 => k_asm); (case k9 => k_asm); (case ka => rfl); (case kb => rfl); (case kc => exact Nat.le_of_ble_eq_true rfl); (case e0 => assumption); (case e1 => assumption); (case e2 => assumption); (case e3 => assumption); (case e4 => assumption); k_whole; intro _ _ _ _ _ _ _; (try dsimp only); (try k_fold))) | ((with_reducible show wpAny _ _ (exec (Stmt.For (Expr.Tuple _ _ _) (Expr.Call _ _ _ _) _ _ _) _) _ _ _); k_here; k_dflt (refine' for_src ?k1 ?_; (case k1 => k_asm))) | (k_here; (with_reducible show wpAny _ _ (setItem (Value.ref _) (Value.int (Nat.cast _) _) _) _ _ _); k_dflt (refine set_nat (by k_asm) (by k_asm) (by assumption) (by first | assumption | omega) (by k_upd) ?_); intro _ _ _) | (k_here; (with_reducible show wpAny _ _ (subscriptTail _ _ (Value.ref _) (Value.int (Nat.cast _) _)) _ _ _); (refine item_at (s := ⟨_, _, _, _, _⟩) (by k_asm) (by walk_at "MY mem") (by first | assumption | omega) (by assumption) ?_)) | walk1 | (dsimp only; walk1) | (leave1; try dsimp only) | fail "no step"))
  rename Fr _ _ _ _ => F1
  rename News _ _ _ _ => N1
  rename_i g1 L1 h1 tk1 FG1 B1 X1 T1 lt1 o1 d1
  replace d1 : o1.data = .cell (some (.bytes o.toArray to)) := d1
  have hm1 : (rl, listOf vals.toArray rn) ∈ (L1 + 1, o1) :: news := .tail _ hm
  have hof := fun p (hp : p ∈ (L1 + 1, o1) :: news) => Heap.lt_size (N1 p hp).1
  refine ⟨vals.length, fun i v => vals[i]? = some v, _, _, fun i ys nw => ∃ ks : List SK, nw = ledAll w ks ++ ((L1 + 1, o1) :: news) ∧ ys = ks.map (fun k => Value.ref k.x) ∧ ks.map SK.abs = (rows.take i).map (Row.fresh o) ∧ Sep (ks.map SK.ad) ((L1 + 1, o1) :: news),
    RowAt rows,
    Src.list rfl N1 hm1, F1, N1, fun s₂ => ⟨?_, ?_, ?_, ?_, ?_⟩, ?_⟩
  · rintro i ys nw ⟨ks, rfl, _⟩ p hp
    exact List.mem_append_right _ hp
  · exact ⟨[], rfl, rfl, rfl, Sep.nil⟩
  · rw [hv.1]; exact Nat.le_trans hrl (Nat.le_of_ble_eq_true rfl)
  · intro i v C s' m' Q' E' hi hP hn hkeep h
    obtain ⟨r, hr, T1, t1, t2, t3, t4, rfl, hT⟩ := hv.get hP
    refine binds_tuple [(_, _), (_, _), (_, _), (_, _)] rfl (by decide) rfl T1 _ C s' m' Q' E' ⟨_, hkeep _ (.tail _ hT), rfl, _, rfl⟩ rfl hn (fun _ => rfl) (fun _ => rfl) fun h'' tk'' hn'' hk'' => ?_
    exact h h'' tk'' _ hn'' ⟨r, t1, t2, t3, t4, hr, rfl, rfl, rfl, rfl⟩ hk''
  · rintro i v ys nw I oI C oC D m₂ h tk E' hi hP ⟨ks, rfl, rfl, habs, hS⟩ hyl hC hB F2 N2 off ne
    refine opq_test fun PP1 PN1 hPP1 hPN1 => ?_
    obtain ⟨r, t1, t2, t3, t4, hr, b1, b2, b3, b4⟩ := hB
    obtain ⟨ok1, ok2, ok3, ok4⟩ := hok r (List.mem_of_getElem? hr)
    refine wpAny_pure ?_
    simp only [if_true]
    (repeat' (first | (k_unfold; (try dsimp only)) | (k_end; wrow_close) | ((with_reducible show wpAny _ _ (call _ _) _ _ _); k_here; (try dsimp only); (with_reducible show wpAny _ _ (call (Value.ref 146) _) _ _ _); k_dflt (refine' Spec.callB (seeker_of_spec _ _ _ _ _ _ _ _ _ _ _ _ ?e0 ?e1 ?e2 ?e3 ?e4) ?k1 ?k2 ?k3 ?k4 ?k5 ?k6 ?k7 ?k8 ?k9 ?ka ?kb ?kc ?_; (case k1 => k_asm); (case k2 => k_asm); (case k3 => k_asm); (case k4 => k_asm); (case k5 => k_asm); (case k6 => first | assumption | exact rfl); (case k7 => first | assumption | exact rfl); (case k8 => k_asm); (case k9 => k_asm); (case ka => rfl); (case kb => rfl); (case kc => exact Nat.le_of_ble_eq_true rfl); (case e0 => assumption); (case e1 => assumption); (case e2 => assumption); (case e3 => assumption); (case e4 => assumption); k_whole; intro _ _ _ _ _ _ _; (try dsimp only); (try k_fold))) | ((with_reducible show wpAny _ _ (exec (Stmt.For (Expr.Tuple _ _ _) (Expr.Call _ _ _ _) _ _ _) _) _ _ _); k_here; k_dflt (refine' for_src ?k1 ?_; (case k1 => k_asm))) | (k_here; (with_reducible show wpAny _ _ (setItem (Value.ref _) (Value.int (Nat.cast _) _) _) _ _ _); k_dflt (refine set_nat (by k_asm) (by k_asm) (by assumption) (by first | assumption | omega) (by k_upd) ?_); intro _ _ _) | (k_here; (with_reducible show wpAny _ _ (subscriptTail _ _ (Value.ref _) (Value.int (Nat.cast _) _)) _ _ _); (refine item_at (s := ⟨_, _, _, _, _⟩) (by k_asm) (by walk_at "MY mem") (by first | assumption | omega) (by assumption) ?_)) | walk1 | (dsimp only; walk1) | (leave1; try dsimp only) | fail "no step"))
    rename Fr _ _ _ _ => F9
    rename News _ _ _ _ => N9
    rename ∃ k : SK, _ => hr9
    obtain ⟨k, hk1, rfl, hk2, hk3, hk4⟩ := hr9
    refine hPP1 _ _ <| CEnd.intro (ledAll w (ks ++ [k]) ++ ((L1 + 1, o1) :: news)) F9 N9 (fun p hp => hk2 p (sub_comp p hp)) (fun p hp => ?_) ⟨ks ++ [k], rfl, by simp, ?_, Sep.snoc hS (fun p hp => hk3 p (.tail _ (.tail _ (.tail _ hp)))) hk4⟩
    · exact off_comp off (hk3 _ (.head _)) (hk3 _ (.tail _ (.head _))) (hk3 _ (.tail _ (.tail _ (.head _)))) hk4 p hp
    · rw [List.map_append, habs, take_snoc hr, List.map_append, List.map_singleton, List.map_singleton, hk1]; rfl
  · rintro D h tk0 ys nw ⟨ks, rfl, rfl, habs, hS⟩ F2 N2 offD ltD
    rw [hv.1, List.take_length] at habs
    have hvl := hv.1
    have hm2 : (rl, listOf vals.toArray rn) ∈ (L1 + 1, o1) :: news := .tail _ hm
    (repeat' (first | (k_unfold; (try dsimp only)) | (k_end; wrow_close) | ((with_reducible show wpAny _ _ (call _ _) _ _ _); k_here; (try dsimp only); (with_reducible show wpAny _ _ (call (Value.ref 146) _) _ _ _); k_dflt (refine' Spec.callB (seeker_of_spec _ _ _ _ _ _ _ _ _ _ _ _ ?e0 ?e1 ?e2 ?e3 ?e4) ?k1 ?k2 ?k3 ?k4 ?k5 ?k6 ?k7 ?k8 ?k9 ?ka ?kb ?kc ?_; (case k1 => k_asm); (case k2 => k_asm); (case k3 => k_asm); (case k4 => k_asm); (case k5 => k_asm); (case k6 => first | assumption | exact rfl); (case k7 => first | assumption | exact rfl); (case k8 => k_asm); (case k9 => k_asm); (case ka => rfl); (case kb => rfl); (case kc => exact Nat.le_of_ble_eq_true rfl); (case e0 => assumption); (case e1 => assumption); (case e2 => assumption); (case e3 => assumption); (case e4 => assumption); k_whole; intro _ _ _ _ _ _ _; (try dsimp only); (try k_fold))) | ((with_reducible show wpAny _ _ (exec (Stmt.For (Expr.Tuple _ _ _) (Expr.Call _ _ _ _) _ _ _) _) _ _ _); k_here; k_dflt (refine' for_src ?k1 ?_; (case k1 => k_asm))) | (k_here; (with_reducible show wpAny _ _ (setItem (Value.ref _) (Value.int (Nat.cast _) _) _) _ _ _); k_dflt (refine set_nat (by k_asm) (by k_asm) (by assumption) (by first | assumption | omega) (by k_upd) ?_); intro _ _ _) | (k_here; (with_reducible show wpAny _ _ (subscriptTail _ _ (Value.ref _) (Value.int (Nat.cast _) _)) _ _ _); (refine item_at (s := ⟨_, _, _, _, _⟩) (by k_asm) (by walk_at "MY mem") (by first | assumption | omega) (by assumption) ?_)) | walk1 | (dsimp only; walk1) | (leave1; try dsimp only) | fail "no step"))
    rename Fr _ _ _ _ => F3
    rename News _ _ _ _ => N3
    rename_i e ht1 lt1 c ht2 lt2 ht3
    have hks : ∀ k ∈ ks, ∃ r ∈ rows, r.fresh o = k.abs := fun k hk => by
      have : k.abs ∈ rows.map (Row.fresh o) := habs ▸ List.mem_map_of_mem hk
      obtain ⟨r, h1, h2⟩ := List.mem_map.mp this
      exact ⟨r, h1, h2⟩
    have hkl : ks.length = rows.length := by simpa using congrArg List.length habs
    have hcl : ∀ p ∈ (D, lst (ks.map fun k => Value.ref k.x)) :: (ledAll w ks ++ (L1 + 1, o1) :: news), p.1 < c := fun p hp => lt2 p (.tail _ hp)
    have S3 : Sep (ks.map SK.ad) ((c, listOf (List.replicate vals.length (.int 0 tk0)).toArray 0) :: (D, lst (ks.map fun k => Value.ref k.x)) :: (L1 + 1, o1) :: news) := by
      refine Sep.cons (Sep.cons hS fun a ha => ?_) fun a ha => ?_
      · obtain ⟨_, o2, h2⟩ := ad_in (w := w) ha
        exact Ne.symm (offD _ (List.mem_append_left _ h2))
      · obtain ⟨_, o2, h2⟩ := ad_in (w := w) ha
        exact Nat.ne_of_gt (hcl _ (.tail _ (List.mem_append_left _ h2)))
    refine Spec.callB (fits_in_spec w o ks to D _ _ ho (by omega) (fun k hk => ?_) (fun k hk => ?_) (.tail _ (.head _)) S3) (by k_asm) F3 (by k_asm) (cb_drop N3 tal_sub) (by k_asm) rfl rfl hdp hun rfl rfl (Nat.le_of_ble_eq_true rfl) ?_
    · obtain ⟨r, hr, e1⟩ := hks k hk
      rw [← e1]; exact (hok r hr).len
    · obtain ⟨r, hr, e1⟩ := hks k hk
      rw [← e1]; exact fresh_width (hok r hr)
    intro v9 nw9 h9 tk9 hr9 F9 N9
    obtain ⟨fa, fn, vals2, tl, ks', rfl, hfa, hsub, hpairs, hlt, htl, had', hab'⟩ := hr9
    have N10 := cb_drop N9 (tal_sub2 hfa hsub)
    have hR : ∀ p ∈ (fa, listOf vals2.toArray fn) :: (tl ++ ((D, lst (ks.map fun k => Value.ref k.x)) :: (L1 + 1, o1) :: news)), p.1 ≠ c := by
      have hcf : c < fa := hlt (c, _) (List.mem_append_right _ (.head _))
      intro p hp
      rcases List.mem_cons.mp hp with rfl | hp
      · exact Nat.ne_of_gt hcf
      rcases List.mem_append.mp hp with hp | hp
      · exact Nat.ne_of_gt (Nat.lt_trans hcf (htl p hp))
      rcases List.mem_cons.mp hp with rfl | hp
      · exact Nat.ne_of_lt (hcl _ (.head _))
      · exact Nat.ne_of_lt (hcl _ (.tail _ (List.mem_append_right _ hp)))
    clear hsub N9
    rw [habs] at hpairs
    change PairsIn tl vals2 (fitsP o rows) at hpairs
    (repeat' (first | (k_unfold; (try dsimp only)) | (k_end; wrow_close) | ((with_reducible show wpAny _ _ (call _ _) _ _ _); k_here; (try dsimp only); (with_reducible show wpAny _ _ (call (Value.ref 146) _) _ _ _); k_dflt (refine' Spec.callB (seeker_of_spec _ _ _ _ _ _ _ _ _ _ _ _ ?e0 ?e1 ?e2 ?e3 ?e4) ?k1 ?k2 ?k3 ?k4 ?k5 ?k6 ?k7 ?k8 ?k9 ?ka ?kb ?kc ?_; (case k1 => k_asm); (case k2 => k_asm); (case k3 => k_asm); (case k4 => k_asm); (case k5 => k_asm); (case k6 => first | assumption | exact rfl); (case k7 => first | assumption | exact rfl); (case k8 => k_asm); (case k9 => k_asm); (case ka => rfl); (case kb => rfl); (case kc => exact Nat.le_of_ble_eq_true rfl); (case e0 => assumption); (case e1 => assumption); (case e2 => assumption); (case e3 => assumption); (case e4 => assumption); k_whole; intro _ _ _ _ _ _ _; (try dsimp only); (try k_fold))) | ((with_reducible show wpAny _ _ (exec (Stmt.For (Expr.Tuple _ _ _) (Expr.Call _ _ _ _) _ _ _) _) _ _ _); k_here; k_dflt (refine' for_src ?k1 ?_; (case k1 => k_asm))) | (k_here; (with_reducible show wpAny _ _ (setItem (Value.ref _) (Value.int (Nat.cast _) _) _) _ _ _); k_dflt (refine set_nat (by k_asm) (by k_asm) (by assumption) (by first | assumption | omega) (by k_upd) ?_); intro _ _ _) | (k_here; (with_reducible show wpAny _ _ (subscriptTail _ _ (Value.ref _) (Value.int (Nat.cast _) _)) _ _ _); (refine item_at (s := ⟨_, _, _, _, _⟩) (by k_asm) (by walk_at "MY mem") (by first | assumption | omega) (by assumption) ?_)) | walk1 | (dsimp only; walk1) | (leave1; try dsimp only) | fail "no step"))
    rename_i t1c
    refine ⟨vals2.length, fun i v => vals2[i]? = some v, (fa, listOf vals2.toArray fn) :: (tl ++ ((D, lst (ks.map fun k => Value.ref k.x)) :: (L1 + 1, o1) :: news)), _, _, CountJ o rows c D rl ((fa, listOf vals2.toArray fn) :: (tl ++ ((D, lst (ks.map fun k => Value.ref k.x)) :: (L1 + 1, o1) :: news))),
      Src.list rfl (fun p hp => N10 p (.tail _ hp)) (.head _), F9, N10, ?_, ?_, ?_, ?_⟩
    · rintro i m nw ⟨cv, cn, u1, u2, _, rfl, _⟩ p hp
      exact .tail _ hp
    · exact ⟨_, 0, none, none, ov_start (ov_start ov_nil), rfl, by rw [hvl]; exact counts_zero _ _⟩
    · rintro i v I oI m1 nw1 h1 tk1 hi hv2 hJ hI off F6 N6
      refine opq_turn fun PP2 hPP2 => ?_
      obtain ⟨cv, cn, u1, u2, eJ, eK, hcv⟩ := hJ
      subst m1
      subst nw1
      obtain ⟨q, hq, T9, t1, t2, rfl, hT9⟩ := hpairs.get hv2
      have hqb := fitsF_bound o (o.length + 1) 0 (rows.map (Row.fresh o)) q (List.mem_of_getElem? hq)
      rw [List.length_map] at hqb
      have hT : IsTup h1 T9 #[.int (q.1 : Int) t1, .int (q.2 : Int) t2] := ⟨_, (N6 _ (.tail _ (.tail _ (.tail _ (List.mem_append_left _ hT9))))).1, rfl, _, rfl⟩
      have hcl2 : cv.length = rows.length := by rw [hcv.1, countsOf_len]
      obtain ⟨n0, hn0⟩ : ∃ n0, (countsOf rows.length ((fitsP o rows).take i))[q.2]? = some n0 := ⟨_, List.getElem?_eq_getElem (by rw [countsOf_len]; exact hqb.2)⟩
      obtain ⟨vj, hvj, tj, rfl⟩ := hcv.get' hn0
      have hj1 : q.2 < cv.length := by omega
      have hIc : I ≠ c := Ne.symm (off _ (.head _))
      (repeat' (first | (k_unfold; (try dsimp only)) | (k_end; wrow_close) | ((with_reducible show wpAny _ _ (call _ _) _ _ _); k_here; (try dsimp only); (with_reducible show wpAny _ _ (call (Value.ref 146) _) _ _ _); k_dflt (refine' Spec.callB (seeker_of_spec _ _ _ _ _ _ _ _ _ _ _ _ ?e0 ?e1 ?e2 ?e3 ?e4) ?k1 ?k2 ?k3 ?k4 ?k5 ?k6 ?k7 ?k8 ?k9 ?ka ?kb ?kc ?_; (case k1 => k_asm); (case k2 => k_asm); (case k3 => k_asm); (case k4 => k_asm); (case k5 => k_asm); (case k6 => first | assumption | exact rfl); (case k7 => first | assumption | exact rfl); (case k8 => k_asm); (case k9 => k_asm); (case ka => rfl); (case kb => rfl); (case kc => exact Nat.le_of_ble_eq_true rfl); (case e0 => assumption); (case e1 => assumption); (case e2 => assumption); (case e3 => assumption); (case e4 => assumption); k_whole; intro _ _ _ _ _ _ _; (try dsimp only); (try k_fold))) | ((with_reducible show wpAny _ _ (exec (Stmt.For (Expr.Tuple _ _ _) (Expr.Call _ _ _ _) _ _ _) _) _ _ _); k_here; k_dflt (refine' for_src ?k1 ?_; (case k1 => k_asm))) | (k_here; (with_reducible show wpAny _ _ (setItem (Value.ref _) (Value.int (Nat.cast _) _) _) _ _ _); k_dflt (refine set_nat (by k_asm) (by k_asm) (by assumption) (by first | assumption | omega) (by k_upd) ?_); intro _ _ _) | (k_here; (with_reducible show wpAny _ _ (subscriptTail _ _ (Value.ref _) (Value.int (Nat.cast _) _)) _ _ _); (refine item_at (s := ⟨_, _, _, _, _⟩) (by k_asm) (by walk_at "MY mem") (by first | assumption | omega) (by assumption) ?_)) | walk1 | (dsimp only; walk1) | (leave1; try dsimp only) | fail "no step"))
      rename Fr _ _ _ _ => F7
      rename News _ _ _ _ => N7
      simp only [ov_pt] at F7
      refine hPP2 _ _ <| TEnd.next _ F7 N7 (fun p hp => hp) (fun p hp => ?_) ⟨_, cn, _, _, rfl, rfl, ?_⟩
      · rcases List.mem_cons.mp hp with rfl | hp
        · exact Ne.symm hIc
        · exact off p (.tail _ hp)
      · rw [take_snoc hq, countsOf_snoc hn0]
        exact hcv.set ⟨_, rfl⟩
    · rintro m1 nw1 h1 tk1 hJ F6 N6
      obtain ⟨cv, cn, u1, u2, eJ, eK, hcv⟩ := hJ
      subst m1
      subst nw1
      have hpl : vals2.length = (fitsP o rows).length := hpairs.length
      rw [hpl, List.take_length] at hcv
      (repeat' (first | (k_unfold; (try dsimp only)) | (k_end; wrow_close) | ((with_reducible show wpAny _ _ (call _ _) _ _ _); k_here; (try dsimp only); (with_reducible show wpAny _ _ (call (Value.ref 146) _) _ _ _); k_dflt (refine' Spec.callB (seeker_of_spec _ _ _ _ _ _ _ _ _ _ _ _ ?e0 ?e1 ?e2 ?e3 ?e4) ?k1 ?k2 ?k3 ?k4 ?k5 ?k6 ?k7 ?k8 ?k9 ?ka ?kb ?kc ?_; (case k1 => k_asm); (case k2 => k_asm); (case k3 => k_asm); (case k4 => k_asm); (case k5 => k_asm); (case k6 => first | assumption | exact rfl); (case k7 => first | assumption | exact rfl); (case k8 => k_asm); (case k9 => k_asm); (case ka => rfl); (case kb => rfl); (case kc => exact Nat.le_of_ble_eq_true rfl); (case e0 => assumption); (case e1 => assumption); (case e2 => assumption); (case e3 => assumption); (case e4 => assumption); k_whole; intro _ _ _ _ _ _ _; (try dsimp only); (try k_fold))) | ((with_reducible show wpAny _ _ (exec (Stmt.For (Expr.Tuple _ _ _) (Expr.Call _ _ _ _) _ _ _) _) _ _ _); k_here; k_dflt (refine' for_src ?k1 ?_; (case k1 => k_asm))) | (k_here; (with_reducible show wpAny _ _ (setItem (Value.ref _) (Value.int (Nat.cast _) _) _) _ _ _); k_dflt (refine set_nat (by k_asm) (by k_asm) (by assumption) (by first | assumption | omega) (by k_upd) ?_); intro _ _ _) | (k_here; (with_reducible show wpAny _ _ (subscriptTail _ _ (Value.ref _) (Value.int (Nat.cast _) _)) _ _ _); (refine item_at (s := ⟨_, _, _, _, _⟩) (by k_asm) (by walk_at "MY mem") (by first | assumption | omega) (by assumption) ?_)) | walk1 | (dsimp only; walk1) | (leave1; try dsimp only) | fail "no step"))
      exact hret _ _ _ _ ⟨fun p hp => .tail _ (.tail _ (List.mem_append_right _ (.tail _ (.tail _ hp)))), c, cn, cv, rfl, .head _, hcv⟩ (by assumption) (by assumption)
end
section
theorem toNat_sum (a b : Nat) : ((a : Int) + (b : Int)).toNat = a + b := by omega
theorem cut_len {b g : List UInt8} {a s n : Nat} (hb : b.length = n) (h : a + s ≤ n) (hg : g.length = s) : (List.take a b ++ g ++ List.drop (a + s) b).length = n := by
  simp only [List.length_append, List.length_take, List.length_drop]; omega
theorem take_le {b : List UInt8} {n : Nat} (h : b.length ≤ 1000) : (b.take n).length ≤ 1000 := Nat.le_trans (List.length_take_le' n b) h
theorem drop_le {b : List UInt8} {n : Nat} (h : b.length ≤ 1000) : (b.drop n).length ≤ 1000 := by rw [List.length_drop]; exact Nat.le_trans (Nat.sub_le _ _) h
theorem take_app_le {b g : List UInt8} {n : Nat} (h : n + g.length ≤ 1000) : (b.take n ++ g).length ≤ 1000 := by
  rw [List.length_append, List.length_take]; omega
theorem pull_at {w : World} {h₀ h : Heap} {L : Addr} {ks pre post : List SK} {k : SK} {a b c : Addr × Obj} {R : Led} (N : News h₀ L h (a :: b :: c :: (ledAll w ks ++ R))) (hsp : ks = pre ++ k :: post) :
    News h₀ L h (k.led w ++ (a :: b :: c :: (ledAll w pre ++ (ledAll w post ++ R)))) := by
  subst hsp
  exact cb_drop N (pull_out (tl := []))
theorem push_at {w : World} {ks pre post : List SK} {k : SK} {a b c : Addr × Obj} {R : Led} (hsp : ks = pre ++ k :: post) :
    ∀ p ∈ a :: b :: c :: (ledAll w ks ++ R), p ∈ k.led w ++ (a :: b :: c :: (ledAll w pre ++ (ledAll w post ++ R))) := by
  subst hsp
  exact push_in (tl := [])
theorem rep_sub {w : World} {ks : List SK} {d : Addr × Obj} {R : Led} : ∀ p ∈ ledAll w ks ++ (d :: R), p ∈ d :: (ledAll w ks ++ R) := by
  intro p hp
  simp only [List.mem_append, List.mem_cons] at hp ⊢
  grind
theorem rep_sub2 {w : World} {ks : List SK} {c d f : Addr × Obj} {R tl nw : Led} (hf : f ∈ nw) (h : ∀ p ∈ tl ++ (ledAll w ks ++ (d :: c :: R)), p ∈ nw) : ∀ p ∈ c :: f :: (tl ++ (ledAll w ks ++ (d :: R))), p ∈ nw := by
  intro p hp
  rcases List.mem_cons.mp hp with rfl | hp
  · exact h _ (List.mem_append_right _ (List.mem_append_right _ (.tail _ (.head _))))
  rcases List.mem_cons.mp hp with rfl | hp
  · exact hf
  refine h p ?_
  simp only [List.mem_append, List.mem_cons] at hp ⊢
  grind
theorem pull_at3 {w : World} {h₀ h : Heap} {L : Addr} {ks pre post : List SK} {k : SK} {a b c : Addr × Obj} {tl R : Led} (N : News h₀ L h (a :: b :: c :: (tl ++ (ledAll w ks ++ R)))) (hsp : ks = pre ++ k :: post) :
    News h₀ L h (k.led w ++ (a :: b :: c :: (tl ++ (ledAll w pre ++ (ledAll w post ++ R))))) := by
  subst hsp
  exact cb_drop N pull_out
theorem push_at3 {w : World} {h₀ h : Heap} {L : Addr} {ks pre post : List SK} {k : SK} {a b c : Addr × Obj} {tl R : Led} (N : News h₀ L h (k.led w ++ (a :: b :: c :: (tl ++ (ledAll w pre ++ (ledAll w post ++ R)))))) (hsp : ks = pre ++ k :: post) :
    News h₀ L h (a :: b :: c :: (tl ++ (ledAll w ks ++ R))) := by
  subst hsp
  exact cb_drop N push_in
theorem fresh_width2 {o : List UInt8} {r : Row} (h : r.ok) : (r.fresh o).width ≤ 1000 := by
  have hp := h.len
  unfold Row.fresh AS.fresh AS.width
  cases e : r.kind <;> simp only [] <;> first | exact hp | exact Nat.le_of_ble_eq_true rfl
def exchL (o : List UInt8) (rows : List Row) (qs : List (Nat × Nat)) : List UInt8 :=
  qs.foldl (fun b q => match rows[q.2]? with
    | some r => b.take q.1 ++ r.given ++ b.drop (q.1 + (r.fresh o).width)
    | none => b) o
def exch (o : List UInt8) (rows : List Row) : List UInt8 := exchL o rows (fitsP o rows)
theorem exchL_snoc (o : List UInt8) (rows : List Row) (qs : List (Nat × Nat)) (q : Nat × Nat) : exchL o rows (qs ++ [q]) = match rows[q.2]? with
    | some r => (exchL o rows qs).take q.1 ++ r.given ++ (exchL o rows qs).drop (q.1 + (r.fresh o).width)
    | none => exchL o rows qs := by
  unfold exchL
  rw [List.foldl_append]
  rfl
theorem reach_en (s : AS) (a : Nat) : (s.reach a).en = s.en := by
  unfold AS.reach
  split <;> rfl
theorem fit_room {o : List UInt8} {s : AS} {a : Nat} (h : fitS o s a = true) : a + s.width ≤ s.en := by
  unfold fitS at h
  split at h
  · cases h
  · rename_i hn
    simp only [not_or] at hn
    omega
theorem fitsEnd_keeps (o : List UInt8) : ∀ (n a : Nat) (ss : List AS), (fitsEnd o n a ss).map AS.width = ss.map AS.width ∧ (fitsEnd o n a ss).map AS.wanted = ss.map AS.wanted
  | 0, _, _ => ⟨rfl, rfl⟩
  | n + 1, a, ss => by
    have h1 : (reachAll a ss).map AS.width = ss.map AS.width := by
      unfold reachAll; rw [List.map_map]; exact List.map_congr_left fun s _ => (reach_wanted s a).2.2
    have h2 : (reachAll a ss).map AS.wanted = ss.map AS.wanted := by
      unfold reachAll; rw [List.map_map]; exact List.map_congr_left fun s _ => (reach_wanted s a).1
    rw [fitsEnd]
    split
    · cases e : takerIn o a (reachAll a ss) with
      | none =>
        simp only []
        obtain ⟨a1, a2⟩ := fitsEnd_keeps o n (a + 1) (reachAll a ss)
        exact ⟨a1.trans h1, a2.trans h2⟩
      | some i =>
        simp only []
        obtain ⟨a1, a2⟩ := fitsEnd_keeps o n (a + ((reachAll a ss).getD i AS.nil).width) ((reachAll a ss).set i (((reachAll a ss).getD i AS.nil).took a))
        have hi := takerIn_lt e
        refine ⟨a1.trans (Eq.trans ?_ h1), a2.trans (Eq.trans ?_ h2)⟩
        · rw [List.map_set]
          apply List.ext_getElem?
          intro j
          by_cases hj : i = j
          · subst hj
            rw [List.getElem?_set_self (by rw [List.length_map]; exact hi), List.getElem?_map, List.getD_eq_getElem?_getD, List.getElem?_eq_getElem hi]
            rfl
          · rw [List.getElem?_set_ne hj]
        · rw [List.map_set]
          apply List.ext_getElem?
          intro j
          by_cases hj : i = j
          · subst hj
            rw [List.getElem?_set_self (by rw [List.length_map]; exact hi), List.getElem?_map, List.getD_eq_getElem?_getD, List.getElem?_eq_getElem hi]
            rfl
          · rw [List.getElem?_set_ne hj]
    · exact ⟨rfl, rfl⟩
theorem fitsF_room (o : List UInt8) : ∀ (n a : Nat) (ss : List AS), (∀ s ∈ ss, s.en ≤ o.length) → ∀ q ∈ fitsF o n a ss, ∃ wd, (ss.map AS.width)[q.2]? = some wd ∧ q.1 + wd ≤ o.length
  | 0, _, _, _ => fun _ h => by simp [fitsF] at h
  | n + 1, a, ss, he => by
    intro q hq
    have h1 : (reachAll a ss).map AS.width = ss.map AS.width := by
      unfold reachAll; rw [List.map_map]; exact List.map_congr_left fun s _ => (reach_wanted s a).2.2
    have he2 : ∀ s ∈ reachAll a ss, s.en ≤ o.length := by
      intro s hs
      obtain ⟨s0, h0, rfl⟩ := List.mem_map.mp hs
      rw [reach_en]; exact he s0 h0
    rw [fitsF] at hq
    split at hq
    · cases e : takerIn o a (reachAll a ss) with
      | none =>
        simp only [e] at hq
        have := fitsF_room o n _ _ he2 q hq
        rw [h1] at this
        exact this
      | some i =>
        simp only [e] at hq
        have hi := takerIn_lt e
        have hfit : fitS o ((reachAll a ss)[i]) a = true := by
          unfold takerIn at e
          exact (List.findIdx?_eq_some_iff_getElem.mp e).2.1
        rcases List.mem_cons.mp hq with rfl | hq
        · refine ⟨(reachAll a ss)[i].width, ?_, Nat.le_trans (fit_room hfit) (he2 _ (List.getElem_mem hi))⟩
          rw [← h1, List.getElem?_map, List.getElem?_eq_getElem hi]; rfl
        · have hw : ((reachAll a ss).set i (((reachAll a ss).getD i AS.nil).took a)).map AS.width = ss.map AS.width := by
            rw [← h1, List.map_set]
            apply List.ext_getElem?
            intro j
            by_cases hj : i = j
            · subst hj
              rw [List.getElem?_set_self (by rw [List.length_map]; exact hi), List.getElem?_map, List.getD_eq_getElem?_getD, List.getElem?_eq_getElem hi]
              rfl
            · rw [List.getElem?_set_ne hj]
          have := fitsF_room o n _ _ (fun s hs => by
            rcases List.mem_or_eq_of_mem_set hs with hs | rfl
            · exact he2 s hs
            · rw [List.getD_eq_getElem?_getD, List.getElem?_eq_getElem hi]
              show (reachAll a ss)[i].en ≤ o.length
              exact he2 _ (List.getElem_mem hi)) q hq
          rw [hw] at this
          exact this
    · simp at hq
theorem firstAt_le {o b : List UInt8} {a : Nat} (h : firstAt o b = some a) : a ≤ o.length := by
  unfold firstAt at h
  have := List.mem_of_find?_eq_some h
  exact Nat.le_of_lt (List.mem_range.mp this)
theorem endS_le (o : List UInt8) (b : Option (List UInt8)) : endS o b ≤ o.length := by
  cases b with
  | none => exact Nat.le_refl _
  | some b =>
    show (match firstAt o b with | none => o.length | some a => a) ≤ o.length
    cases e : firstAt o b with
    | none => exact Nat.le_refl _
    | some a => exact firstAt_le e
/-- the exchanging for -/
inductive ExchJ (o : List UInt8) (rows : List Row) (cO D rl : Addr) (v2 : Option Value) (R : Led) (i : Nat) (m : Ns) (nw : Led) : Prop
  | intro (b : List UInt8) (tb : Tok) (oc : Obj) (u1 u2 : Option Value)
    (em : m = ov [(Str.ofString "number", u1), (Str.ofString "seeker", v2), (Str.ofString "at", u2)] (fun y => if y = Str.ofString "seekers" then some (.ref D) else if y = Str.ofString "rows" then some (.ref rl) else none))
    (en : nw = (cO, oc) :: R) (hc : oc.data = .cell (some (.bytes (List.toArray b) tb))) (hb : b = exchL o rows ((fitsP o rows).take i)) (hl : b.length = o.length) : ExchJ o rows cO D rl v2 R i m nw
set_option maxRecDepth 100000 in
set_option maxHeartbeats 8000000 in
theorem replaced_in_spec (w : World) (o : List UInt8) (rows : List Row) (to : Tok) (rl : Addr) (rn : Nat) (vals : List Value) (news : Led) (ho : o.length ≤ 1000) (hrl : rows.length ≤ 100) (hok : ∀ r ∈ rows, r.ok) (hm : (rl, listOf vals.toArray rn) ∈ news) (hv : AllIn (XRow news) vals rows) (hg : ∀ r ∈ rows, r.given.length = (r.fresh o).width) :
    Spec w 8 163 [.bytes o.toArray to, .ref rl] news (fun v news' => (∀ p ∈ news, p ∈ news') ∧ ∃ t, v = .bytes (exch o rows).toArray t) := by
  unfold Spec
  intro dp un gd env outer A₀ mean mg mb base h₀ L m s Q E B F X N T hf hk hdp hun hret
  ((have fill : (∀ w : World, (Mine.hdHeap w.params) = (Mine.hdHeap w.params)) ∧ PySem.Challenge.rw_og0077_01.Holds → True := by ((first | k_fill | skip); exact fun _ => trivial)); clear fill)
  have hE : Enter [(Str.ofString "octets", .bytes o.toArray to), (Str.ofString "rows", .ref rl)] (fun y => if y = Str.ofString "rows" then some (.ref rl) else none) := ⟨⟩
  (k_dflt (refine' enter_cellsN (by assumption) ?k1 ?k2 ?k3 ?k4 ?k5 ?kF ?kK ?k6 ?k7 ?k8 ?k9 ?kB ?kD ?km ?_ ?c2 ?c3 ?c4; (case kF => assumption); (case kK => assumption); (case k1 => k_asm); (case k2 => k_asm); (case k3 => k_asm); (case k4 => k_asm); (case k5 => k_asm); (case k6 => k_is); (case k7 => k_is); (case k8 => ktr_room); (case k9 => exact BindsTo.of_eq rfl); (case kB => exact rfl); (case kD => decide +kernel); (case km => intro _; exact rfl); (case c2 => exact rfl); (case c3 => exact rfl); (case c4 => exact rfl); k_whole; intro _ _ _ _ _ _ _ N' Y' _ _ _ _; k_cells Y'; (try simp only [List.cons_append, List.nil_append] at N'); (try dsimp only); (try k_fold)))
  (repeat' (first | (k_unfold; (try dsimp only)) | (k_end; wrow_close) | ((with_reducible show wpAny _ _ (call _ _) _ _ _); k_here; (try dsimp only); (with_reducible show wpAny _ _ (call (Value.ref 146) _) _ _ _); k_dflt (refine' Spec.callB (seeker_of_spec _ _ _ _ _ _ _ _ _ _ _ _ ?e0 ?e1 ?e2 ?e3 ?e4) ?k1 ?k2 ?k3 ?k4 ?k5 ?k6 ?k7 ?k8 ?k9 ?ka ?kb ?kc ?_; (case k1 => k_asm); (case k2 => k_asm); (case k3 => k_asm); (case k4 => k_asm); (case k5 => k_asm); (case k6 => first | assumption | exact rfl); (case k7 => first | assumption | exact rfl); (case k8 => k_asm); (case k9 => k_asm); (case ka => rfl); (case kb => rfl); (case kc => exact Nat.le_of_ble_eq_true rfl); (case e0 => assumption); (case e1 => assumption); (case e2 => assumption); (case e3 => assumption); (case e4 => assumption); k_whole; intro _ _ _ _ _ _ _; (try dsimp only); (try k_fold))) | ((with_reducible show wpAny _ _ (call _ _) _ _ _); k_here; (try dsimp only); (with_reducible show wpAny _ _ (call (Value.ref 111) _) _ _ _); k_dflt (refine' Spec.callB (width_at _ _ _ _ ?e0 ?e1) ?k1 ?k2 ?k3 ?k4 ?k5 ?k6 ?k7 ?k8 ?k9 ?ka ?kb ?kc ?_; (case k1 => k_asm); (case k2 => k_asm); (case k3 => k_asm); (case k4 => k_asm); (case k5 => k_asm); (case k6 => first | assumption | exact rfl); (case k7 => first | assumption | exact rfl); (case k8 => k_asm); (case k9 => k_asm); (case ka => rfl); (case kb => rfl); (case kc => exact Nat.le_of_ble_eq_true rfl); (case e0 => first | exact rfl | assumption); (case e1 => assumption); k_whole; intro v9 nw9 h9 tk9 hr9 F9 N9; (obtain ⟨e9, t8, e8⟩ := hr9; subst e8; replace N9 := cb_drop N9 e9; clear e9); revert nw9 h9 tk9 F9 N9 t8; intros; (try dsimp only); (try k_fold))) | (k_here; (with_reducible show wpAny _ _ (call (Value.type "enumerate") [Value.ref _]) _ _ _); refine enum_call ?_) | (k_here; (with_reducible show wpAny _ _ (exec (Stmt.For _ (Expr.Call (Expr.Name (Str.ofString "enumerate") _) _ _ _) _ _ _) _) _ _ _); k_dflt (refine' for_turns ?k1 ?_; (case k1 => k_asm))) | ((with_reducible show wpAny _ _ (exec (Stmt.For (Expr.Tuple _ _ _) (Expr.Call _ _ _ _) _ _ _) _) _ _ _); k_here; k_dflt (refine' for_src ?k1 ?_; (case k1 => k_asm))) | ((with_reducible show wpAny _ _ (binaryOp Operator.Add (Value.bytes _ _) (Value.bytes _ _)) _ _ _); k_here; (refine add_b (by first | assumption | exact take_le (by assumption) | exact drop_le (by assumption) | exact take_app_le (by assumption) | (simp only [List.length_append, List.length_take, List.length_drop]; omega)) (by first | assumption | exact take_le (by assumption) | exact drop_le (by assumption) | exact take_app_le (by assumption) | (simp only [List.length_append, List.length_take, List.length_drop]; omega)) ?_); intro _ _) | (k_here; (with_reducible show wpAny _ _ (subscriptTail _ (Expr.Slice _ none none _) (Value.bytes (List.toArray _) _) (Value.ref _)) _ _ _); (refine cut_from (s := ⟨_, _, _, _, _⟩) (by k_asm) (by k_asm) (by first | assumption | omega) (by first | exact Int.add_nonneg (Int.natCast_nonneg _) (Int.natCast_nonneg _) | omega) ?_); intro _ _ _ _ _) | (k_here; (with_reducible show wpAny _ _ (subscriptTail _ (Expr.Slice none _ none _) (Value.bytes (List.toArray _) _) (Value.ref _)) _ _ _); (refine cut_to (s := ⟨_, _, _, _, _⟩) (by k_asm) (by k_asm) (by first | assumption | omega) ?_); intro _ _ _ _ _) | (k_here; (with_reducible show wpAny _ _ (subscriptTail _ _ (Value.ref _) (Value.int 2 _)) _ _ _); (refine tup_at (i := 2) (s := ⟨_, _, _, _, _⟩) (by k_asm) (by walk_at "MY mem") (by decide) (by exact rfl) ?_)) | (k_here; (with_reducible show wpAny _ _ (subscriptTail _ _ (Value.ref _) (Value.int (Nat.cast _) _)) _ _ _); (refine item_at (s := ⟨_, _, _, _, _⟩) (by k_asm) (by walk_at "MY mem") (by first | assumption | omega) (by assumption) ?_)) | walk1 | (dsimp only; walk1) | (leave1; try dsimp only) | fail "no step"))
  rename Fr _ _ _ _ => F1
  rename News _ _ _ _ => N1
  rename_i g1 L1 h1 tk1 FG1 B1 X1 T1 lt1 o1 d1
  replace d1 : o1.data = .cell (some (.bytes o.toArray to)) := d1
  have hm1 : (rl, listOf vals.toArray rn) ∈ (L1 + 1, o1) :: news := .tail _ hm
  have hof := fun p (hp : p ∈ (L1 + 1, o1) :: news) => Heap.lt_size (N1 p hp).1
  refine ⟨vals.length, fun i v => vals[i]? = some v, _, _, fun i ys nw => ∃ ks : List SK, nw = ledAll w ks ++ ((L1 + 1, o1) :: news) ∧ ys = ks.map (fun k => Value.ref k.x) ∧ ks.map SK.abs = (rows.take i).map (Row.fresh o) ∧ Sep (ks.map SK.ad) ((L1 + 1, o1) :: news) ∧ ∀ a ∈ ks.map SK.ad, L1 + 1 < a.1 ∧ L1 + 1 < a.2,
    RowAt rows,
    Src.list rfl N1 hm1, F1, N1, fun s₂ => ⟨?_, ?_, ?_, ?_, ?_⟩, ?_⟩
  · rintro i ys nw ⟨ks, rfl, _⟩ p hp
    exact List.mem_append_right _ hp
  · exact ⟨[], rfl, rfl, rfl, Sep.nil, fun a ha => by simp at ha⟩
  · rw [hv.1]; exact Nat.le_trans hrl (Nat.le_of_ble_eq_true rfl)
  · intro i v C s' m' Q' E' hi hP hn hkeep h
    obtain ⟨r, hr, T1, t1, t2, t3, t4, t5, rfl, hT⟩ := hv.get hP
    refine binds_tuple [(_, _), (_, _), (_, _), (_, _), (_, _)] rfl (by decide) rfl T1 _ C s' m' Q' E' ⟨_, hkeep _ (.tail _ hT), rfl, _, rfl⟩ rfl hn (fun _ => rfl) (fun _ => rfl) fun h'' tk'' hn'' hk'' => ?_
    exact h h'' tk'' _ hn'' ⟨r, t1, t2, t4, t5, hr, rfl, rfl, rfl, rfl⟩ hk''
  · rintro i v ys nw I oI C oC D m₂ h tk E' hi hP ⟨ks, rfl, rfl, habs, hS, hL⟩ hyl hC hB F2 N2 off ne
    refine opq_test fun PP1 PN1 hPP1 hPN1 => ?_
    obtain ⟨r, t1, t2, t3, t4, hr, b1, b2, b3, b4⟩ := hB
    obtain ⟨ok1, ok2, ok3, ok4⟩ := hok r (List.mem_of_getElem? hr)
    refine wpAny_pure ?_
    simp only [if_true]
    (repeat' (first | (k_unfold; (try dsimp only)) | (k_end; wrow_close) | ((with_reducible show wpAny _ _ (call _ _) _ _ _); k_here; (try dsimp only); (with_reducible show wpAny _ _ (call (Value.ref 146) _) _ _ _); k_dflt (refine' Spec.callB (seeker_of_spec _ _ _ _ _ _ _ _ _ _ _ _ ?e0 ?e1 ?e2 ?e3 ?e4) ?k1 ?k2 ?k3 ?k4 ?k5 ?k6 ?k7 ?k8 ?k9 ?ka ?kb ?kc ?_; (case k1 => k_asm); (case k2 => k_asm); (case k3 => k_asm); (case k4 => k_asm); (case k5 => k_asm); (case k6 => first | assumption | exact rfl); (case k7 => first | assumption | exact rfl); (case k8 => k_asm); (case k9 => k_asm); (case ka => rfl); (case kb => rfl); (case kc => exact Nat.le_of_ble_eq_true rfl); (case e0 => assumption); (case e1 => assumption); (case e2 => assumption); (case e3 => assumption); (case e4 => assumption); k_whole; intro _ _ _ _ _ _ _; (try dsimp only); (try k_fold))) | ((with_reducible show wpAny _ _ (call _ _) _ _ _); k_here; (try dsimp only); (with_reducible show wpAny _ _ (call (Value.ref 111) _) _ _ _); k_dflt (refine' Spec.callB (width_at _ _ _ _ ?e0 ?e1) ?k1 ?k2 ?k3 ?k4 ?k5 ?k6 ?k7 ?k8 ?k9 ?ka ?kb ?kc ?_; (case k1 => k_asm); (case k2 => k_asm); (case k3 => k_asm); (case k4 => k_asm); (case k5 => k_asm); (case k6 => first | assumption | exact rfl); (case k7 => first | assumption | exact rfl); (case k8 => k_asm); (case k9 => k_asm); (case ka => rfl); (case kb => rfl); (case kc => exact Nat.le_of_ble_eq_true rfl); (case e0 => first | exact rfl | assumption); (case e1 => assumption); k_whole; intro v9 nw9 h9 tk9 hr9 F9 N9; (obtain ⟨e9, t8, e8⟩ := hr9; subst e8; replace N9 := cb_drop N9 e9; clear e9); revert nw9 h9 tk9 F9 N9 t8; intros; (try dsimp only); (try k_fold))) | (k_here; (with_reducible show wpAny _ _ (call (Value.type "enumerate") [Value.ref _]) _ _ _); refine enum_call ?_) | (k_here; (with_reducible show wpAny _ _ (exec (Stmt.For _ (Expr.Call (Expr.Name (Str.ofString "enumerate") _) _ _ _) _ _ _) _) _ _ _); k_dflt (refine' for_turns ?k1 ?_; (case k1 => k_asm))) | ((with_reducible show wpAny _ _ (exec (Stmt.For (Expr.Tuple _ _ _) (Expr.Call _ _ _ _) _ _ _) _) _ _ _); k_here; k_dflt (refine' for_src ?k1 ?_; (case k1 => k_asm))) | ((with_reducible show wpAny _ _ (binaryOp Operator.Add (Value.bytes _ _) (Value.bytes _ _)) _ _ _); k_here; (refine add_b (by first | assumption | exact take_le (by assumption) | exact drop_le (by assumption) | exact take_app_le (by assumption) | (simp only [List.length_append, List.length_take, List.length_drop]; omega)) (by first | assumption | exact take_le (by assumption) | exact drop_le (by assumption) | exact take_app_le (by assumption) | (simp only [List.length_append, List.length_take, List.length_drop]; omega)) ?_); intro _ _) | (k_here; (with_reducible show wpAny _ _ (subscriptTail _ (Expr.Slice _ none none _) (Value.bytes (List.toArray _) _) (Value.ref _)) _ _ _); (refine cut_from (s := ⟨_, _, _, _, _⟩) (by k_asm) (by k_asm) (by first | assumption | omega) (by first | exact Int.add_nonneg (Int.natCast_nonneg _) (Int.natCast_nonneg _) | omega) ?_); intro _ _ _ _ _) | (k_here; (with_reducible show wpAny _ _ (subscriptTail _ (Expr.Slice none _ none _) (Value.bytes (List.toArray _) _) (Value.ref _)) _ _ _); (refine cut_to (s := ⟨_, _, _, _, _⟩) (by k_asm) (by k_asm) (by first | assumption | omega) ?_); intro _ _ _ _ _) | (k_here; (with_reducible show wpAny _ _ (subscriptTail _ _ (Value.ref _) (Value.int 2 _)) _ _ _); (refine tup_at (i := 2) (s := ⟨_, _, _, _, _⟩) (by k_asm) (by walk_at "MY mem") (by decide) (by exact rfl) ?_)) | (k_here; (with_reducible show wpAny _ _ (subscriptTail _ _ (Value.ref _) (Value.int (Nat.cast _) _)) _ _ _); (refine item_at (s := ⟨_, _, _, _, _⟩) (by k_asm) (by walk_at "MY mem") (by first | assumption | omega) (by assumption) ?_)) | walk1 | (dsimp only; walk1) | (leave1; try dsimp only) | fail "no step"))
    rename Fr _ _ _ _ => F9
    rename News _ _ _ _ => N9
    rename ∃ k : SK, _ => hr9
    obtain ⟨k, hk1, rfl, hk2, hk3, hk4⟩ := hr9
    refine hPP1 _ _ <| CEnd.intro (ledAll w (ks ++ [k]) ++ ((L1 + 1, o1) :: news)) F9 N9 (fun p hp => hk2 p (sub_comp p hp)) (fun p hp => ?_) ⟨ks ++ [k], rfl, by simp, ?_, Sep.snoc hS (fun p hp => hk3 p (.tail _ (.tail _ (.tail _ hp)))) hk4, ?_⟩
    · exact off_comp off (hk3 _ (.head _)) (hk3 _ (.tail _ (.head _))) (hk3 _ (.tail _ (.tail _ (.head _)))) hk4 p hp
    · rw [List.map_append, habs, take_snoc hr, List.map_append, List.map_singleton, List.map_singleton, hk1]; rfl
    · intro a ha
      rw [List.map_append] at ha
      rcases List.mem_append.mp ha with ha | ha
      · exact hL a ha
      · rw [List.mem_singleton.mp ha]
        have := hk3 (L1 + 1, o1) (.tail _ (.tail _ (.tail _ (List.mem_append_right _ (.head _)))))
        exact ⟨Nat.lt_trans this hk4, this⟩
  · rintro D h tk0 ys nw ⟨ks, rfl, rfl, habs, hS, hL⟩ F2 N2 offD ltD
    rw [hv.1, List.take_length] at habs
    have hvl := hv.1
    have hm2 : (rl, listOf vals.toArray rn) ∈ (L1 + 1, o1) :: news := .tail _ hm
    (repeat' (first | (k_unfold; (try dsimp only)) | (k_end; wrow_close) | ((with_reducible show wpAny _ _ (call _ _) _ _ _); k_here; (try dsimp only); (with_reducible show wpAny _ _ (call (Value.ref 146) _) _ _ _); k_dflt (refine' Spec.callB (seeker_of_spec _ _ _ _ _ _ _ _ _ _ _ _ ?e0 ?e1 ?e2 ?e3 ?e4) ?k1 ?k2 ?k3 ?k4 ?k5 ?k6 ?k7 ?k8 ?k9 ?ka ?kb ?kc ?_; (case k1 => k_asm); (case k2 => k_asm); (case k3 => k_asm); (case k4 => k_asm); (case k5 => k_asm); (case k6 => first | assumption | exact rfl); (case k7 => first | assumption | exact rfl); (case k8 => k_asm); (case k9 => k_asm); (case ka => rfl); (case kb => rfl); (case kc => exact Nat.le_of_ble_eq_true rfl); (case e0 => assumption); (case e1 => assumption); (case e2 => assumption); (case e3 => assumption); (case e4 => assumption); k_whole; intro _ _ _ _ _ _ _; (try dsimp only); (try k_fold))) | ((with_reducible show wpAny _ _ (call _ _) _ _ _); k_here; (try dsimp only); (with_reducible show wpAny _ _ (call (Value.ref 111) _) _ _ _); k_dflt (refine' Spec.callB (width_at _ _ _ _ ?e0 ?e1) ?k1 ?k2 ?k3 ?k4 ?k5 ?k6 ?k7 ?k8 ?k9 ?ka ?kb ?kc ?_; (case k1 => k_asm); (case k2 => k_asm); (case k3 => k_asm); (case k4 => k_asm); (case k5 => k_asm); (case k6 => first | assumption | exact rfl); (case k7 => first | assumption | exact rfl); (case k8 => k_asm); (case k9 => k_asm); (case ka => rfl); (case kb => rfl); (case kc => exact Nat.le_of_ble_eq_true rfl); (case e0 => first | exact rfl | assumption); (case e1 => assumption); k_whole; intro v9 nw9 h9 tk9 hr9 F9 N9; (obtain ⟨e9, t8, e8⟩ := hr9; subst e8; replace N9 := cb_drop N9 e9; clear e9); revert nw9 h9 tk9 F9 N9 t8; intros; (try dsimp only); (try k_fold))) | (k_here; (with_reducible show wpAny _ _ (call (Value.type "enumerate") [Value.ref _]) _ _ _); refine enum_call ?_) | (k_here; (with_reducible show wpAny _ _ (exec (Stmt.For _ (Expr.Call (Expr.Name (Str.ofString "enumerate") _) _ _ _) _ _ _) _) _ _ _); k_dflt (refine' for_turns ?k1 ?_; (case k1 => k_asm))) | ((with_reducible show wpAny _ _ (exec (Stmt.For (Expr.Tuple _ _ _) (Expr.Call _ _ _ _) _ _ _) _) _ _ _); k_here; k_dflt (refine' for_src ?k1 ?_; (case k1 => k_asm))) | ((with_reducible show wpAny _ _ (binaryOp Operator.Add (Value.bytes _ _) (Value.bytes _ _)) _ _ _); k_here; (refine add_b (by first | assumption | exact take_le (by assumption) | exact drop_le (by assumption) | exact take_app_le (by assumption) | (simp only [List.length_append, List.length_take, List.length_drop]; omega)) (by first | assumption | exact take_le (by assumption) | exact drop_le (by assumption) | exact take_app_le (by assumption) | (simp only [List.length_append, List.length_take, List.length_drop]; omega)) ?_); intro _ _) | (k_here; (with_reducible show wpAny _ _ (subscriptTail _ (Expr.Slice _ none none _) (Value.bytes (List.toArray _) _) (Value.ref _)) _ _ _); (refine cut_from (s := ⟨_, _, _, _, _⟩) (by k_asm) (by k_asm) (by first | assumption | omega) (by first | exact Int.add_nonneg (Int.natCast_nonneg _) (Int.natCast_nonneg _) | omega) ?_); intro _ _ _ _ _) | (k_here; (with_reducible show wpAny _ _ (subscriptTail _ (Expr.Slice none _ none _) (Value.bytes (List.toArray _) _) (Value.ref _)) _ _ _); (refine cut_to (s := ⟨_, _, _, _, _⟩) (by k_asm) (by k_asm) (by first | assumption | omega) ?_); intro _ _ _ _ _) | (k_here; (with_reducible show wpAny _ _ (subscriptTail _ _ (Value.ref _) (Value.int 2 _)) _ _ _); (refine tup_at (i := 2) (s := ⟨_, _, _, _, _⟩) (by k_asm) (by walk_at "MY mem") (by decide) (by exact rfl) ?_)) | (k_here; (with_reducible show wpAny _ _ (subscriptTail _ _ (Value.ref _) (Value.int (Nat.cast _) _)) _ _ _); (refine item_at (s := ⟨_, _, _, _, _⟩) (by k_asm) (by walk_at "MY mem") (by first | assumption | omega) (by assumption) ?_)) | walk1 | (dsimp only; walk1) | (leave1; try dsimp only) | fail "no step"))
    have hkl : ks.length = rows.length := by simpa using congrArg List.length habs
    have habi : ∀ {i : Nat} {r : Row} {k : SK} {pre post : List SK}, rows[i]? = some r → ks = pre ++ k :: post → pre.length = i → k.abs = r.fresh o := by
      intro i r k pre post h1 h2 h3
      have h4 : (ks.map SK.abs)[i]? = some k.abs := by rw [h2, List.map_append, List.getElem?_append_right (by simp [h3])]; simp [h3]
      rw [habs, List.getElem?_map, h1] at h4
      exact (Option.some.inj h4).symm
    have e0 : (fun y => if y = Str.ofString "seekers" then some (.ref D) else if y = Str.ofString "rows" then some (.ref rl) else none) = ov [(Str.ofString "number", none), (Str.ofString "seeker", none), (Str.ofString "at", none)] (fun y => if y = Str.ofString "seekers" then some (.ref D) else if y = Str.ofString "rows" then some (.ref rl) else none) := ov_start (ov_start (ov_start ov_nil))
    refine ⟨ks.map (fun k => Value.ref k.x), ks.length, _, _, fun i m2 nw2 => ∃ v1 v2, m2 = ov [(Str.ofString "number", v1), (Str.ofString "seeker", v2), (Str.ofString "at", none)] (fun y => if y = Str.ofString "seekers" then some (.ref D) else if y = Str.ofString "rows" then some (.ref rl) else none) ∧ nw2 = (D, lst (ks.map fun k => Value.ref k.x)) :: (ledAll w ks ++ (L1 + 1, o1) :: news), F2, N2, ?_, ⟨none, none, e0, rfl⟩, rfl, ?_, ?_⟩
    · rintro i m2 nw2 ⟨v1, v2, _, rfl⟩
      have : lst (ks.map fun k => Value.ref k.x) = listOf (ks.map fun k => Value.ref k.x).toArray ks.length := by
        show listOf _ (ks.map fun k => Value.ref k.x).length = _
        rw [List.length_map]
      rw [← this]
      exact .head _
    · rintro i v I oE oI T9 t m2 nw2 h tk2 hvv ⟨v1, v2, rfl, rfl⟩ hI hoff hT F4 N4
      refine opq_turn fun PP2 hPP2 => ?_
      have hi : i < ks.length := by
        obtain ⟨h1, _⟩ := List.getElem?_eq_some_iff.mp hvv
        simpa using h1
      obtain ⟨pre, k, post, hsp, hpre⟩ := split_at ks i hi
      have hvk : v = .ref k.x := by
        rw [hsp, List.map_append, List.getElem?_append_right (by simp [hpre])] at hvv
        simpa [hpre] using hvv.symm
      subst hvk
      obtain ⟨r, hr⟩ : ∃ r, rows[i]? = some r := ⟨_, List.getElem?_eq_getElem (hkl ▸ hi)⟩
      have hk1 := habi hr hsp hpre
      have hrok := hok r (List.mem_of_getElem? hr)
      have hgw : r.given.length = k.abs.width := by rw [hk1]; exact hg r (List.mem_of_getElem? hr)
      have hgl : r.given.length ≤ 1000 := by rw [hg r (List.mem_of_getElem? hr)]; exact fresh_width2 hrok
      have hkw : k.abs.wanted.length ≤ 1000 := by rw [hk1]; exact hrok.len
      obtain ⟨vr, hvr, T1, t1, t2, t3, t4, t5, rfl, hT1⟩ := hv.get' hr
      have hil : i < 100000 := Nat.lt_of_lt_of_le hi (by rw [hkl]; exact Nat.le_trans hrl (Nat.le_of_ble_eq_true rfl))
      have N5 := pull_at N4 hsp
      clear N4
      (repeat' (first | (k_unfold; (try dsimp only)) | (k_end; wrow_close) | ((with_reducible show wpAny _ _ (call _ _) _ _ _); k_here; (try dsimp only); (with_reducible show wpAny _ _ (call (Value.ref 146) _) _ _ _); k_dflt (refine' Spec.callB (seeker_of_spec _ _ _ _ _ _ _ _ _ _ _ _ ?e0 ?e1 ?e2 ?e3 ?e4) ?k1 ?k2 ?k3 ?k4 ?k5 ?k6 ?k7 ?k8 ?k9 ?ka ?kb ?kc ?_; (case k1 => k_asm); (case k2 => k_asm); (case k3 => k_asm); (case k4 => k_asm); (case k5 => k_asm); (case k6 => first | assumption | exact rfl); (case k7 => first | assumption | exact rfl); (case k8 => k_asm); (case k9 => k_asm); (case ka => rfl); (case kb => rfl); (case kc => exact Nat.le_of_ble_eq_true rfl); (case e0 => assumption); (case e1 => assumption); (case e2 => assumption); (case e3 => assumption); (case e4 => assumption); k_whole; intro _ _ _ _ _ _ _; (try dsimp only); (try k_fold))) | ((with_reducible show wpAny _ _ (call _ _) _ _ _); k_here; (try dsimp only); (with_reducible show wpAny _ _ (call (Value.ref 111) _) _ _ _); k_dflt (refine' Spec.callB (width_at _ _ _ _ ?e0 ?e1) ?k1 ?k2 ?k3 ?k4 ?k5 ?k6 ?k7 ?k8 ?k9 ?ka ?kb ?kc ?_; (case k1 => k_asm); (case k2 => k_asm); (case k3 => k_asm); (case k4 => k_asm); (case k5 => k_asm); (case k6 => first | assumption | exact rfl); (case k7 => first | assumption | exact rfl); (case k8 => k_asm); (case k9 => k_asm); (case ka => rfl); (case kb => rfl); (case kc => exact Nat.le_of_ble_eq_true rfl); (case e0 => first | exact rfl | assumption); (case e1 => assumption); k_whole; intro v9 nw9 h9 tk9 hr9 F9 N9; (obtain ⟨e9, t8, e8⟩ := hr9; subst e8; replace N9 := cb_drop N9 e9; clear e9); revert nw9 h9 tk9 F9 N9 t8; intros; (try dsimp only); (try k_fold))) | (k_here; (with_reducible show wpAny _ _ (call (Value.type "enumerate") [Value.ref _]) _ _ _); refine enum_call ?_) | (k_here; (with_reducible show wpAny _ _ (exec (Stmt.For _ (Expr.Call (Expr.Name (Str.ofString "enumerate") _) _ _ _) _ _ _) _) _ _ _); k_dflt (refine' for_turns ?k1 ?_; (case k1 => k_asm))) | ((with_reducible show wpAny _ _ (exec (Stmt.For (Expr.Tuple _ _ _) (Expr.Call _ _ _ _) _ _ _) _) _ _ _); k_here; k_dflt (refine' for_src ?k1 ?_; (case k1 => k_asm))) | ((with_reducible show wpAny _ _ (binaryOp Operator.Add (Value.bytes _ _) (Value.bytes _ _)) _ _ _); k_here; (refine add_b (by first | assumption | exact take_le (by assumption) | exact drop_le (by assumption) | exact take_app_le (by assumption) | (simp only [List.length_append, List.length_take, List.length_drop]; omega)) (by first | assumption | exact take_le (by assumption) | exact drop_le (by assumption) | exact take_app_le (by assumption) | (simp only [List.length_append, List.length_take, List.length_drop]; omega)) ?_); intro _ _) | (k_here; (with_reducible show wpAny _ _ (subscriptTail _ (Expr.Slice _ none none _) (Value.bytes (List.toArray _) _) (Value.ref _)) _ _ _); (refine cut_from (s := ⟨_, _, _, _, _⟩) (by k_asm) (by k_asm) (by first | assumption | omega) (by first | exact Int.add_nonneg (Int.natCast_nonneg _) (Int.natCast_nonneg _) | omega) ?_); intro _ _ _ _ _) | (k_here; (with_reducible show wpAny _ _ (subscriptTail _ (Expr.Slice none _ none _) (Value.bytes (List.toArray _) _) (Value.ref _)) _ _ _); (refine cut_to (s := ⟨_, _, _, _, _⟩) (by k_asm) (by k_asm) (by first | assumption | omega) ?_); intro _ _ _ _ _) | (k_here; (with_reducible show wpAny _ _ (subscriptTail _ _ (Value.ref _) (Value.int 2 _)) _ _ _); (refine tup_at (i := 2) (s := ⟨_, _, _, _, _⟩) (by k_asm) (by walk_at "MY mem") (by decide) (by exact rfl) ?_)) | (k_here; (with_reducible show wpAny _ _ (subscriptTail _ _ (Value.ref _) (Value.int (Nat.cast _) _)) _ _ _); (refine item_at (s := ⟨_, _, _, _, _⟩) (by k_asm) (by walk_at "MY mem") (by first | assumption | omega) (by assumption) ?_)) | walk1 | (dsimp only; walk1) | (leave1; try dsimp only) | fail "no step"))
      rename Fr _ _ _ _ => F7
      rename News _ _ _ _ => N7
      simp only [ov_pt] at F7
      exact hPP2 _ _ <| EEnd.next _ F7 N7 (push_at hsp) (fun p hp q hq => by
        have := hoff p hp
        rcases List.mem_cons.mp hq with rfl | hq
        · exact this.1
        · rw [List.mem_singleton.mp hq]; exact this.2) ⟨_, _, rfl, rfl⟩
    · rintro m2 nw2 h2 tk2 ⟨v1, v2, rfl, rfl⟩ F4 N4
      (repeat' (first | (k_unfold; (try dsimp only)) | (k_end; wrow_close) | ((with_reducible show wpAny _ _ (call _ _) _ _ _); k_here; (try dsimp only); (with_reducible show wpAny _ _ (call (Value.ref 146) _) _ _ _); k_dflt (refine' Spec.callB (seeker_of_spec _ _ _ _ _ _ _ _ _ _ _ _ ?e0 ?e1 ?e2 ?e3 ?e4) ?k1 ?k2 ?k3 ?k4 ?k5 ?k6 ?k7 ?k8 ?k9 ?ka ?kb ?kc ?_; (case k1 => k_asm); (case k2 => k_asm); (case k3 => k_asm); (case k4 => k_asm); (case k5 => k_asm); (case k6 => first | assumption | exact rfl); (case k7 => first | assumption | exact rfl); (case k8 => k_asm); (case k9 => k_asm); (case ka => rfl); (case kb => rfl); (case kc => exact Nat.le_of_ble_eq_true rfl); (case e0 => assumption); (case e1 => assumption); (case e2 => assumption); (case e3 => assumption); (case e4 => assumption); k_whole; intro _ _ _ _ _ _ _; (try dsimp only); (try k_fold))) | ((with_reducible show wpAny _ _ (call _ _) _ _ _); k_here; (try dsimp only); (with_reducible show wpAny _ _ (call (Value.ref 111) _) _ _ _); k_dflt (refine' Spec.callB (width_at _ _ _ _ ?e0 ?e1) ?k1 ?k2 ?k3 ?k4 ?k5 ?k6 ?k7 ?k8 ?k9 ?ka ?kb ?kc ?_; (case k1 => k_asm); (case k2 => k_asm); (case k3 => k_asm); (case k4 => k_asm); (case k5 => k_asm); (case k6 => first | assumption | exact rfl); (case k7 => first | assumption | exact rfl); (case k8 => k_asm); (case k9 => k_asm); (case ka => rfl); (case kb => rfl); (case kc => exact Nat.le_of_ble_eq_true rfl); (case e0 => first | exact rfl | assumption); (case e1 => assumption); k_whole; intro v9 nw9 h9 tk9 hr9 F9 N9; (obtain ⟨e9, t8, e8⟩ := hr9; subst e8; replace N9 := cb_drop N9 e9; clear e9); revert nw9 h9 tk9 F9 N9 t8; intros; (try dsimp only); (try k_fold))) | (k_here; (with_reducible show wpAny _ _ (call (Value.type "enumerate") [Value.ref _]) _ _ _); refine enum_call ?_) | (k_here; (with_reducible show wpAny _ _ (exec (Stmt.For _ (Expr.Call (Expr.Name (Str.ofString "enumerate") _) _ _ _) _ _ _) _) _ _ _); k_dflt (refine' for_turns ?k1 ?_; (case k1 => k_asm))) | ((with_reducible show wpAny _ _ (exec (Stmt.For (Expr.Tuple _ _ _) (Expr.Call _ _ _ _) _ _ _) _) _ _ _); k_here; k_dflt (refine' for_src ?k1 ?_; (case k1 => k_asm))) | ((with_reducible show wpAny _ _ (binaryOp Operator.Add (Value.bytes _ _) (Value.bytes _ _)) _ _ _); k_here; (refine add_b (by first | assumption | exact take_le (by assumption) | exact drop_le (by assumption) | exact take_app_le (by assumption) | (simp only [List.length_append, List.length_take, List.length_drop]; omega)) (by first | assumption | exact take_le (by assumption) | exact drop_le (by assumption) | exact take_app_le (by assumption) | (simp only [List.length_append, List.length_take, List.length_drop]; omega)) ?_); intro _ _) | (k_here; (with_reducible show wpAny _ _ (subscriptTail _ (Expr.Slice _ none none _) (Value.bytes (List.toArray _) _) (Value.ref _)) _ _ _); (refine cut_from (s := ⟨_, _, _, _, _⟩) (by k_asm) (by k_asm) (by first | assumption | omega) (by first | exact Int.add_nonneg (Int.natCast_nonneg _) (Int.natCast_nonneg _) | omega) ?_); intro _ _ _ _ _) | (k_here; (with_reducible show wpAny _ _ (subscriptTail _ (Expr.Slice none _ none _) (Value.bytes (List.toArray _) _) (Value.ref _)) _ _ _); (refine cut_to (s := ⟨_, _, _, _, _⟩) (by k_asm) (by k_asm) (by first | assumption | omega) ?_); intro _ _ _ _ _) | (k_here; (with_reducible show wpAny _ _ (subscriptTail _ _ (Value.ref _) (Value.int 2 _)) _ _ _); (refine tup_at (i := 2) (s := ⟨_, _, _, _, _⟩) (by k_asm) (by walk_at "MY mem") (by decide) (by exact rfl) ?_)) | (k_here; (with_reducible show wpAny _ _ (subscriptTail _ _ (Value.ref _) (Value.int (Nat.cast _) _)) _ _ _); (refine item_at (s := ⟨_, _, _, _, _⟩) (by k_asm) (by walk_at "MY mem") (by first | assumption | omega) (by assumption) ?_)) | walk1 | (dsimp only; walk1) | (leave1; try dsimp only) | fail "no step"))
      have hks : ∀ k ∈ ks, ∃ r ∈ rows, r.fresh o = k.abs := fun k hk => by
        have : k.abs ∈ rows.map (Row.fresh o) := habs ▸ List.mem_map_of_mem hk
        obtain ⟨r, h1, h2⟩ := List.mem_map.mp this
        exact ⟨r, h1, h2⟩
      have S3 : Sep (ks.map SK.ad) ((D, lst (ks.map fun k => Value.ref k.x)) :: (L1 + 1, o1) :: news) := by
        refine Sep.cons hS fun a ha => ?_
        obtain ⟨_, o2, h2⟩ := ad_in (w := w) ha
        exact Ne.symm (offD _ (List.mem_append_left _ h2))
      refine Spec.callB (fits_in_spec w o ks to D _ _ ho (by rw [hkl]; exact Nat.le_trans hrl (Nat.le_of_ble_eq_true rfl)) (fun k hk => ?_) (fun k hk => ?_) (.head _) S3) (by k_asm) F4 (by k_asm) (cb_drop N4 rep_sub) (by k_asm) rfl rfl hdp hun rfl rfl (Nat.le_of_ble_eq_true rfl) ?_
      · obtain ⟨r, hr, e1⟩ := hks k hk
        rw [← e1]; exact (hok r hr).len
      · obtain ⟨r, hr, e1⟩ := hks k hk
        rw [← e1]; exact fresh_width (hok r hr)
      intro v9 nw9 h9 tk9 hr9 F9 N9
      obtain ⟨fa, fn, vals2, tl, ks', rfl, hfa, hsub, hpairs, hlt, htl, had', hab'⟩ := hr9
      have N10 := cb_drop N9 (rep_sub2 hfa hsub)
      have hR : ∀ p ∈ (fa, listOf vals2.toArray fn) :: (tl ++ (ledAll w ks' ++ ((D, lst (ks.map fun k => Value.ref k.x)) :: news))), p.1 ≠ L1 + 1 := by
        have hcf : L1 + 1 < fa := hlt (L1 + 1, o1) (List.mem_append_right _ (.tail _ (.head _)))
        intro p hp
        rcases List.mem_cons.mp hp with rfl | hp
        · exact Nat.ne_of_gt hcf
        rcases List.mem_append.mp hp with hp | hp
        · exact Nat.ne_of_gt (Nat.lt_trans hcf (htl p hp))
        rcases List.mem_append.mp hp with hp | hp
        · obtain ⟨k, hk, e1⟩ := mem_ledAll hp
          have := hL k.ad (by rw [← had']; exact List.mem_map_of_mem hk)
          rcases e1 with e1 | e1 <;> rw [e1]
          · exact Nat.ne_of_gt this.1
          · exact Nat.ne_of_gt this.2
        rcases List.mem_cons.mp hp with rfl | hp
        · exact Nat.ne_of_gt (ltD (L1 + 1, o1) (.head _))
        · exact Nat.ne_of_lt (Nat.lt_succ_of_lt (lt1 p hp))
      clear hsub N9
      have hroom := fitsF_room o (o.length + 1) 0 (rows.map (Row.fresh o)) (fun s hs => by
        obtain ⟨r, _, rfl⟩ := List.mem_map.mp hs
        exact endS_le o r.before)
      rw [habs] at hpairs
      change PairsIn tl vals2 (fitsP o rows) at hpairs
      change ∀ q ∈ fitsP o rows, _ at hroom
      (repeat' (first | (k_unfold; (try dsimp only)) | (k_end; wrow_close) | ((with_reducible show wpAny _ _ (call _ _) _ _ _); k_here; (try dsimp only); (with_reducible show wpAny _ _ (call (Value.ref 146) _) _ _ _); k_dflt (refine' Spec.callB (seeker_of_spec _ _ _ _ _ _ _ _ _ _ _ _ ?e0 ?e1 ?e2 ?e3 ?e4) ?k1 ?k2 ?k3 ?k4 ?k5 ?k6 ?k7 ?k8 ?k9 ?ka ?kb ?kc ?_; (case k1 => k_asm); (case k2 => k_asm); (case k3 => k_asm); (case k4 => k_asm); (case k5 => k_asm); (case k6 => first | assumption | exact rfl); (case k7 => first | assumption | exact rfl); (case k8 => k_asm); (case k9 => k_asm); (case ka => rfl); (case kb => rfl); (case kc => exact Nat.le_of_ble_eq_true rfl); (case e0 => assumption); (case e1 => assumption); (case e2 => assumption); (case e3 => assumption); (case e4 => assumption); k_whole; intro _ _ _ _ _ _ _; (try dsimp only); (try k_fold))) | ((with_reducible show wpAny _ _ (call _ _) _ _ _); k_here; (try dsimp only); (with_reducible show wpAny _ _ (call (Value.ref 111) _) _ _ _); k_dflt (refine' Spec.callB (width_at _ _ _ _ ?e0 ?e1) ?k1 ?k2 ?k3 ?k4 ?k5 ?k6 ?k7 ?k8 ?k9 ?ka ?kb ?kc ?_; (case k1 => k_asm); (case k2 => k_asm); (case k3 => k_asm); (case k4 => k_asm); (case k5 => k_asm); (case k6 => first | assumption | exact rfl); (case k7 => first | assumption | exact rfl); (case k8 => k_asm); (case k9 => k_asm); (case ka => rfl); (case kb => rfl); (case kc => exact Nat.le_of_ble_eq_true rfl); (case e0 => first | exact rfl | assumption); (case e1 => assumption); k_whole; intro v9 nw9 h9 tk9 hr9 F9 N9; (obtain ⟨e9, t8, e8⟩ := hr9; subst e8; replace N9 := cb_drop N9 e9; clear e9); revert nw9 h9 tk9 F9 N9 t8; intros; (try dsimp only); (try k_fold))) | (k_here; (with_reducible show wpAny _ _ (call (Value.type "enumerate") [Value.ref _]) _ _ _); refine enum_call ?_) | (k_here; (with_reducible show wpAny _ _ (exec (Stmt.For _ (Expr.Call (Expr.Name (Str.ofString "enumerate") _) _ _ _) _ _ _) _) _ _ _); k_dflt (refine' for_turns ?k1 ?_; (case k1 => k_asm))) | ((with_reducible show wpAny _ _ (exec (Stmt.For (Expr.Tuple _ _ _) (Expr.Call _ _ _ _) _ _ _) _) _ _ _); k_here; k_dflt (refine' for_src ?k1 ?_; (case k1 => k_asm))) | ((with_reducible show wpAny _ _ (binaryOp Operator.Add (Value.bytes _ _) (Value.bytes _ _)) _ _ _); k_here; (refine add_b (by first | assumption | exact take_le (by assumption) | exact drop_le (by assumption) | exact take_app_le (by assumption) | (simp only [List.length_append, List.length_take, List.length_drop]; omega)) (by first | assumption | exact take_le (by assumption) | exact drop_le (by assumption) | exact take_app_le (by assumption) | (simp only [List.length_append, List.length_take, List.length_drop]; omega)) ?_); intro _ _) | (k_here; (with_reducible show wpAny _ _ (subscriptTail _ (Expr.Slice _ none none _) (Value.bytes (List.toArray _) _) (Value.ref _)) _ _ _); (refine cut_from (s := ⟨_, _, _, _, _⟩) (by k_asm) (by k_asm) (by first | assumption | omega) (by first | exact Int.add_nonneg (Int.natCast_nonneg _) (Int.natCast_nonneg _) | omega) ?_); intro _ _ _ _ _) | (k_here; (with_reducible show wpAny _ _ (subscriptTail _ (Expr.Slice none _ none _) (Value.bytes (List.toArray _) _) (Value.ref _)) _ _ _); (refine cut_to (s := ⟨_, _, _, _, _⟩) (by k_asm) (by k_asm) (by first | assumption | omega) ?_); intro _ _ _ _ _) | (k_here; (with_reducible show wpAny _ _ (subscriptTail _ _ (Value.ref _) (Value.int 2 _)) _ _ _); (refine tup_at (i := 2) (s := ⟨_, _, _, _, _⟩) (by k_asm) (by walk_at "MY mem") (by decide) (by exact rfl) ?_)) | (k_here; (with_reducible show wpAny _ _ (subscriptTail _ _ (Value.ref _) (Value.int (Nat.cast _) _)) _ _ _); (refine item_at (s := ⟨_, _, _, _, _⟩) (by k_asm) (by walk_at "MY mem") (by first | assumption | omega) (by assumption) ?_)) | walk1 | (dsimp only; walk1) | (leave1; try dsimp only) | fail "no step"))
      refine ⟨vals2.length, fun i v => vals2[i]? = some v, (fa, listOf vals2.toArray fn) :: (tl ++ (ledAll w ks' ++ ((D, lst (ks.map fun k => Value.ref k.x)) :: news))), _, _, ExchJ o rows (L1 + 1) D rl v2 ((fa, listOf vals2.toArray fn) :: (tl ++ (ledAll w ks' ++ ((D, lst (ks.map fun k => Value.ref k.x)) :: news)))),
        Src.list rfl (fun p hp => N10 p (.tail _ hp)) (.head _), F9, N10, ?_, ?_, ?_, ?_⟩
      · rintro i m nw ⟨b, tb, oc, u1, u2, _, rfl, _⟩ p hp
        exact .tail _ hp
      · exact ⟨o, to, o1, _, _, rfl, rfl, d1, rfl, rfl⟩
      · rintro i v I oI m1 nw1 h1 tk1 hi hv2 hJ hI off F6 N6
        refine opq_turn fun PP3 hPP3 => ?_
        obtain ⟨b, tb, oc, u1, u2, eJ, eK, hoc, hb, hbl⟩ := hJ
        subst m1
        subst nw1
        obtain ⟨q, hq, T9, t1, t2, rfl, hT9⟩ := hpairs.get hv2
        obtain ⟨wd, hwd, hrm⟩ := hroom q (List.mem_of_getElem? hq)
        obtain ⟨r, hr, hrw⟩ : ∃ r, rows[q.2]? = some r ∧ (r.fresh o).width = wd := by
          rw [List.getElem?_map, List.getElem?_map] at hwd
          cases e : rows[q.2]? with
          | none => rw [e] at hwd; simp at hwd
          | some r => rw [e] at hwd; exact ⟨r, rfl, Option.some.inj hwd⟩
        have hqr : q.2 < rows.length := (List.getElem?_eq_some_iff.mp hr).1
        have hrok := hok r (List.mem_of_getElem? hr)
        have hl2 : ks'.length = ks.length := by simpa using congrArg List.length had'
        obtain ⟨pre, k, post, hsp, hpre⟩ := split_at ks' q.2 (by rw [hl2, hkl]; exact hqr)
        have hkw2 : k.abs.width = wd ∧ k.abs.wanted = r.wanted := by
          have hh := fitsEnd_keeps o (o.length + 1) 0 (ks.map SK.abs)
          rw [← hab', habs] at hh
          have e1 := congrArg (fun l : List Nat => l[q.2]?) hh.1
          have e2 := congrArg (fun l : List (List UInt8) => l[q.2]?) hh.2
          simp only [List.getElem?_map, hr, hsp] at e1 e2
          rw [List.getElem?_append_right (by first | exact Nat.le_of_eq hpre | omega)] at e1 e2
          simp [hpre] at e1 e2
          exact ⟨e1.trans hrw, e2⟩
        have hkw : k.abs.wanted.length ≤ 1000 := by rw [hkw2.2]; exact hrok.len
        have hgw : r.given.length = wd := by rw [hg r (List.mem_of_getElem? hr)]; exact hrw
        have hgl : r.given.length ≤ 1000 := by rw [hgw]; exact Nat.le_trans (Nat.le_trans (Nat.le_add_left _ _) hrm) ho
        have hbl1 : b.length ≤ 1000 := by first | exact hbl ▸ ho | omega
        have hsum : q.1 + r.given.length ≤ 1000 := by rw [hgw]; exact Nat.le_trans hrm ho
        have hT : IsTup h1 T9 #[.int (q.1 : Int) t1, .int (q.2 : Int) t2] := ⟨_, (N6 _ (.tail _ (.tail _ (.tail _ (List.mem_append_left _ hT9))))).1, rfl, _, rfl⟩
        obtain ⟨vr, hvr, T1, y1, y2, y3, y4, y5, rfl, hT1⟩ := hv.get' hr
        have hx : (ks.map fun k => Value.ref k.x)[q.2]? = some (.ref k.x) := by
          rw [← get_ad had', hsp, List.map_append, List.getElem?_append_right (by simp [hpre])]
          simp [hpre]
        have hDm : (D, listOf (ks.map fun k => Value.ref k.x).toArray (ks.map fun k => Value.ref k.x).length) ∈ (D, lst (ks.map fun k => Value.ref k.x)) :: news := .head _
        have hq2 : q.2 < 100000 := Nat.lt_of_lt_of_le hqr (Nat.le_trans hrl (Nat.le_of_ble_eq_true rfl))
        have N7 := pull_at3 N6 hsp
        clear N6
        (repeat' (first | (k_unfold; (try dsimp only)) | (k_end; wrow_close) | ((with_reducible show wpAny _ _ (call _ _) _ _ _); k_here; (try dsimp only); (with_reducible show wpAny _ _ (call (Value.ref 146) _) _ _ _); k_dflt (refine' Spec.callB (seeker_of_spec _ _ _ _ _ _ _ _ _ _ _ _ ?e0 ?e1 ?e2 ?e3 ?e4) ?k1 ?k2 ?k3 ?k4 ?k5 ?k6 ?k7 ?k8 ?k9 ?ka ?kb ?kc ?_; (case k1 => k_asm); (case k2 => k_asm); (case k3 => k_asm); (case k4 => k_asm); (case k5 => k_asm); (case k6 => first | assumption | exact rfl); (case k7 => first | assumption | exact rfl); (case k8 => k_asm); (case k9 => k_asm); (case ka => rfl); (case kb => rfl); (case kc => exact Nat.le_of_ble_eq_true rfl); (case e0 => assumption); (case e1 => assumption); (case e2 => assumption); (case e3 => assumption); (case e4 => assumption); k_whole; intro _ _ _ _ _ _ _; (try dsimp only); (try k_fold))) | ((with_reducible show wpAny _ _ (call _ _) _ _ _); k_here; (try dsimp only); (with_reducible show wpAny _ _ (call (Value.ref 111) _) _ _ _); k_dflt (refine' Spec.callB (width_at _ _ _ _ ?e0 ?e1) ?k1 ?k2 ?k3 ?k4 ?k5 ?k6 ?k7 ?k8 ?k9 ?ka ?kb ?kc ?_; (case k1 => k_asm); (case k2 => k_asm); (case k3 => k_asm); (case k4 => k_asm); (case k5 => k_asm); (case k6 => first | assumption | exact rfl); (case k7 => first | assumption | exact rfl); (case k8 => k_asm); (case k9 => k_asm); (case ka => rfl); (case kb => rfl); (case kc => exact Nat.le_of_ble_eq_true rfl); (case e0 => first | exact rfl | assumption); (case e1 => assumption); k_whole; intro v9 nw9 h9 tk9 hr9 F9 N9; (obtain ⟨e9, t8, e8⟩ := hr9; subst e8; replace N9 := cb_drop N9 e9; clear e9); revert nw9 h9 tk9 F9 N9 t8; intros; (try dsimp only); (try k_fold))) | (k_here; (with_reducible show wpAny _ _ (call (Value.type "enumerate") [Value.ref _]) _ _ _); refine enum_call ?_) | (k_here; (with_reducible show wpAny _ _ (exec (Stmt.For _ (Expr.Call (Expr.Name (Str.ofString "enumerate") _) _ _ _) _ _ _) _) _ _ _); k_dflt (refine' for_turns ?k1 ?_; (case k1 => k_asm))) | ((with_reducible show wpAny _ _ (exec (Stmt.For (Expr.Tuple _ _ _) (Expr.Call _ _ _ _) _ _ _) _) _ _ _); k_here; k_dflt (refine' for_src ?k1 ?_; (case k1 => k_asm))) | ((with_reducible show wpAny _ _ (binaryOp Operator.Add (Value.bytes _ _) (Value.bytes _ _)) _ _ _); k_here; (refine add_b (by first | assumption | exact take_le (by assumption) | exact drop_le (by assumption) | exact take_app_le (by assumption) | (simp only [List.length_append, List.length_take, List.length_drop]; omega)) (by first | assumption | exact take_le (by assumption) | exact drop_le (by assumption) | exact take_app_le (by assumption) | (simp only [List.length_append, List.length_take, List.length_drop]; omega)) ?_); intro _ _) | (k_here; (with_reducible show wpAny _ _ (subscriptTail _ (Expr.Slice _ none none _) (Value.bytes (List.toArray _) _) (Value.ref _)) _ _ _); (refine cut_from (s := ⟨_, _, _, _, _⟩) (by k_asm) (by k_asm) (by first | assumption | omega) (by first | exact Int.add_nonneg (Int.natCast_nonneg _) (Int.natCast_nonneg _) | omega) ?_); intro _ _ _ _ _) | (k_here; (with_reducible show wpAny _ _ (subscriptTail _ (Expr.Slice none _ none _) (Value.bytes (List.toArray _) _) (Value.ref _)) _ _ _); (refine cut_to (s := ⟨_, _, _, _, _⟩) (by k_asm) (by k_asm) (by first | assumption | omega) ?_); intro _ _ _ _ _) | (k_here; (with_reducible show wpAny _ _ (subscriptTail _ _ (Value.ref _) (Value.int 2 _)) _ _ _); (refine tup_at (i := 2) (s := ⟨_, _, _, _, _⟩) (by k_asm) (by walk_at "MY mem") (by decide) (by exact rfl) ?_)) | (k_here; (with_reducible show wpAny _ _ (subscriptTail _ _ (Value.ref _) (Value.int (Nat.cast _) _)) _ _ _); (refine item_at (s := ⟨_, _, _, _, _⟩) (by k_asm) (by walk_at "MY mem") (by first | assumption | omega) (by assumption) ?_)) | walk1 | (dsimp only; walk1) | (leave1; try dsimp only) | fail "no step"))
        rename Fr _ _ _ _ => F8
        rename News _ _ _ _ => N8
        have N9 := push_at3 N8 hsp
        have hIc : I ≠ L1 + 1 := Ne.symm (off _ (.head _))
        clear N8
        refine' storeX_C F8 N9 ?a ?b hoc ?_
        case b => exact UpdF.tail hIc (UpdF.head hR)
        case a => rfl
        intro h10 o10 F10 N10 hd10
        (repeat' (first | (k_unfold; (try dsimp only)) | (k_end; wrow_close) | ((with_reducible show wpAny _ _ (call _ _) _ _ _); k_here; (try dsimp only); (with_reducible show wpAny _ _ (call (Value.ref 146) _) _ _ _); k_dflt (refine' Spec.callB (seeker_of_spec _ _ _ _ _ _ _ _ _ _ _ _ ?e0 ?e1 ?e2 ?e3 ?e4) ?k1 ?k2 ?k3 ?k4 ?k5 ?k6 ?k7 ?k8 ?k9 ?ka ?kb ?kc ?_; (case k1 => k_asm); (case k2 => k_asm); (case k3 => k_asm); (case k4 => k_asm); (case k5 => k_asm); (case k6 => first | assumption | exact rfl); (case k7 => first | assumption | exact rfl); (case k8 => k_asm); (case k9 => k_asm); (case ka => rfl); (case kb => rfl); (case kc => exact Nat.le_of_ble_eq_true rfl); (case e0 => assumption); (case e1 => assumption); (case e2 => assumption); (case e3 => assumption); (case e4 => assumption); k_whole; intro _ _ _ _ _ _ _; (try dsimp only); (try k_fold))) | ((with_reducible show wpAny _ _ (call _ _) _ _ _); k_here; (try dsimp only); (with_reducible show wpAny _ _ (call (Value.ref 111) _) _ _ _); k_dflt (refine' Spec.callB (width_at _ _ _ _ ?e0 ?e1) ?k1 ?k2 ?k3 ?k4 ?k5 ?k6 ?k7 ?k8 ?k9 ?ka ?kb ?kc ?_; (case k1 => k_asm); (case k2 => k_asm); (case k3 => k_asm); (case k4 => k_asm); (case k5 => k_asm); (case k6 => first | assumption | exact rfl); (case k7 => first | assumption | exact rfl); (case k8 => k_asm); (case k9 => k_asm); (case ka => rfl); (case kb => rfl); (case kc => exact Nat.le_of_ble_eq_true rfl); (case e0 => first | exact rfl | assumption); (case e1 => assumption); k_whole; intro v9 nw9 h9 tk9 hr9 F9 N9; (obtain ⟨e9, t8, e8⟩ := hr9; subst e8; replace N9 := cb_drop N9 e9; clear e9); revert nw9 h9 tk9 F9 N9 t8; intros; (try dsimp only); (try k_fold))) | (k_here; (with_reducible show wpAny _ _ (call (Value.type "enumerate") [Value.ref _]) _ _ _); refine enum_call ?_) | (k_here; (with_reducible show wpAny _ _ (exec (Stmt.For _ (Expr.Call (Expr.Name (Str.ofString "enumerate") _) _ _ _) _ _ _) _) _ _ _); k_dflt (refine' for_turns ?k1 ?_; (case k1 => k_asm))) | ((with_reducible show wpAny _ _ (exec (Stmt.For (Expr.Tuple _ _ _) (Expr.Call _ _ _ _) _ _ _) _) _ _ _); k_here; k_dflt (refine' for_src ?k1 ?_; (case k1 => k_asm))) | ((with_reducible show wpAny _ _ (binaryOp Operator.Add (Value.bytes _ _) (Value.bytes _ _)) _ _ _); k_here; (refine add_b (by first | assumption | exact take_le (by assumption) | exact drop_le (by assumption) | exact take_app_le (by assumption) | (simp only [List.length_append, List.length_take, List.length_drop]; omega)) (by first | assumption | exact take_le (by assumption) | exact drop_le (by assumption) | exact take_app_le (by assumption) | (simp only [List.length_append, List.length_take, List.length_drop]; omega)) ?_); intro _ _) | (k_here; (with_reducible show wpAny _ _ (subscriptTail _ (Expr.Slice _ none none _) (Value.bytes (List.toArray _) _) (Value.ref _)) _ _ _); (refine cut_from (s := ⟨_, _, _, _, _⟩) (by k_asm) (by k_asm) (by first | assumption | omega) (by first | exact Int.add_nonneg (Int.natCast_nonneg _) (Int.natCast_nonneg _) | omega) ?_); intro _ _ _ _ _) | (k_here; (with_reducible show wpAny _ _ (subscriptTail _ (Expr.Slice none _ none _) (Value.bytes (List.toArray _) _) (Value.ref _)) _ _ _); (refine cut_to (s := ⟨_, _, _, _, _⟩) (by k_asm) (by k_asm) (by first | assumption | omega) ?_); intro _ _ _ _ _) | (k_here; (with_reducible show wpAny _ _ (subscriptTail _ _ (Value.ref _) (Value.int 2 _)) _ _ _); (refine tup_at (i := 2) (s := ⟨_, _, _, _, _⟩) (by k_asm) (by walk_at "MY mem") (by decide) (by exact rfl) ?_)) | (k_here; (with_reducible show wpAny _ _ (subscriptTail _ _ (Value.ref _) (Value.int (Nat.cast _) _)) _ _ _); (refine item_at (s := ⟨_, _, _, _, _⟩) (by k_asm) (by walk_at "MY mem") (by first | assumption | omega) (by assumption) ?_)) | walk1 | (dsimp only; walk1) | (leave1; try dsimp only) | fail "no step"))
        simp only [ov_pt] at F10
        refine hPP3 _ _ <| TEnd.next _ F10 N10 (fun p hp => hp) (fun p hp => ?_) ⟨_, _, o10, _, _, rfl, rfl, hd10, ?_, ?_⟩
        · rcases List.mem_cons.mp hp with rfl | hp
          · exact Ne.symm hIc
          · exact off p (.tail _ hp)
        · rw [take_snoc hq, exchL_snoc, hr, ← hb]
          simp only []
          have e9 : ((q.1 : Int) + (k.abs.width : Int)).toNat = q.1 + (r.fresh o).width := by rw [hkw2.1, hrw]; exact toNat_sum _ _
          rw [e9]
        · first | (rw [toNat_sum, hkw2.1]; exact cut_len hbl hrm hgw) | (simp only [List.length_append, List.length_take, List.length_drop]; omega)
      · rintro m1 nw1 h1 tk1 hJ F6 N6
        obtain ⟨b, tb, oc, u1, u2, eJ, eK, hoc, hb, hbl⟩ := hJ
        subst m1
        subst nw1
        have hpl : vals2.length = (fitsP o rows).length := hpairs.length
        rw [hpl, List.take_length] at hb
        subst hb
        (repeat' (first | (k_unfold; (try dsimp only)) | (k_end; wrow_close) | ((with_reducible show wpAny _ _ (call _ _) _ _ _); k_here; (try dsimp only); (with_reducible show wpAny _ _ (call (Value.ref 146) _) _ _ _); k_dflt (refine' Spec.callB (seeker_of_spec _ _ _ _ _ _ _ _ _ _ _ _ ?e0 ?e1 ?e2 ?e3 ?e4) ?k1 ?k2 ?k3 ?k4 ?k5 ?k6 ?k7 ?k8 ?k9 ?ka ?kb ?kc ?_; (case k1 => k_asm); (case k2 => k_asm); (case k3 => k_asm); (case k4 => k_asm); (case k5 => k_asm); (case k6 => first | assumption | exact rfl); (case k7 => first | assumption | exact rfl); (case k8 => k_asm); (case k9 => k_asm); (case ka => rfl); (case kb => rfl); (case kc => exact Nat.le_of_ble_eq_true rfl); (case e0 => assumption); (case e1 => assumption); (case e2 => assumption); (case e3 => assumption); (case e4 => assumption); k_whole; intro _ _ _ _ _ _ _; (try dsimp only); (try k_fold))) | ((with_reducible show wpAny _ _ (call _ _) _ _ _); k_here; (try dsimp only); (with_reducible show wpAny _ _ (call (Value.ref 111) _) _ _ _); k_dflt (refine' Spec.callB (width_at _ _ _ _ ?e0 ?e1) ?k1 ?k2 ?k3 ?k4 ?k5 ?k6 ?k7 ?k8 ?k9 ?ka ?kb ?kc ?_; (case k1 => k_asm); (case k2 => k_asm); (case k3 => k_asm); (case k4 => k_asm); (case k5 => k_asm); (case k6 => first | assumption | exact rfl); (case k7 => first | assumption | exact rfl); (case k8 => k_asm); (case k9 => k_asm); (case ka => rfl); (case kb => rfl); (case kc => exact Nat.le_of_ble_eq_true rfl); (case e0 => first | exact rfl | assumption); (case e1 => assumption); k_whole; intro v9 nw9 h9 tk9 hr9 F9 N9; (obtain ⟨e9, t8, e8⟩ := hr9; subst e8; replace N9 := cb_drop N9 e9; clear e9); revert nw9 h9 tk9 F9 N9 t8; intros; (try dsimp only); (try k_fold))) | (k_here; (with_reducible show wpAny _ _ (call (Value.type "enumerate") [Value.ref _]) _ _ _); refine enum_call ?_) | (k_here; (with_reducible show wpAny _ _ (exec (Stmt.For _ (Expr.Call (Expr.Name (Str.ofString "enumerate") _) _ _ _) _ _ _) _) _ _ _); k_dflt (refine' for_turns ?k1 ?_; (case k1 => k_asm))) | ((with_reducible show wpAny _ _ (exec (Stmt.For (Expr.Tuple _ _ _) (Expr.Call _ _ _ _) _ _ _) _) _ _ _); k_here; k_dflt (refine' for_src ?k1 ?_; (case k1 => k_asm))) | ((with_reducible show wpAny _ _ (binaryOp Operator.Add (Value.bytes _ _) (Value.bytes _ _)) _ _ _); k_here; (refine add_b (by first | assumption | exact take_le (by assumption) | exact drop_le (by assumption) | exact take_app_le (by assumption) | (simp only [List.length_append, List.length_take, List.length_drop]; omega)) (by first | assumption | exact take_le (by assumption) | exact drop_le (by assumption) | exact take_app_le (by assumption) | (simp only [List.length_append, List.length_take, List.length_drop]; omega)) ?_); intro _ _) | (k_here; (with_reducible show wpAny _ _ (subscriptTail _ (Expr.Slice _ none none _) (Value.bytes (List.toArray _) _) (Value.ref _)) _ _ _); (refine cut_from (s := ⟨_, _, _, _, _⟩) (by k_asm) (by k_asm) (by first | assumption | omega) (by first | exact Int.add_nonneg (Int.natCast_nonneg _) (Int.natCast_nonneg _) | omega) ?_); intro _ _ _ _ _) | (k_here; (with_reducible show wpAny _ _ (subscriptTail _ (Expr.Slice none _ none _) (Value.bytes (List.toArray _) _) (Value.ref _)) _ _ _); (refine cut_to (s := ⟨_, _, _, _, _⟩) (by k_asm) (by k_asm) (by first | assumption | omega) ?_); intro _ _ _ _ _) | (k_here; (with_reducible show wpAny _ _ (subscriptTail _ _ (Value.ref _) (Value.int 2 _)) _ _ _); (refine tup_at (i := 2) (s := ⟨_, _, _, _, _⟩) (by k_asm) (by walk_at "MY mem") (by decide) (by exact rfl) ?_)) | (k_here; (with_reducible show wpAny _ _ (subscriptTail _ _ (Value.ref _) (Value.int (Nat.cast _) _)) _ _ _); (refine item_at (s := ⟨_, _, _, _, _⟩) (by k_asm) (by walk_at "MY mem") (by first | assumption | omega) (by assumption) ?_)) | walk1 | (dsimp only; walk1) | (leave1; try dsimp only) | fail "no step"))
        exact hret _ _ _ _ ⟨fun p hp => .tail _ (.tail _ (List.mem_append_right _ (List.mem_append_right _ (.tail _ hp)))), tb, rfl⟩ (by assumption) (by assumption)
end
section
def optLit : Option (List UInt8) → Lit
  | none => .non
  | some b => .byt b
def wLit (r : Row) : Lit := match r.kind with
  | .chars => .non
  | _ => .byt r.wanted
def crowLit (r : Row) : Lit := .tup [.str r.kind.str, wLit r, optLit r.before, optLit r.after]
def xrowLit (r : Row) : Lit := .tup [.str r.kind.str, wLit r, .byt r.given, optLit r.before, optLit r.after]
def caseLit (c : List UInt8 × List Row × List Nat) : Lit := .tup [.byt c.1, .lst (c.2.1.map crowLit), .lst (c.2.2.map fun n : Nat => Lit.int (n : Int))]
def mk (k : Kind) (wn : List UInt8) (b a : Option (List UInt8)) : Row := ⟨k, wn, [], b, a⟩
def countCases : List (List UInt8 × List Row × List Nat) := [
  ([65, 65, 66, 66, 65], [mk .all [65] none none, mk .all [66] none none], [3, 2]), ([65, 65, 66, 66, 65], [mk .leading [65] none none], [2]),
  ([65, 65, 66, 66, 65], [mk .chars [] (some [66]) none], [2]), ([65, 65, 66, 66, 65], [mk .all [65] none (some [66])], [1]),
  ([65, 65, 65, 65, 65], [mk .all [65, 65] none none], [2]), ([66, 65, 65], [mk .all [66] none none, mk .leading [65] none none], [1, 0]),
  ([65, 65, 66, 65, 66], [mk .all [65, 66] none none, mk .all [65] none none, mk .chars [] none none], [2, 1, 0]),
  ([65, 66, 66, 65], [mk .leading [66] none (some [65])], [2]), ([65, 66, 65], [mk .all [66, 65] (some [65]) none, mk .chars [] none (some [67])], [0, 0]),
  ([67, 65, 66, 67], [mk .chars [] (some [67]) (some [65]), mk .all [67] (some [90]) (some [65])], [0, 1]),
  ([65, 66, 67, 66], [mk .chars [] (some [67]) (some [65]), mk .all [66] (some [90]) (some [67])], [1, 1])]
local macro_rules | `(tactic| walk_at "MY mem") => `(tactic| first | (with_reducible assumption) | (with_reducible exact List.mem_cons_self) | (with_reducible refine List.mem_cons_of_mem _ ?_; walk_at "MY mem") | (with_reducible refine List.mem_append_left _ ?_; with_reducible assumption) | (with_reducible refine List.mem_append_right _ ?_; walk_at "MY mem"))
local macro_rules | `(tactic| k_upd) => `(tactic| first | (refine' Upd.head2 ?a; (case a => with_reducible assumption)) | (refine' Upd.app2 ?a ?b; (case a => with_reducible assumption); (case b => k_upd)) | (refine' Upd.app3 ?a ?c ?b; (case a => with_reducible assumption); (case c => walk_at "MY mem"); (case b => k_upd)))
local macro_rules | `(tactic| walk_at "MY den") => `(tactic| first | (refine' DenL.append ?a ?b; (case a => walk_at "MY den"); (case b => walk_at "MY den")) | (refine' DenL.one ?a; (case a => (refine' Den.mono ?s _ _ ?h; (case h => assumption); (case s => (intro p hp; walk_at "MY mem"))))) | (refine' DenL.mono ?s _ _ ?h; (case h => assumption); (case s => intro p hp; walk_at "MY mem")))
set_option maxRecDepth 100000 in
set_option maxHeartbeats 4000000 in
theorem count_cases_spec (w : World) (news : Led) :
    Spec w 8 233 [] news (fun v news' => (∀ p ∈ news, p ∈ news') ∧ Den news' (.lst (countCases.map caseLit)) v) := by
  unfold Spec
  intro dp un gd env outer A₀ mean mg mb base h₀ L m s Q E B F X N T hf hk hdp hun hret
  ((have fill : (∀ w : World, (Mine.hdHeap w.params) = (Mine.hdHeap w.params)) ∧ PySem.Challenge.rw_og0077_01.Holds → True := by ((first | k_fill | skip); exact fun _ => trivial)); clear fill)
  have hE : Enter [] (fun _ => none) := ⟨⟩
  (k_dflt (refine' enter_plainN (by assumption) ?k1 ?k2 ?k3 ?k4 ?k5 ?kF ?kK ?k6 ?k7 ?k8 ?k9 ?kB ?km ?_ ?c2 ?c3 ?c4 ?c5; (case kF => assumption); (case kK => assumption); (case k1 => k_asm); (case k2 => k_asm); (case k3 => k_asm); (case k4 => k_asm); (case k5 => k_asm); (case k6 => k_is); (case k7 => k_is); (case k8 => ktr_room); (case k9 => exact BindsTo.of_eq rfl); (case km => exact rfl); (case c5 => decide); (case kB => exact locs rfl); (case c2 => exact rfl); (case c3 => exact rfl); (case c4 => exact rfl); k_whole; intro _ _ _ _ _ _ _ _ _ _; (try dsimp only); (try k_fold)))
  (repeat' (first | (k_unfold; (try dsimp only)) | (k_end; wrow_close) | ((with_reducible show wpAny _ _ (call (Value.builtin _) _) _ _ _); k_here; k_dflt (refine' app_l ?k1 ?k2 ?k3 ?k4 ?_; (case k1 => k_asm); (case k2 => k_asm); (case k3 => k_upd); (case k4 => first | omega | (simp only [List.length_append, List.length_cons, List.length_nil]; omega))); intro _ _ _) | ((with_reducible show wpAny _ _ (binaryOp Operator.Add (Value.ref _) (Value.ref _)) _ _ _); k_here; k_dflt (refine add_l (by k_asm) (by k_asm) (by walk_at "MY mem") (by walk_at "MY mem") (by first | omega | (simp only [List.length_append, List.length_cons, List.length_nil]; omega)) ?_); intro _ _ _ _ _) | ((with_reducible show wpAny _ _ (eval (Expr.Tuple _ _ _) _) _ _ _); k_here; k_dflt (refine' lit_eval ?k1 ?k2 ?k3 ?_; (case k1 => walk_at "MY lit"); (case k2 => k_asm); (case k3 => k_asm)); intro _ _ _ _ _ _ _ _) | ((with_reducible show wpAny _ _ (eval (Expr.List _ _) _) _ _ _); k_here; k_dflt (refine' lit_list ?k1 ?k4 ?k2 ?k3 ?_; (case k1 => walk_at "MY lits"); (case k4 => decide); (case k2 => k_asm); (case k3 => k_asm)); intro _ _ _ _ _ _ _ _ hn9 _ _; simp only [List.length_cons, List.length_nil, Nat.zero_add, Nat.reduceAdd] at hn9) | walk1 | (dsimp only; walk1) | (leave1; try dsimp only) | fail "no step"))
  rename Fr h₀ L _ _ => F9
  rename News h₀ L _ _ => N9
  refine hret _ _ _ _ ⟨fun p hp => by walk_at "MY mem", ?_⟩ F9 N9
  simp only [Den]
  refine ⟨_, _, _, rfl, by walk_at "MY mem", ?_⟩
  refine' DenL.cast ?zz1 ?zz2
  case zz2 => walk_at "MY den"
  case zz1 => rfl
end
section
def xcaseLit (c : List UInt8 × List Row × List UInt8) : Lit := .tup [.byt c.1, .lst (c.2.1.map xrowLit), .byt c.2.2]
def exchangeCases : List (List UInt8 × List Row × List UInt8) := [
  ([48, 48, 49, 50], [⟨.leading, [48], [32], none, none⟩], [32, 32, 49, 50]), ([65, 66, 65, 66], [⟨.first, [66], [120], none, none⟩], [65, 120, 65, 66]),
  ([65, 66, 65, 66], [⟨.all, [65], [66], none, none⟩, ⟨.all, [66], [65], none, none⟩], [66, 65, 66, 65]),
  ([65, 66, 44, 67, 68], [⟨.chars, [], [42], some [44], none⟩], [42, 42, 44, 67, 68]),
  ([65, 66, 65, 66], [⟨.first, [65, 66], [120, 121], none, some [66]⟩, ⟨.all, [65], [122], none, none⟩], [122, 66, 120, 121])]
local macro_rules | `(tactic| walk_at "MY mem") => `(tactic| first | (with_reducible assumption) | (with_reducible exact List.mem_cons_self) | (with_reducible refine List.mem_cons_of_mem _ ?_; walk_at "MY mem") | (with_reducible refine List.mem_append_left _ ?_; with_reducible assumption) | (with_reducible refine List.mem_append_right _ ?_; walk_at "MY mem"))
local macro_rules | `(tactic| k_upd) => `(tactic| first | (refine' Upd.head2 ?a; (case a => with_reducible assumption)) | (refine' Upd.app2 ?a ?b; (case a => with_reducible assumption); (case b => k_upd)) | (refine' Upd.app3 ?a ?c ?b; (case a => with_reducible assumption); (case c => walk_at "MY mem"); (case b => k_upd)))
local macro_rules | `(tactic| walk_at "MY den") => `(tactic| first | (refine' DenL.append ?a ?b; (case a => walk_at "MY den"); (case b => walk_at "MY den")) | (refine' DenL.one ?a; (case a => (refine' Den.mono ?s _ _ ?h; (case h => assumption); (case s => (intro p hp; walk_at "MY mem"))))) | (refine' DenL.mono ?s _ _ ?h; (case h => assumption); (case s => intro p hp; walk_at "MY mem")))
set_option maxRecDepth 100000 in
set_option maxHeartbeats 4000000 in
theorem exchange_cases_spec (w : World) (news : Led) :
    Spec w 8 240 [] news (fun v news' => (∀ p ∈ news, p ∈ news') ∧ Den news' (.lst (exchangeCases.map xcaseLit)) v) := by
  unfold Spec
  intro dp un gd env outer A₀ mean mg mb base h₀ L m s Q E B F X N T hf hk hdp hun hret
  ((have fill : (∀ w : World, (Mine.hdHeap w.params) = (Mine.hdHeap w.params)) ∧ PySem.Challenge.rw_og0077_01.Holds → True := by ((first | k_fill | skip); exact fun _ => trivial)); clear fill)
  have hE : Enter [] (fun _ => none) := ⟨⟩
  (k_dflt (refine' enter_plainN (by assumption) ?k1 ?k2 ?k3 ?k4 ?k5 ?kF ?kK ?k6 ?k7 ?k8 ?k9 ?kB ?km ?_ ?c2 ?c3 ?c4 ?c5; (case kF => assumption); (case kK => assumption); (case k1 => k_asm); (case k2 => k_asm); (case k3 => k_asm); (case k4 => k_asm); (case k5 => k_asm); (case k6 => k_is); (case k7 => k_is); (case k8 => ktr_room); (case k9 => exact BindsTo.of_eq rfl); (case km => exact rfl); (case c5 => decide); (case kB => exact locs rfl); (case c2 => exact rfl); (case c3 => exact rfl); (case c4 => exact rfl); k_whole; intro _ _ _ _ _ _ _ _ _ _; (try dsimp only); (try k_fold)))
  (repeat' (first | (k_unfold; (try dsimp only)) | (k_end; wrow_close) | ((with_reducible show wpAny _ _ (call (Value.builtin _) _) _ _ _); k_here; k_dflt (refine' app_l ?k1 ?k2 ?k3 ?k4 ?_; (case k1 => k_asm); (case k2 => k_asm); (case k3 => k_upd); (case k4 => first | omega | (simp only [List.length_append, List.length_cons, List.length_nil]; omega))); intro _ _ _) | ((with_reducible show wpAny _ _ (binaryOp Operator.Add (Value.ref _) (Value.ref _)) _ _ _); k_here; k_dflt (refine add_l (by k_asm) (by k_asm) (by walk_at "MY mem") (by walk_at "MY mem") (by first | omega | (simp only [List.length_append, List.length_cons, List.length_nil]; omega)) ?_); intro _ _ _ _ _) | ((with_reducible show wpAny _ _ (eval (Expr.Tuple _ _ _) _) _ _ _); k_here; k_dflt (refine' lit_eval ?k1 ?k2 ?k3 ?_; (case k1 => walk_at "MY lit"); (case k2 => k_asm); (case k3 => k_asm)); intro _ _ _ _ _ _ _ _) | ((with_reducible show wpAny _ _ (eval (Expr.List _ _) _) _ _ _); k_here; k_dflt (refine' lit_list ?k1 ?k4 ?k2 ?k3 ?_; (case k1 => walk_at "MY lits"); (case k4 => decide); (case k2 => k_asm); (case k3 => k_asm)); intro _ _ _ _ _ _ _ _ hn9 _ _; simp only [List.length_cons, List.length_nil, Nat.zero_add, Nat.reduceAdd] at hn9) | walk1 | (dsimp only; walk1) | (leave1; try dsimp only) | fail "no step"))
  rename Fr h₀ L _ _ => F9
  rename News h₀ L _ _ => N9
  refine hret _ _ _ _ ⟨fun p hp => by walk_at "MY mem", ?_⟩ F9 N9
  simp only [Den]
  refine ⟨_, _, _, rfl, by walk_at "MY mem", ?_⟩
  refine' DenL.cast ?zz1 ?zz2
  case zz2 => walk_at "MY den"
  case zz1 => rfl
end
section
def Ink (c : Addr) (rest : Led) : Prop := ∃ (cn : Nat) (cv : List Value) (xs : List Int), (c, listOf cv.toArray cn) ∈ rest ∧ IntsAre cv xs ∧ xs.length ≤ 63
theorem Ink.mono {c : Addr} {a b : Led} (s : ∀ p ∈ a, p ∈ b) : Ink c a → Ink c b
  | ⟨cn, cv, xs, h, i, l⟩ => ⟨cn, cv, xs, s _ h, i, l⟩
theorem News.sub {h₀ h : Heap} {L : Addr} {a b : Led} (N : News h₀ L h b) (s : ∀ p ∈ a, p ∈ b) : News h₀ L h a := fun p hp => N p (s p hp)
theorem draw_at (w : World) (p c : Addr) (many n : Nat) (q : Pen) (t3 : Tok) (rest : Led) (hm : 0 < many) (hm2 : many ≤ 1000) (hq : q.ok n) (hn : n ≤ 1000) (I : Ink c rest) (hoff : ∀ x ∈ rest, x.1 ≠ p) :
    Spec w 8 175 [.ref p, .int (many : Int) t3] ((p, penO c q) :: rest) (fun v news' => ∃ (d : Nat) (t' : Tok) (q' : Pen), v = .int (d : Int) t' ∧ d < many ∧ q'.ok (n + 1) ∧ ∀ x ∈ (p, penO c q') :: rest, x ∈ news') := by
  obtain ⟨cn, cv, xs, hc, hi, hx⟩ := I
  have S := draw_spec w p c cn many n q t3 cv xs rest hm hm2 hq hn hx hi (fun x hx => by
    rcases List.mem_cons.mp hx with rfl | hx
    · exact hoff _ hc
    · exact hoff _ hx)
  unfold Spec at S ⊢
  intro dp un gd env outer A₀ mean mg mb base h₀ L m s Q E B F X N T hf hk hdp hun hret
  refine S dp un gd env outer A₀ mean mg mb base h₀ L m s Q E B F X (fun x hx => ?_) T hf hk hdp hun fun v news' h' tk' hr F' N' => ?_
  · rcases List.mem_cons.mp hx with rfl | hx
    · exact N _ (.head _)
    · rcases List.mem_cons.mp hx with rfl | hx
      · exact N _ (.tail _ hc)
      · exact N _ (.tail _ hx)
  · obtain ⟨d, t', q', e, hd, hq', hs⟩ := hr
    refine hret v news' h' tk' ⟨d, t', q', e, hd, hq', fun x hx => ?_⟩ F' N'
    rcases List.mem_cons.mp hx with rfl | hx
    · exact hs _ (.head _)
    · exact hs _ (.tail _ (.tail _ hx))
section
set_option maxRecDepth 100000 in
set_option maxHeartbeats 2000000 in
theorem pick_list (w : World) (p c l : Addr) (n k : Nat) (q : Pen) (vs : List Value) (rest : Led) (hm : 0 < vs.length) (hm2 : vs.length ≤ 1000) (hl : (l, listOf vs.toArray k) ∈ rest) (hq : q.ok n) (hn : n ≤ 1000) (I : Ink c rest) (hoff : ∀ x ∈ rest, x.1 ≠ p) :
    Spec w 10 182 [.ref p, .ref l] ((p, penO c q) :: rest) (fun v news' => ∃ (q' : Pen), v ∈ vs ∧ q'.ok (n + 1) ∧ ∀ x ∈ (p, penO c q') :: rest, x ∈ news') := by
  unfold Spec
  intro dp un gd env outer A₀ mean mg mb base h₀ L m s Q E B F X N T hf hk hdp hun hret
  ((have fill : (∀ w : World, (Mine.hdHeap w.params) = (Mine.hdHeap w.params)) ∧ PySem.Challenge.rw_og0077_01.Holds → True := by ((first | k_fill | skip); exact fun _ => trivial)); clear fill)
  have hE : Enter [(Str.ofString "pen", .ref p), (Str.ofString "some", .ref l)] (fun y => List.lookup y [(Str.ofString "some", .ref l), (Str.ofString "pen", .ref p)]) := ⟨⟩
  (k_dflt (refine' enter_plainN (by assumption) ?k1 ?k2 ?k3 ?k4 ?k5 ?kF ?kK ?k6 ?k7 ?k8 ?k9 ?kB ?km ?_ ?c2 ?c3 ?c4 ?c5; (case kF => assumption); (case kK => assumption); (case k1 => k_asm); (case k2 => k_asm); (case k3 => k_asm); (case k4 => k_asm); (case k5 => k_asm); (case k6 => k_is); (case k7 => k_is); (case k8 => ktr_room); (case k9 => exact BindsTo.of_eq rfl); (case km => exact rfl); (case c5 => decide); (case kB => exact locs rfl); (case c2 => exact rfl); (case c3 => exact rfl); (case c4 => exact rfl); k_whole; intro _ _ _ _ _ _ _ _ _ _; (try dsimp only); (try k_fold)))
  (repeat' (first | (k_unfold; (try dsimp only)) | (k_end; wrow_close) | (k_here; (with_reducible show wpAny _ _ (subscriptTail _ _ (Value.ref _) (Value.int (Nat.cast _) _)) _ _ _); (refine item_at (s := ⟨_, _, _, _, _⟩) (by k_asm) (by walk_at "MY mem") (by omega) (List.getElem?_eq_getElem (by assumption)) ?_)) | ((with_reducible show wpAny _ _ (call _ _) _ _ _); k_here; (try dsimp only); (with_reducible show wpAny _ _ (call (Value.ref 175) _) _ _ _); k_dflt (refine' Spec.callB (draw_at _ _ _ _ _ _ _ _ ?e0 ?e1 ?e2 ?e3 ?e4 ?e5) ?k1 ?k2 ?k3 ?k4 ?k5 ?k6 ?k7 ?k8 ?k9 ?ka ?kb ?kc ?_; (case k1 => k_asm); (case k2 => k_asm); (case k3 => k_asm); (case k4 => k_asm); (case k5 => k_asm); (case k6 => first | assumption | exact rfl); (case k7 => first | assumption | exact rfl); (case k8 => k_asm); (case k9 => k_asm); (case ka => rfl); (case kb => rfl); (case kc => exact Nat.le_of_ble_eq_true rfl); (case e0 => assumption); (case e1 => assumption); (case e2 => assumption); (case e3 => assumption); (case e4 => assumption); (case e5 => assumption); k_whole; intro v9 nw9 h9 tk9 hr9 F9 N9; (obtain ⟨d9, t9, q9, e9, hd9, hq9, hs9⟩ := hr9; subst e9; replace N9 := News.sub N9 hs9; clear hs9); revert nw9 h9 tk9 F9 N9 d9 t9 q9 hd9 hq9; intros; (try dsimp only); (try k_fold))) | walk1 | (dsimp only; walk1) | (leave1; try dsimp only) | fail "no step"))
  rename News _ _ _ _ => N9
  exact hret _ _ _ _ ⟨_, List.getElem_mem _, by assumption, fun x hx => hx⟩ (by assumption) N9
end
section
theorem getD_mem {b : List UInt8} {d : Nat} (h : d < b.length) : b.getD ((d : Int)).toNat 0 ∈ b := by
  rw [Int.toNat_natCast, List.getD_eq_getElem?_getD, List.getElem?_eq_getElem h]
  exact List.getElem_mem h
set_option maxRecDepth 100000 in
set_option maxHeartbeats 2000000 in
theorem pick_bytes (w : World) (p c : Addr) (n : Nat) (q : Pen) (b : List UInt8) (tb : Tok) (rest : Led) (hm : 0 < b.length) (hm2 : b.length ≤ 1000) (hq : q.ok n) (hn : n ≤ 1000) (I : Ink c rest) (hoff : ∀ x ∈ rest, x.1 ≠ p) :
    Spec w 10 182 [.ref p, .bytes b.toArray tb] ((p, penO c q) :: rest) (fun v news' => ∃ (x : UInt8) (t' : Tok) (q' : Pen), v = .int (x.toNat : Int) t' ∧ x ∈ b ∧ q'.ok (n + 1) ∧ ∀ x ∈ (p, penO c q') :: rest, x ∈ news') := by
  unfold Spec
  intro dp un gd env outer A₀ mean mg mb base h₀ L m s Q E B F X N T hf hk hdp hun hret
  ((have fill : (∀ w : World, (Mine.hdHeap w.params) = (Mine.hdHeap w.params)) ∧ PySem.Challenge.rw_og0077_01.Holds → True := by ((first | k_fill | skip); exact fun _ => trivial)); clear fill)
  have hE : Enter [(Str.ofString "pen", .ref p), (Str.ofString "some", .bytes b.toArray tb)] (fun y => List.lookup y [(Str.ofString "some", .bytes b.toArray tb), (Str.ofString "pen", .ref p)]) := ⟨⟩
  (k_dflt (refine' enter_plainN (by assumption) ?k1 ?k2 ?k3 ?k4 ?k5 ?kF ?kK ?k6 ?k7 ?k8 ?k9 ?kB ?km ?_ ?c2 ?c3 ?c4 ?c5; (case kF => assumption); (case kK => assumption); (case k1 => k_asm); (case k2 => k_asm); (case k3 => k_asm); (case k4 => k_asm); (case k5 => k_asm); (case k6 => k_is); (case k7 => k_is); (case k8 => ktr_room); (case k9 => exact BindsTo.of_eq rfl); (case km => exact rfl); (case c5 => decide); (case kB => exact locs rfl); (case c2 => exact rfl); (case c3 => exact rfl); (case c4 => exact rfl); k_whole; intro _ _ _ _ _ _ _ _ _ _; (try dsimp only); (try k_fold)))
  (repeat' (first | (k_unfold; (try dsimp only)) | (k_end; wrow_close) | (k_here; (with_reducible show wpAny _ _ (subscriptTail _ _ (Value.ref _) (Value.int (Nat.cast _) _)) _ _ _); (refine item_at (s := ⟨_, _, _, _, _⟩) (by k_asm) (by walk_at "MY mem") (by omega) (List.getElem?_eq_getElem (by assumption)) ?_)) | ((with_reducible show wpAny _ _ (call _ _) _ _ _); k_here; (try dsimp only); (with_reducible show wpAny _ _ (call (Value.ref 175) _) _ _ _); k_dflt (refine' Spec.callB (draw_at _ _ _ _ _ _ _ _ ?e0 ?e1 ?e2 ?e3 ?e4 ?e5) ?k1 ?k2 ?k3 ?k4 ?k5 ?k6 ?k7 ?k8 ?k9 ?ka ?kb ?kc ?_; (case k1 => k_asm); (case k2 => k_asm); (case k3 => k_asm); (case k4 => k_asm); (case k5 => k_asm); (case k6 => first | assumption | exact rfl); (case k7 => first | assumption | exact rfl); (case k8 => k_asm); (case k9 => k_asm); (case ka => rfl); (case kb => rfl); (case kc => exact Nat.le_of_ble_eq_true rfl); (case e0 => assumption); (case e1 => assumption); (case e2 => assumption); (case e3 => assumption); (case e4 => assumption); (case e5 => assumption); k_whole; intro v9 nw9 h9 tk9 hr9 F9 N9; (obtain ⟨d9, t9, q9, e9, hd9, hq9, hs9⟩ := hr9; subst e9; replace N9 := News.sub N9 hs9; clear hs9); revert nw9 h9 tk9 F9 N9 d9 t9 q9 hd9 hq9; intros; (try dsimp only); (try k_fold))) | walk1 | (dsimp only; walk1) | (leave1; try dsimp only) | fail "no step"))
  rename News _ _ _ _ => N9
  exact hret _ _ _ _ ⟨_, _, _, rfl, getD_mem (by assumption), by assumption, fun x hx => hx⟩ (by assumption) N9
end
end
section
theorem off_pen {p : Addr} {a : Addr × Obj} {rest : Led} (h : a.1 ≠ p) (hr : ∀ x ∈ rest, x.1 ≠ p) : ∀ x ∈ a :: rest, x.1 ≠ p := by
  intro x hx
  rcases List.mem_cons.mp hx with rfl | hx
  · exact h
  · exact hr x hx
theorem pen3 {q a b c : Addr × Obj} {rest : Led} : ∀ x ∈ q :: a :: b :: c :: rest, x ∈ a :: b :: c :: q :: rest := by
  intro x hx
  simp only [List.mem_cons] at hx ⊢
  grind
theorem pen2 {q a b : Addr × Obj} {rest : Led} : ∀ x ∈ q :: a :: b :: rest, x ∈ a :: b :: q :: rest := by
  intro x hx
  simp only [List.mem_cons] at hx ⊢
  grind
theorem pen3' {q a b c : Addr × Obj} {rest : Led} : ∀ x ∈ a :: b :: c :: q :: rest, x ∈ q :: a :: b :: c :: rest := by
  intro x hx
  simp only [List.mem_cons] at hx ⊢
  grind
theorem Pen.ok.mono {q : Pen} {a b : Nat} (h : q.ok a) (l : a ≤ b) : q.ok b := ⟨Nat.le_trans h.1 l, h.2⟩
theorem off_swap {P : Addr → Prop} {p : Addr} {o o' : Obj} {r : Led} (h : ∀ x ∈ (p, o) :: r, P x.1) : ∀ x ∈ (p, o') :: r, P x.1 := by
  intro x hx
  rcases List.mem_cons.mp hx with rfl | hx
  · exact h (_, o) (.head _)
  · exact h x (.tail _ hx)
theorem lt_s {a b : Nat} (h : a < b) : a < b + 1 := Nat.lt_succ_of_lt h
theorem mk_bytes {w : World} {A : Around} {E : Value → Shared → Prop} {s : Shared} {h₀ : Heap} {L : Addr} {m : Ns} {news : Led} {D : Addr} {vs : List Value} {k : Nat} {bs : List UInt8} {Q : Value → Shared → Prop} (F : Fr h₀ L s.heap m) (N : News h₀ L s.heap news) (hm : (D, listOf vs.toArray k) ∈ news)
    (hi : IntsAre vs (bs.map fun x => (x.toNat : Int))) (hz : vs.length ≤ 100000) (hh : A.handled = none) (h : ∀ h' t k, Fr h₀ L h' m → News h₀ L h' news → Q (.bytes bs.toArray t) { s with heap := h', toks := k }) : wpAny (model PG w) A (call (.type "bytes") [.ref D]) Q E s := by
  refine bytes_K F N ⟨_, (N _ hm).1, rfl, _, rfl⟩ hi (fun n hn => ?_) (Nat.le_trans hz (Nat.le_of_ble_eq_true rfl)) hh fun h' t k F' N' _ => ?_
  · obtain ⟨x, _, rfl⟩ := List.mem_map.mp hn
    have := x.toNat_lt
    omega
  · have e : ((bs.map fun x => (x.toNat : Int)).map fun n => n.toNat.toUInt8) = bs := by
      rw [List.map_map]
      conv => rhs; rw [← List.map_id bs]
      exact List.map_congr_left fun x _ => by simp
    rw [e]
    exact h h' t k F' N'
section
set_option maxRecDepth 100000 in
set_option maxHeartbeats 2000000 in
theorem text_spec (w : World) (p c : Addr) (n most : Nat) (q : Pen) (b : List UInt8) (tb tm : Tok) (rest : Led) (hm : 0 < b.length) (hm2 : b.length ≤ 100) (hmo : most ≤ 100) (hq : q.ok n) (hn : n ≤ 800) (I : Ink c rest) (hoff : ∀ x ∈ rest, x.1 ≠ p) :
    Spec w 12 187 [.ref p, .bytes b.toArray tb, .int (most : Int) tm] ((p, penO c q) :: rest) (fun v news' => ∃ (o : List UInt8) (t' : Tok) (q' : Pen), v = .bytes o.toArray t' ∧ o.length ≤ most ∧ q'.ok (n + 1 + most) ∧ ∀ x ∈ (p, penO c q') :: rest, x ∈ news') := by
  unfold Spec
  intro dp un gd env outer A₀ mean mg mb base h₀ L m s Q E B F X N T hf hk hdp hun hret
  ((have fill : (∀ w : World, (Mine.hdHeap w.params) = (Mine.hdHeap w.params)) ∧ PySem.Challenge.rw_og0077_01.Holds → True := by ((first | k_fill | skip); exact fun _ => trivial)); clear fill)
  have hE : Enter [(Str.ofString "pen", .ref p), (Str.ofString "some", .bytes b.toArray tb), (Str.ofString "most", .int (most : Int) tm)] (fun y => if y = Str.ofString "most" then some (.int (most : Int) tm) else none) := ⟨⟩
  (k_dflt (refine' enter_cellsN (by assumption) ?k1 ?k2 ?k3 ?k4 ?k5 ?kF ?kK ?k6 ?k7 ?k8 ?k9 ?kB ?kD ?km ?_ ?c2 ?c3 ?c4; (case kF => assumption); (case kK => assumption); (case k1 => k_asm); (case k2 => k_asm); (case k3 => k_asm); (case k4 => k_asm); (case k5 => k_asm); (case k6 => k_is); (case k7 => k_is); (case k8 => ktr_room); (case k9 => exact BindsTo.of_eq rfl); (case kB => exact rfl); (case kD => decide +kernel); (case km => intro _; exact rfl); (case c2 => exact rfl); (case c3 => exact rfl); (case c4 => exact rfl); k_whole; intro _ _ _ _ _ _ _ N' Y' _ _ _ _; k_cells Y'; (try simp only [List.cons_append, List.nil_append] at N'); (try dsimp only); (try k_fold)))
  rename Fr _ _ _ _ => F1
  rename News _ _ _ _ => N1
  rename_i g1 L1 h1 tk1 FG1 B1 X1 T1 lt1 o1 o2 d1 d2
  replace d1 : o1.data = .cell (some (.bytes b.toArray tb)) := d1
  replace d2 : o2.data = .cell (some (.ref p)) := d2
  have hpL : p < L1 := lt1 _ (.head _)
  have hof1 : ∀ x ∈ (L1 + 1 + 1, o1) :: (L1 + 1, o2) :: rest, x.1 ≠ p := off_pen (Nat.ne_of_gt (lt_s (lt_s hpL))) (off_pen (Nat.ne_of_gt (lt_s hpL)) hoff)
  have N2 := News.sub N1 (pen2 (q := (p, penO c q)))
  clear N1
  have I1 : Ink c ((L1 + 1 + 1, o1) :: (L1 + 1, o2) :: rest) := Ink.mono (fun x hx => .tail _ (.tail _ hx)) I
  have hb1 : b.length ≤ 1000 := by omega
  have hmo1 : 0 < most + 1 := Nat.succ_pos _
  have hmo2 : most + 1 ≤ 1000 := by omega
  have hn1 : n ≤ 1000 := by omega
  (repeat' (first | (k_unfold; (try dsimp only)) | (k_end; wrow_close) | ((with_reducible show wpAny _ _ (call _ _) _ _ _); k_here; (try dsimp only); (with_reducible show wpAny _ _ (call (Value.ref 182) _) _ _ _); k_dflt (refine' Spec.callB (pick_bytes _ _ _ _ _ _ _ _ ?e0 ?e1 ?e2 ?e3 ?e4 ?e5) ?k1 ?k2 ?k3 ?k4 ?k5 ?k6 ?k7 ?k8 ?k9 ?ka ?kb ?kc ?_; (case k1 => k_asm); (case k2 => k_asm); (case k3 => k_asm); (case k4 => k_asm); (case k5 => k_asm); (case k6 => first | assumption | exact rfl); (case k7 => first | assumption | exact rfl); (case k8 => k_asm); (case k9 => k_asm); (case ka => rfl); (case kb => rfl); (case kc => exact Nat.le_of_ble_eq_true rfl); (case e0 => assumption); (case e1 => assumption); (case e2 => assumption); (case e3 => assumption); (case e4 => assumption); (case e5 => assumption); k_whole; intro v9 nw9 h9 tk9 hr9 F9 N9; (obtain ⟨x9, t9, q9, e9, hx9, hq9, hs9⟩ := hr9; subst e9; replace N9 := News.sub N9 hs9; clear hs9); revert nw9 h9 tk9 F9 N9 x9 t9 q9 hx9 hq9; intros; (try dsimp only); (try k_fold))) | ((with_reducible show wpAny _ _ (call (Value.type _) _) _ _ _); k_here; k_dflt (refine' mk_bytes ?k1 ?k2 ?k3 ?k4 ?k5 ?k6 ?_; (case k1 => k_asm); (case k2 => k_asm); (case k3 => walk_at "MY mem"); (case k4 => assumption); (case k5 => omega); (case k6 => rfl)); intro _ _ _ _ _) | ((with_reducible show wpAny _ _ (call _ _) _ _ _); k_here; (try dsimp only); (with_reducible show wpAny _ _ (call (Value.ref 175) _) _ _ _); k_dflt (refine' Spec.callB (draw_at _ _ _ _ _ _ _ _ ?e0 ?e1 ?e2 ?e3 ?e4 ?e5) ?k1 ?k2 ?k3 ?k4 ?k5 ?k6 ?k7 ?k8 ?k9 ?ka ?kb ?kc ?_; (case k1 => k_asm); (case k2 => k_asm); (case k3 => k_asm); (case k4 => k_asm); (case k5 => k_asm); (case k6 => first | assumption | exact rfl); (case k7 => first | assumption | exact rfl); (case k8 => k_asm); (case k9 => k_asm); (case ka => rfl); (case kb => rfl); (case kc => exact Nat.le_of_ble_eq_true rfl); (case e0 => assumption); (case e1 => assumption); (case e2 => assumption); (case e3 => assumption); (case e4 => assumption); (case e5 => assumption); k_whole; intro v9 nw9 h9 tk9 hr9 F9 N9; (obtain ⟨d9, t9, q9, e9, hd9, hq9, hs9⟩ := hr9; subst e9; replace N9 := News.sub N9 hs9; clear hs9); revert nw9 h9 tk9 F9 N9 d9 t9 q9 hd9 hq9; intros; (try dsimp only); (try k_fold))) | walk1 | (dsimp only; walk1) | (leave1; try dsimp only) | fail "no step"))
  rename Fr g1 L1 _ _ => F2
  rename News g1 L1 _ _ => N2
  rename_i hr2 _
  rename (_ : Nat) < most + 1 => hd9
  replace hd9 := Nat.le_of_lt_succ hd9
  rename Pen.ok _ _ => hq9
  refine ⟨_, _, _, _, fun i ys nw => ∃ (q' : Pen) (bs : List UInt8), nw = (p, penO c q') :: (L1 + 1 + 1, o1) :: (L1 + 1, o2) :: rest ∧ q'.ok (n + 1 + i) ∧ IntsAre ys (bs.map fun x => (x.toNat : Int)) ∧ bs.length = i, fun i v m => True, Src.rangeN rfl (by assumption) (by omega), F2, N2, fun s₂ => ⟨?_, ?_, ?_, ?_, ?_⟩, ?_⟩
  · rintro i ys nw _ p hp
    cases hp
  · exact ⟨_, [], rfl, hq9, IntsAre.nil, rfl⟩
  · exact Nat.le_trans hd9 (Nat.le_trans hmo (Nat.le_of_ble_eq_true rfl))
  · intro i v C s' m' Q' E' hi hP hn hkeep h
    exact binds_name rfl (by decide) v C s' m' Q' E' hn (fun h'' tk'' m'' hn'' _ hk'' => h h'' tk'' m'' hn'' trivial hk'')
  · rintro i v ys nw I oI C oC D m₂ h tk E' hi hP ⟨q', bs, rfl, hq', hys, hbl⟩ hyl hC _ F3 N3 off ne
    refine opq_test fun PP1 PN1 hPP1 hPN1 => ?_
    refine wpAny_pure ?_
    simp only [if_true]
    have N4 := News.sub N3 pen3
    clear N3
    have hne := off _ (.head _)
    dsimp only at hne
    have hofT := off_pen (a := (I, oI)) (Ne.symm hne.1) (off_pen (a := (C, oC)) (Ne.symm hne.2.1) (off_pen (a := (D, lst ys)) (Ne.symm hne.2.2) hof1))
    have IT := Ink.mono (fun x hx => .tail (I, oI) (.tail (C, oC) (.tail (D, lst ys) hx))) I1
    have hni : n + 1 + i ≤ 1000 := by omega
    (repeat' (first | (k_unfold; (try dsimp only)) | (k_end; wrow_close) | ((with_reducible show wpAny _ _ (call _ _) _ _ _); k_here; (try dsimp only); (with_reducible show wpAny _ _ (call (Value.ref 182) _) _ _ _); k_dflt (refine' Spec.callB (pick_bytes _ _ _ _ _ _ _ _ ?e0 ?e1 ?e2 ?e3 ?e4 ?e5) ?k1 ?k2 ?k3 ?k4 ?k5 ?k6 ?k7 ?k8 ?k9 ?ka ?kb ?kc ?_; (case k1 => k_asm); (case k2 => k_asm); (case k3 => k_asm); (case k4 => k_asm); (case k5 => k_asm); (case k6 => first | assumption | exact rfl); (case k7 => first | assumption | exact rfl); (case k8 => k_asm); (case k9 => k_asm); (case ka => rfl); (case kb => rfl); (case kc => exact Nat.le_of_ble_eq_true rfl); (case e0 => assumption); (case e1 => assumption); (case e2 => assumption); (case e3 => assumption); (case e4 => assumption); (case e5 => assumption); k_whole; intro v9 nw9 h9 tk9 hr9 F9 N9; (obtain ⟨x9, t9, q9, e9, hx9, hq9, hs9⟩ := hr9; subst e9; replace N9 := News.sub N9 hs9; clear hs9); revert nw9 h9 tk9 F9 N9 x9 t9 q9 hx9 hq9; intros; (try dsimp only); (try k_fold))) | ((with_reducible show wpAny _ _ (call (Value.type _) _) _ _ _); k_here; k_dflt (refine' mk_bytes ?k1 ?k2 ?k3 ?k4 ?k5 ?k6 ?_; (case k1 => k_asm); (case k2 => k_asm); (case k3 => walk_at "MY mem"); (case k4 => assumption); (case k5 => omega); (case k6 => rfl)); intro _ _ _ _ _) | ((with_reducible show wpAny _ _ (call _ _) _ _ _); k_here; (try dsimp only); (with_reducible show wpAny _ _ (call (Value.ref 175) _) _ _ _); k_dflt (refine' Spec.callB (draw_at _ _ _ _ _ _ _ _ ?e0 ?e1 ?e2 ?e3 ?e4 ?e5) ?k1 ?k2 ?k3 ?k4 ?k5 ?k6 ?k7 ?k8 ?k9 ?ka ?kb ?kc ?_; (case k1 => k_asm); (case k2 => k_asm); (case k3 => k_asm); (case k4 => k_asm); (case k5 => k_asm); (case k6 => first | assumption | exact rfl); (case k7 => first | assumption | exact rfl); (case k8 => k_asm); (case k9 => k_asm); (case ka => rfl); (case kb => rfl); (case kc => exact Nat.le_of_ble_eq_true rfl); (case e0 => assumption); (case e1 => assumption); (case e2 => assumption); (case e3 => assumption); (case e4 => assumption); (case e5 => assumption); k_whole; intro v9 nw9 h9 tk9 hr9 F9 N9; (obtain ⟨d9, t9, q9, e9, hd9, hq9, hs9⟩ := hr9; subst e9; replace N9 := News.sub N9 hs9; clear hs9); revert nw9 h9 tk9 F9 N9 d9 t9 q9 hd9 hq9; intros; (try dsimp only); (try k_fold))) | walk1 | (dsimp only; walk1) | (leave1; try dsimp only) | fail "no step"))
    rename Fr _ _ _ _ => F9
    rename News _ _ _ _ => N9
    rename Pen.ok _ (_ + 1 + i + 1) => hq9
    first | exact hPP1 _ _ (CEnd.intro _ F9 N9 pen3' (off_swap (P := fun a => a ≠ I ∧ a ≠ C ∧ a ≠ D) off) ⟨_, bs ++ [_], rfl, hq9.mono (by omega), (by rw [List.map_append]; exact IntsAre.append hys (IntsAre.cons _ _ IntsAre.nil)), (by rw [List.length_append, hbl]; rfl)⟩) | exact hPN1 _ (CEnd.intro _ F9 N9 pen3' (off_swap (P := fun a => a ≠ I ∧ a ≠ C ∧ a ≠ D) off) ⟨_, bs ++ [_], rfl, hq9.mono (by omega), (by rw [List.map_append]; exact IntsAre.append hys (IntsAre.cons _ _ IntsAre.nil)), (by rw [List.length_append, hbl]; rfl)⟩)
  · rintro D h tk ys nw ⟨q', bs, rfl, hq', hys, hbl⟩ F3 N3 offD ltD
    have N4 : News g1 L1 h ((D, listOf ys.toArray ys.length) :: (p, penO c q') :: (L1 + 1 + 1, o1) :: (L1 + 1, o2) :: rest) := N3
    clear N3
    have hyl : ys.length ≤ 100000 := by
      have := hys.length
      rw [List.length_map] at this
      omega
    (repeat' (first | (k_unfold; (try dsimp only)) | (k_end; wrow_close) | ((with_reducible show wpAny _ _ (call _ _) _ _ _); k_here; (try dsimp only); (with_reducible show wpAny _ _ (call (Value.ref 182) _) _ _ _); k_dflt (refine' Spec.callB (pick_bytes _ _ _ _ _ _ _ _ ?e0 ?e1 ?e2 ?e3 ?e4 ?e5) ?k1 ?k2 ?k3 ?k4 ?k5 ?k6 ?k7 ?k8 ?k9 ?ka ?kb ?kc ?_; (case k1 => k_asm); (case k2 => k_asm); (case k3 => k_asm); (case k4 => k_asm); (case k5 => k_asm); (case k6 => first | assumption | exact rfl); (case k7 => first | assumption | exact rfl); (case k8 => k_asm); (case k9 => k_asm); (case ka => rfl); (case kb => rfl); (case kc => exact Nat.le_of_ble_eq_true rfl); (case e0 => assumption); (case e1 => assumption); (case e2 => assumption); (case e3 => assumption); (case e4 => assumption); (case e5 => assumption); k_whole; intro v9 nw9 h9 tk9 hr9 F9 N9; (obtain ⟨x9, t9, q9, e9, hx9, hq9, hs9⟩ := hr9; subst e9; replace N9 := News.sub N9 hs9; clear hs9); revert nw9 h9 tk9 F9 N9 x9 t9 q9 hx9 hq9; intros; (try dsimp only); (try k_fold))) | ((with_reducible show wpAny _ _ (call (Value.type _) _) _ _ _); k_here; k_dflt (refine' mk_bytes ?k1 ?k2 ?k3 ?k4 ?k5 ?k6 ?_; (case k1 => k_asm); (case k2 => k_asm); (case k3 => walk_at "MY mem"); (case k4 => assumption); (case k5 => omega); (case k6 => rfl)); intro _ _ _ _ _) | ((with_reducible show wpAny _ _ (call _ _) _ _ _); k_here; (try dsimp only); (with_reducible show wpAny _ _ (call (Value.ref 175) _) _ _ _); k_dflt (refine' Spec.callB (draw_at _ _ _ _ _ _ _ _ ?e0 ?e1 ?e2 ?e3 ?e4 ?e5) ?k1 ?k2 ?k3 ?k4 ?k5 ?k6 ?k7 ?k8 ?k9 ?ka ?kb ?kc ?_; (case k1 => k_asm); (case k2 => k_asm); (case k3 => k_asm); (case k4 => k_asm); (case k5 => k_asm); (case k6 => first | assumption | exact rfl); (case k7 => first | assumption | exact rfl); (case k8 => k_asm); (case k9 => k_asm); (case ka => rfl); (case kb => rfl); (case kc => exact Nat.le_of_ble_eq_true rfl); (case e0 => assumption); (case e1 => assumption); (case e2 => assumption); (case e3 => assumption); (case e4 => assumption); (case e5 => assumption); k_whole; intro v9 nw9 h9 tk9 hr9 F9 N9; (obtain ⟨d9, t9, q9, e9, hd9, hq9, hs9⟩ := hr9; subst e9; replace N9 := News.sub N9 hs9; clear hs9); revert nw9 h9 tk9 F9 N9 d9 t9 q9 hd9 hq9; intros; (try dsimp only); (try k_fold))) | walk1 | (dsimp only; walk1) | (leave1; try dsimp only) | fail "no step"))
    rename News _ _ _ _ => N9
    refine hret _ _ _ _ ⟨bs, _, q', rfl, by omega, hq'.mono (by omega), fun x hx => ?_⟩ (by assumption) N9
    rcases List.mem_cons.mp hx with rfl | hx
    · exact .tail _ (.head _)
    · exact .tail _ (.tail _ (.tail _ (.tail _ hx)))
end
end
section
inductive Pull (x : Addr × Obj) : Led → Led → Prop
  | head {r : Led} : Pull x (x :: r) r
  | tail {y : Addr × Obj} {r r' : Led} : Pull x r r' → Pull x (y :: r) (y :: r')
theorem Pull.sub {x : Addr × Obj} {a b : Led} (U : Pull x a b) : ∀ y ∈ x :: b, y ∈ a := by
  induction U with
  | head => exact fun y h => h
  | tail U ih =>
    intro y hy
    rcases List.mem_cons.mp hy with rfl | hy
    · exact .tail _ (ih _ (.head _))
    · rcases List.mem_cons.mp hy with rfl | hy
      · exact .head _
      · exact .tail _ (ih _ (.tail _ hy))
theorem Spec.sub {w : World} {c : Nat} {f : Addr} {vs : List Value} {a b : Led} {Ret : Value → Led → Prop} (S : Spec w c f vs b Ret) (s : ∀ y ∈ b, y ∈ a) : Spec w c f vs a Ret := by
  unfold Spec at S ⊢
  intro dp un gd env outer A₀ mean mg mb base h₀ L m s Q E B F X N T hf hk hdp hun hret
  exact S dp un gd env outer A₀ mean mg mb base h₀ L m s Q E B F X (fun x hx => N x (by apply_assumption; exact hx)) T hf hk hdp hun hret
theorem pick_list_p (w : World) (p c l : Addr) (n k : Nat) (q : Pen) (vs : List Value) (news rest : Led) (U : Pull (p, penO c q) news rest) (hl : (l, listOf vs.toArray k) ∈ rest) (hm : 0 < vs.length) (hm2 : vs.length ≤ 1000) (hq : q.ok n) (hn : n ≤ 1000) (I : Ink c rest) (hoff : ∀ x ∈ rest, x.1 ≠ p) :
    Spec w 10 182 [.ref p, .ref l] news (fun v news' => ∃ (q' : Pen), v ∈ vs ∧ q'.ok (n + 1) ∧ ∀ x ∈ (p, penO c q') :: rest, x ∈ news') := (pick_list w p c l n k q vs rest hm hm2 hl hq hn I hoff).sub U.sub
theorem pick_bytes_p (w : World) (p c : Addr) (n : Nat) (q : Pen) (b : List UInt8) (tb : Tok) (news rest : Led) (U : Pull (p, penO c q) news rest) (hm : 0 < b.length) (hm2 : b.length ≤ 1000) (hq : q.ok n) (hn : n ≤ 1000) (I : Ink c rest) (hoff : ∀ x ∈ rest, x.1 ≠ p) :
    Spec w 10 182 [.ref p, .bytes b.toArray tb] news (fun v news' => ∃ (x : UInt8) (t' : Tok) (q' : Pen), v = .int (x.toNat : Int) t' ∧ x ∈ b ∧ q'.ok (n + 1) ∧ ∀ x ∈ (p, penO c q') :: rest, x ∈ news') := (pick_bytes w p c n q b tb rest hm hm2 hq hn I hoff).sub U.sub
theorem ne_of_lt_mem' {D p : Addr} {o : Obj} {l : Led} (h : ∀ q ∈ l, q.1 < D) (hm : (p, o) ∈ l) : D ≠ p := Nat.ne_of_gt (h _ hm)
local macro_rules | `(tactic| walk_at "MY pull") => `(tactic| first | (with_reducible exact Pull.head) | ((with_reducible refine' Pull.tail ?u1); (case u1 => walk_at "MY pull")))
local macro_rules | `(tactic| walk_at "MY off") => `(tactic| first | (with_reducible assumption) | (refine' off_pen ?o1 ?o2; (case o1 => first | assumption | exact Ne.symm (by assumption) | exact ne_of_lt_mem' (by assumption) (by walk_at "MY mem")); (case o2 => walk_at "MY off")))
local macro_rules | `(tactic| walk_at "MY ink") => `(tactic| first | (with_reducible assumption) | ((refine Ink.mono (fun x hx => List.Mem.tail _ hx) ?_); walk_at "MY ink"))
def EdgeV (v : Value) : Prop := ∃ (e : Option (List UInt8)) (t : Tok), v = vOpt e t ∧ okOpt e
theorem edge_of {v : Value} {t1 t2 t3 t4 t5 : Tok} (h : v ∈ [Value.none, Value.none, Value.bytes #[65] t1, Value.bytes #[66] t2, Value.bytes #[67] t3, Value.bytes #[65, 66] t4, Value.bytes #[66, 66] t5]) : EdgeV v := by
  simp only [List.mem_cons, List.not_mem_nil, or_false] at h
  rcases h with h | h | h | h | h | h | h
  · exact ⟨none, 0, h, trivial⟩
  · exact ⟨none, 0, h, trivial⟩
  · exact ⟨some _, _, h, by decide, by decide⟩
  · exact ⟨some _, _, h, by decide, by decide⟩
  · exact ⟨some _, _, h, by decide, by decide⟩
  · exact ⟨some _, _, h, by decide, by decide⟩
  · exact ⟨some _, _, h, by decide, by decide⟩
theorem pen4' {q a b c d : Addr × Obj} {rest : Led} : ∀ x ∈ a :: b :: c :: q :: rest, x ∈ q :: d :: a :: b :: c :: rest := by
  intro x hx
  simp only [List.mem_cons] at hx ⊢
  grind
theorem row_tail {q a : Addr × Obj} {rest : Led} : ∀ x ∈ q :: rest, x ∈ q :: a :: rest := by
  intro x hx
  rcases List.mem_cons.mp hx with rfl | hx
  · exact .head _
  · exact .tail _ (.tail _ hx)
theorem row_end {r : Row} {news rest : Led} {h₀ h' : Heap} {L p c : Addr} {v : Value} {q : Pen} {n : Nat} (_N : News h₀ L h' news) (hx : XRow news v r) (hok : r.ok) (hw : ∀ o, r.given.length = (r.fresh o).width) (hq : q.ok n) (hs : ∀ x ∈ (p, penO c q) :: rest, x ∈ news) (hT : ∃ T, v = .ref T ∧ p < T ∧ ∀ x ∈ rest, x.1 < T) :
    ∃ (r : Row) (q' : Pen), XRow news v r ∧ (∃ T, v = .ref T ∧ p < T ∧ ∀ x ∈ rest, x.1 < T) ∧ r.ok ∧ (∀ o, r.given.length = (r.fresh o).width) ∧ q'.ok n ∧ ∀ x ∈ (p, penO c q') :: rest, x ∈ news := ⟨r, q, hx, hT, hok, hw, hq, hs⟩
def KindV (v : Value) : Prop := ∃ (k : Kind) (t : Tok), v = .str k.str t
set_option maxRecDepth 100000 in
set_option maxHeartbeats 2000000 in
theorem row_spec (w : World) (p c kl : Addr) (n kn : Nat) (q : Pen) (kvs : List Value) (rest : Led) (hk0 : 0 < kvs.length) (hk1 : kvs.length ≤ 1000) (hkl : (kl, listOf kvs.toArray kn) ∈ rest) (hkv : ∀ v ∈ kvs, KindV v) (hq : q.ok n) (hn : n ≤ 800) (I : Ink c rest) (hoff : ∀ x ∈ rest, x.1 ≠ p) :
    Spec w 14 192 [.ref p, .ref kl] ((p, penO c q) :: rest) (fun v news' => ∃ (r : Row) (q' : Pen), XRow news' v r ∧ (∃ T, v = .ref T ∧ p < T ∧ ∀ x ∈ rest, x.1 < T) ∧ r.ok ∧ (∀ o, r.given.length = (r.fresh o).width) ∧ q'.ok (n + 7) ∧ ∀ x ∈ (p, penO c q') :: rest, x ∈ news') := by
  unfold Spec
  intro dp un gd env outer A₀ mean mg mb base h₀ L m s Q E B F X N T hf hk hdp hun hret
  ((have fill : (∀ w : World, (Mine.hdHeap w.params) = (Mine.hdHeap w.params)) ∧ PySem.Challenge.rw_og0077_01.Holds → True := by ((first | k_fill | skip); exact fun _ => trivial)); clear fill)
  have hE : Enter [(Str.ofString "pen", .ref p), (Str.ofString "kinds", .ref kl)] (fun y => if y = Str.ofString "kinds" then some (.ref kl) else none) := ⟨⟩
  (k_dflt (refine' enter_cellsN (by assumption) ?k1 ?k2 ?k3 ?k4 ?k5 ?kF ?kK ?k6 ?k7 ?k8 ?k9 ?kB ?kD ?km ?_ ?c2 ?c3 ?c4; (case kF => assumption); (case kK => assumption); (case k1 => k_asm); (case k2 => k_asm); (case k3 => k_asm); (case k4 => k_asm); (case k5 => k_asm); (case k6 => k_is); (case k7 => k_is); (case k8 => ktr_room); (case k9 => exact BindsTo.of_eq rfl); (case kB => exact rfl); (case kD => decide +kernel); (case km => intro _; exact rfl); (case c2 => exact rfl); (case c3 => exact rfl); (case c4 => exact rfl); k_whole; intro _ _ _ _ _ _ _ N' Y' _ _ _ _; k_cells Y'; (try simp only [List.cons_append, List.nil_append] at N'); (try dsimp only); (try k_fold)))
  rename Fr _ _ _ _ => F1
  rename News _ _ _ _ => N1
  rename_i g1 L1 h1 tk1 FG1 B1 X1 T1 lt1 o1 d1
  replace d1 : o1.data = .cell (some (.ref p)) := d1
  have hpL : p < L1 := lt1 _ (.head _)
  have hof1 : ∀ x ∈ (L1 + 1, o1) :: rest, x.1 ≠ p := off_pen (Nat.ne_of_gt (lt_s hpL)) hoff
  have I1 : Ink c ((L1 + 1, o1) :: rest) := Ink.mono (fun x hx => .tail _ hx) I
  have hn1 : n ≤ 1000 := by omega
  (repeat' (first | (k_unfold; (try dsimp only)) | (k_end; wrow_close) | (k_here; (with_reducible show wpAny _ _ (subscriptTail _ (Expr.Slice none _ none _) (Value.bytes (List.toArray _) _) (Value.ref _)) _ _ _); (refine cut_to (y := 1) (s := ⟨_, _, _, _, _⟩) (by k_asm) (by k_asm) (by first | assumption | omega) ?_); intro _ _ _ _ _) | ((with_reducible show wpAny _ _ (call (Value.type _) _) _ _ _); k_here; k_dflt (refine' mk_bytes ?k1 ?k2 ?k3 ?k4 ?k5 ?k6 ?_; (case k1 => k_asm); (case k2 => k_asm); (case k3 => walk_at "MY mem"); (case k4 => assumption); (case k5 => omega); (case k6 => rfl)); intro _ _ _ _ _) | ((with_reducible show wpAny _ _ (call _ _) _ _ _); k_here; (try dsimp only); (with_reducible show wpAny _ _ (call (Value.ref 182) _) _ _ _); k_dflt (refine' Spec.callB (pick_list_p _ _ _ _ _ _ _ _ _ _ ?e0 ?e1 ?e2 ?e3 ?e4 ?e5 ?e6 ?e7) ?k1 ?k2 ?k3 ?k4 ?k5 ?k6 ?k7 ?k8 ?k9 ?ka ?kb ?kc ?_; (case k1 => k_asm); (case k2 => k_asm); (case k3 => k_asm); (case k4 => k_asm); (case k5 => k_asm); (case k6 => first | assumption | exact rfl); (case k7 => first | assumption | exact rfl); (case k8 => k_asm); (case k9 => k_asm); (case ka => rfl); (case kb => rfl); (case kc => exact Nat.le_of_ble_eq_true rfl); (case e0 => walk_at "MY pull"); (case e1 => walk_at "MY mem"); (case e2 => first | assumption | exact Nat.le_of_ble_eq_true rfl); (case e3 => first | assumption | exact Nat.le_of_ble_eq_true rfl); (case e4 => assumption); (case e5 => first | assumption | omega); (case e6 => walk_at "MY ink"); (case e7 => walk_at "MY off"); k_whole; intro v9 nw9 h9 tk9 hr9 F9 N9; (obtain ⟨q9, hv9, hq9, hs9⟩ := hr9; replace N9 := News.sub N9 hs9; clear hs9); revert v9 nw9 h9 tk9 F9 N9 q9 hv9 hq9; intros; (try dsimp only); (try k_fold))) | ((with_reducible show wpAny _ _ (call _ _) _ _ _); k_here; (try dsimp only); (with_reducible show wpAny _ _ (call (Value.ref 182) _) _ _ _); k_dflt (refine' Spec.callB (pick_bytes_p _ _ _ _ _ _ _ _ _ ?e0 ?e1 ?e2 ?e3 ?e4 ?e5 ?e6) ?k1 ?k2 ?k3 ?k4 ?k5 ?k6 ?k7 ?k8 ?k9 ?ka ?kb ?kc ?_; (case k1 => k_asm); (case k2 => k_asm); (case k3 => k_asm); (case k4 => k_asm); (case k5 => k_asm); (case k6 => first | assumption | exact rfl); (case k7 => first | assumption | exact rfl); (case k8 => k_asm); (case k9 => k_asm); (case ka => rfl); (case kb => rfl); (case kc => exact Nat.le_of_ble_eq_true rfl); (case e0 => walk_at "MY pull"); (case e1 => first | assumption | exact Nat.le_of_ble_eq_true rfl); (case e2 => first | assumption | exact Nat.le_of_ble_eq_true rfl); (case e3 => assumption); (case e4 => first | assumption | omega); (case e5 => walk_at "MY ink"); (case e6 => walk_at "MY off"); k_whole; intro v9 nw9 h9 tk9 hr9 F9 N9; (obtain ⟨x9, t9, q9, e9, hx9, hq9, hs9⟩ := hr9; subst e9; replace N9 := News.sub N9 hs9; clear hs9); revert nw9 h9 tk9 F9 N9 x9 t9 q9 hx9 hq9; intros; (try dsimp only); (try k_fold))) | walk1 | (dsimp only; walk1) | (leave1; try dsimp only) | fail "no step"))
  rename Fr g1 L1 _ _ => F2
  rename News g1 L1 _ _ => N2
  rename_i v1 _ _ _ q1 hv1 hq1 l1 _ lt2 v2 _ _ _ q2 hv2 hq2 l2 _ lt3 _ _ _
  have hw : ∃ wn t, v2 = .bytes (List.toArray wn) t ∧ 0 < wn.length ∧ wn.length ≤ 3 := by
    simp only [List.mem_cons, List.not_mem_nil, or_false] at hv2
    rcases hv2 with h | h | h | h | h | h | h <;> exact ⟨_, _, h, by decide, by decide⟩
  clear hv2
  obtain ⟨wn, wt, rfl, hw0, hw3⟩ := hw
  obtain ⟨k, kt, rfl⟩ := hkv _ hv1
  have N3 : News g1 L1 _ ((p, penO c q2) :: (L1 + 1, o1) :: rest) := News.sub N2 (fun x hx => by
    rcases List.mem_cons.mp hx with rfl | hx
    · exact .tail _ (.head _)
    · exact .tail _ (.tail _ (.tail _ hx)))
  clear N2 lt2 lt3
  refine ⟨_, _, _, _, fun i ys nw => ∃ (q' : Pen) (bs : List UInt8), nw = (p, penO c q') :: (L1 + 1, o1) :: rest ∧ q'.ok (n + 2 + i) ∧ IntsAre ys (bs.map fun x => (x.toNat : Int)) ∧ bs.length = i, fun i v m => True, Src.bytes rfl, F2, N3, fun s₂ => ⟨?_, ?_, ?_, ?_, ?_⟩, ?_⟩
  · rintro i ys nw _ p hp
    cases hp
  · exact ⟨_, [], rfl, hq2, IntsAre.nil, rfl⟩
  · exact Nat.le_trans hw3 (Nat.le_of_ble_eq_true rfl)
  · intro i v C s' m' Q' E' hi hP hn hkeep h
    exact binds_name rfl (by decide) v C s' m' Q' E' hn (fun h'' tk'' m'' hn'' _ hk'' => h h'' tk'' m'' hn'' trivial hk'')
  · rintro i v ys nw I oI C oC D m₂ h tk E' hi hP ⟨q', bs, rfl, hq', hys, hbl⟩ hyl hC _ F3 N3 off ne
    refine opq_test fun PP1 PN1 hPP1 hPN1 => ?_
    refine wpAny_pure ?_
    simp only [if_true]
    have hne := off _ (.head _)
    dsimp only at hne
    obtain ⟨ne1, ne2, ne3⟩ := hne
    have hni : n + 2 + i ≤ 1000 := by omega
    (repeat' (first | (k_unfold; (try dsimp only)) | (k_end; wrow_close) | (k_here; (with_reducible show wpAny _ _ (subscriptTail _ (Expr.Slice none _ none _) (Value.bytes (List.toArray _) _) (Value.ref _)) _ _ _); (refine cut_to (y := 1) (s := ⟨_, _, _, _, _⟩) (by k_asm) (by k_asm) (by first | assumption | omega) ?_); intro _ _ _ _ _) | ((with_reducible show wpAny _ _ (call (Value.type _) _) _ _ _); k_here; k_dflt (refine' mk_bytes ?k1 ?k2 ?k3 ?k4 ?k5 ?k6 ?_; (case k1 => k_asm); (case k2 => k_asm); (case k3 => walk_at "MY mem"); (case k4 => assumption); (case k5 => omega); (case k6 => rfl)); intro _ _ _ _ _) | ((with_reducible show wpAny _ _ (call _ _) _ _ _); k_here; (try dsimp only); (with_reducible show wpAny _ _ (call (Value.ref 182) _) _ _ _); k_dflt (refine' Spec.callB (pick_list_p _ _ _ _ _ _ _ _ _ _ ?e0 ?e1 ?e2 ?e3 ?e4 ?e5 ?e6 ?e7) ?k1 ?k2 ?k3 ?k4 ?k5 ?k6 ?k7 ?k8 ?k9 ?ka ?kb ?kc ?_; (case k1 => k_asm); (case k2 => k_asm); (case k3 => k_asm); (case k4 => k_asm); (case k5 => k_asm); (case k6 => first | assumption | exact rfl); (case k7 => first | assumption | exact rfl); (case k8 => k_asm); (case k9 => k_asm); (case ka => rfl); (case kb => rfl); (case kc => exact Nat.le_of_ble_eq_true rfl); (case e0 => walk_at "MY pull"); (case e1 => walk_at "MY mem"); (case e2 => first | assumption | exact Nat.le_of_ble_eq_true rfl); (case e3 => first | assumption | exact Nat.le_of_ble_eq_true rfl); (case e4 => assumption); (case e5 => first | assumption | omega); (case e6 => walk_at "MY ink"); (case e7 => walk_at "MY off"); k_whole; intro v9 nw9 h9 tk9 hr9 F9 N9; (obtain ⟨q9, hv9, hq9, hs9⟩ := hr9; replace N9 := News.sub N9 hs9; clear hs9); revert v9 nw9 h9 tk9 F9 N9 q9 hv9 hq9; intros; (try dsimp only); (try k_fold))) | ((with_reducible show wpAny _ _ (call _ _) _ _ _); k_here; (try dsimp only); (with_reducible show wpAny _ _ (call (Value.ref 182) _) _ _ _); k_dflt (refine' Spec.callB (pick_bytes_p _ _ _ _ _ _ _ _ _ ?e0 ?e1 ?e2 ?e3 ?e4 ?e5 ?e6) ?k1 ?k2 ?k3 ?k4 ?k5 ?k6 ?k7 ?k8 ?k9 ?ka ?kb ?kc ?_; (case k1 => k_asm); (case k2 => k_asm); (case k3 => k_asm); (case k4 => k_asm); (case k5 => k_asm); (case k6 => first | assumption | exact rfl); (case k7 => first | assumption | exact rfl); (case k8 => k_asm); (case k9 => k_asm); (case ka => rfl); (case kb => rfl); (case kc => exact Nat.le_of_ble_eq_true rfl); (case e0 => walk_at "MY pull"); (case e1 => first | assumption | exact Nat.le_of_ble_eq_true rfl); (case e2 => first | assumption | exact Nat.le_of_ble_eq_true rfl); (case e3 => assumption); (case e4 => first | assumption | omega); (case e5 => walk_at "MY ink"); (case e6 => walk_at "MY off"); k_whole; intro v9 nw9 h9 tk9 hr9 F9 N9; (obtain ⟨x9, t9, q9, e9, hx9, hq9, hs9⟩ := hr9; subst e9; replace N9 := News.sub N9 hs9; clear hs9); revert nw9 h9 tk9 F9 N9 x9 t9 q9 hx9 hq9; intros; (try dsimp only); (try k_fold))) | walk1 | (dsimp only; walk1) | (leave1; try dsimp only) | fail "no step"))
    rename Fr _ _ _ _ => F9
    rename News _ _ _ _ => N9
    rename Pen.ok _ (_ + 2 + i + 1) => hq9
    first | exact hPP1 _ _ (CEnd.intro _ F9 N9 pen3' (off_swap (P := fun a => a ≠ I ∧ a ≠ C ∧ a ≠ D) off) ⟨_, bs ++ [_], rfl, hq9.mono (by omega), (by rw [List.map_append]; exact IntsAre.append hys (IntsAre.cons _ _ IntsAre.nil)), (by rw [List.length_append, hbl]; rfl)⟩) | exact hPN1 _ (CEnd.intro _ F9 N9 pen3' (off_swap (P := fun a => a ≠ I ∧ a ≠ C ∧ a ≠ D) off) ⟨_, bs ++ [_], rfl, hq9.mono (by omega), (by rw [List.map_append]; exact IntsAre.append hys (IntsAre.cons _ _ IntsAre.nil)), (by rw [List.length_append, hbl]; rfl)⟩)
  · rintro D h tk ys nw ⟨q', bs, rfl, hq', hys, hbl⟩ F3 N3 offD ltD
    have N4 : News g1 L1 h ((D, listOf ys.toArray ys.length) :: (p, penO c q') :: (L1 + 1, o1) :: rest) := N3
    clear N3
    have hyl : ys.length ≤ 100000 := by
      have := hys.length
      rw [List.length_map] at this
      omega
    (repeat' (first | (k_unfold; (try dsimp only)) | (k_end; wrow_close) | (k_here; (with_reducible show wpAny _ _ (subscriptTail _ (Expr.Slice none _ none _) (Value.bytes (List.toArray _) _) (Value.ref _)) _ _ _); (refine cut_to (y := 1) (s := ⟨_, _, _, _, _⟩) (by k_asm) (by k_asm) (by first | assumption | omega) ?_); intro _ _ _ _ _) | ((with_reducible show wpAny _ _ (call (Value.type _) _) _ _ _); k_here; k_dflt (refine' mk_bytes ?k1 ?k2 ?k3 ?k4 ?k5 ?k6 ?_; (case k1 => k_asm); (case k2 => k_asm); (case k3 => walk_at "MY mem"); (case k4 => assumption); (case k5 => omega); (case k6 => rfl)); intro _ _ _ _ _) | ((with_reducible show wpAny _ _ (call _ _) _ _ _); k_here; (try dsimp only); (with_reducible show wpAny _ _ (call (Value.ref 182) _) _ _ _); k_dflt (refine' Spec.callB (pick_list_p _ _ _ _ _ _ _ _ _ _ ?e0 ?e1 ?e2 ?e3 ?e4 ?e5 ?e6 ?e7) ?k1 ?k2 ?k3 ?k4 ?k5 ?k6 ?k7 ?k8 ?k9 ?ka ?kb ?kc ?_; (case k1 => k_asm); (case k2 => k_asm); (case k3 => k_asm); (case k4 => k_asm); (case k5 => k_asm); (case k6 => first | assumption | exact rfl); (case k7 => first | assumption | exact rfl); (case k8 => k_asm); (case k9 => k_asm); (case ka => rfl); (case kb => rfl); (case kc => exact Nat.le_of_ble_eq_true rfl); (case e0 => walk_at "MY pull"); (case e1 => walk_at "MY mem"); (case e2 => first | assumption | exact Nat.le_of_ble_eq_true rfl); (case e3 => first | assumption | exact Nat.le_of_ble_eq_true rfl); (case e4 => assumption); (case e5 => first | assumption | omega); (case e6 => walk_at "MY ink"); (case e7 => walk_at "MY off"); k_whole; intro v9 nw9 h9 tk9 hr9 F9 N9; (obtain ⟨q9, hv9, hq9, hs9⟩ := hr9; replace N9 := News.sub N9 hs9; clear hs9); revert v9 nw9 h9 tk9 F9 N9 q9 hv9 hq9; intros; (try dsimp only); (try k_fold))) | ((with_reducible show wpAny _ _ (call _ _) _ _ _); k_here; (try dsimp only); (with_reducible show wpAny _ _ (call (Value.ref 182) _) _ _ _); k_dflt (refine' Spec.callB (pick_bytes_p _ _ _ _ _ _ _ _ _ ?e0 ?e1 ?e2 ?e3 ?e4 ?e5 ?e6) ?k1 ?k2 ?k3 ?k4 ?k5 ?k6 ?k7 ?k8 ?k9 ?ka ?kb ?kc ?_; (case k1 => k_asm); (case k2 => k_asm); (case k3 => k_asm); (case k4 => k_asm); (case k5 => k_asm); (case k6 => first | assumption | exact rfl); (case k7 => first | assumption | exact rfl); (case k8 => k_asm); (case k9 => k_asm); (case ka => rfl); (case kb => rfl); (case kc => exact Nat.le_of_ble_eq_true rfl); (case e0 => walk_at "MY pull"); (case e1 => first | assumption | exact Nat.le_of_ble_eq_true rfl); (case e2 => first | assumption | exact Nat.le_of_ble_eq_true rfl); (case e3 => assumption); (case e4 => first | assumption | omega); (case e5 => walk_at "MY ink"); (case e6 => walk_at "MY off"); k_whole; intro v9 nw9 h9 tk9 hr9 F9 N9; (obtain ⟨x9, t9, q9, e9, hx9, hq9, hs9⟩ := hr9; subst e9; replace N9 := News.sub N9 hs9; clear hs9); revert nw9 h9 tk9 F9 N9 x9 t9 q9 hx9 hq9; intros; (try dsimp only); (try k_fold))) | walk1 | (dsimp only; walk1) | (leave1; try dsimp only) | fail "no step"))
    rename Fr g1 L1 _ _ => F5
    rename News g1 L1 _ _ => N5
    have N6 : News g1 L1 _ ((p, penO c q') :: (L1 + 1, o1) :: rest) := fun x hx => N5 x (.tail _ hx)
    clear N5
    refine ⟨2, _, _, _, fun i ys nw => ∃ q' : Pen, nw = (p, penO c q') :: (L1 + 1, o1) :: rest ∧ q'.ok (n + 2 + wn.length + i) ∧ ys.length = i ∧ ∀ y ∈ ys, EdgeV y, fun i v m => True, Src.range rfl (by assumption) (by decide) (by decide), F5, N6, fun s₂ => ⟨?_, ?_, ?_, ?_, ?_⟩, ?_⟩
    · rintro i ys nw _ p hp
      cases hp
    · exact ⟨_, rfl, hq', rfl, fun y hy => by cases hy⟩
    · exact Nat.le_of_ble_eq_true rfl
    · intro i v C s' m' Q' E' hi hP hn hkeep h
      exact binds_name rfl (by decide) v C s' m' Q' E' hn (fun h'' tk'' m'' hn'' _ hk'' => h h'' tk'' m'' hn'' trivial hk'')
    · rintro i v ys nw I oI C oC D m₂ h tk E' hi hP ⟨q', rfl, hq', hyl, hys⟩ hyl2 hC _ F3 N3 off ne
      refine opq_test fun PP2 PN2 hPP2 hPN2 => ?_
      refine wpAny_pure ?_
      simp only [if_true]
      have hne := off _ (.head _)
      dsimp only at hne
      obtain ⟨ne1, ne2, ne3⟩ := hne
      have hni : n + 2 + wn.length + i ≤ 1000 := by omega
      (repeat' (first | (k_unfold; (try dsimp only)) | (k_end; wrow_close) | (k_here; (with_reducible show wpAny _ _ (subscriptTail _ (Expr.Slice none _ none _) (Value.bytes (List.toArray _) _) (Value.ref _)) _ _ _); (refine cut_to (y := 1) (s := ⟨_, _, _, _, _⟩) (by k_asm) (by k_asm) (by first | assumption | omega) ?_); intro _ _ _ _ _) | ((with_reducible show wpAny _ _ (call (Value.type _) _) _ _ _); k_here; k_dflt (refine' mk_bytes ?k1 ?k2 ?k3 ?k4 ?k5 ?k6 ?_; (case k1 => k_asm); (case k2 => k_asm); (case k3 => walk_at "MY mem"); (case k4 => assumption); (case k5 => omega); (case k6 => rfl)); intro _ _ _ _ _) | ((with_reducible show wpAny _ _ (call _ _) _ _ _); k_here; (try dsimp only); (with_reducible show wpAny _ _ (call (Value.ref 182) _) _ _ _); k_dflt (refine' Spec.callB (pick_list_p _ _ _ _ _ _ _ _ _ _ ?e0 ?e1 ?e2 ?e3 ?e4 ?e5 ?e6 ?e7) ?k1 ?k2 ?k3 ?k4 ?k5 ?k6 ?k7 ?k8 ?k9 ?ka ?kb ?kc ?_; (case k1 => k_asm); (case k2 => k_asm); (case k3 => k_asm); (case k4 => k_asm); (case k5 => k_asm); (case k6 => first | assumption | exact rfl); (case k7 => first | assumption | exact rfl); (case k8 => k_asm); (case k9 => k_asm); (case ka => rfl); (case kb => rfl); (case kc => exact Nat.le_of_ble_eq_true rfl); (case e0 => walk_at "MY pull"); (case e1 => walk_at "MY mem"); (case e2 => first | assumption | exact Nat.le_of_ble_eq_true rfl); (case e3 => first | assumption | exact Nat.le_of_ble_eq_true rfl); (case e4 => assumption); (case e5 => first | assumption | omega); (case e6 => walk_at "MY ink"); (case e7 => walk_at "MY off"); k_whole; intro v9 nw9 h9 tk9 hr9 F9 N9; (obtain ⟨q9, hv9, hq9, hs9⟩ := hr9; replace N9 := News.sub N9 hs9; clear hs9); revert v9 nw9 h9 tk9 F9 N9 q9 hv9 hq9; intros; (try dsimp only); (try k_fold))) | ((with_reducible show wpAny _ _ (call _ _) _ _ _); k_here; (try dsimp only); (with_reducible show wpAny _ _ (call (Value.ref 182) _) _ _ _); k_dflt (refine' Spec.callB (pick_bytes_p _ _ _ _ _ _ _ _ _ ?e0 ?e1 ?e2 ?e3 ?e4 ?e5 ?e6) ?k1 ?k2 ?k3 ?k4 ?k5 ?k6 ?k7 ?k8 ?k9 ?ka ?kb ?kc ?_; (case k1 => k_asm); (case k2 => k_asm); (case k3 => k_asm); (case k4 => k_asm); (case k5 => k_asm); (case k6 => first | assumption | exact rfl); (case k7 => first | assumption | exact rfl); (case k8 => k_asm); (case k9 => k_asm); (case ka => rfl); (case kb => rfl); (case kc => exact Nat.le_of_ble_eq_true rfl); (case e0 => walk_at "MY pull"); (case e1 => first | assumption | exact Nat.le_of_ble_eq_true rfl); (case e2 => first | assumption | exact Nat.le_of_ble_eq_true rfl); (case e3 => assumption); (case e4 => first | assumption | omega); (case e5 => walk_at "MY ink"); (case e6 => walk_at "MY off"); k_whole; intro v9 nw9 h9 tk9 hr9 F9 N9; (obtain ⟨x9, t9, q9, e9, hx9, hq9, hs9⟩ := hr9; subst e9; replace N9 := News.sub N9 hs9; clear hs9); revert nw9 h9 tk9 F9 N9 x9 t9 q9 hx9 hq9; intros; (try dsimp only); (try k_fold))) | walk1 | (dsimp only; walk1) | (leave1; try dsimp only) | fail "no step"))
      rename Fr _ _ _ _ => F9
      rename News _ _ _ _ => N9
      rename Pen.ok _ (_ + 2 + wn.length + i + 1) => hq9
      rename _ ∈ [Value.none, _, _, _, _, _, _] => hv9
      exact hPP2 _ _ <| CEnd.intro ((p, penO c _) :: (L1 + 1, o1) :: rest) F9 N9 pen4' (off_swap (P := fun a => a ≠ I ∧ a ≠ C ∧ a ≠ D) off) ⟨_, rfl, hq9.mono (by omega), (by rw [List.length_append, hyl]; rfl), fun y hy => by
        rcases List.mem_append.mp hy with hy | hy
        · exact hys y hy
        · rw [List.mem_singleton.mp hy]; exact edge_of hv9⟩
    · rintro D2 h2 tk2 ys2 nw ⟨q2', rfl, hq2', hyl2, hys2⟩ F3 N3 offD2 ltD2
      obtain ⟨y0, y1, rfl⟩ : ∃ y0 y1, ys2 = [y0, y1] := by
        match ys2, hyl2 with
        | [y0, y1], _ => exact ⟨y0, y1, rfl⟩
      obtain ⟨e0, te0, rfl, he0⟩ := hys2 y0 (.head _)
      obtain ⟨e1, te1, rfl, he1⟩ := hys2 y1 (.tail _ (.head _))
      have N4 : News g1 L1 h2 ((D2, listOf (List.toArray [vOpt e0 te0, vOpt e1 te1]) 2) :: (p, penO c q2') :: (L1 + 1, o1) :: rest) := N3
      clear N3
      have hbs3 : bs.length ≤ 1000 := by omega
      cases k <;> dsimp only [Kind.str] at F3
      all_goals (repeat' (first | (k_unfold; (try dsimp only)) | (k_end; wrow_close) | (k_here; (with_reducible show wpAny _ _ (subscriptTail _ (Expr.Slice none _ none _) (Value.bytes (List.toArray _) _) (Value.ref _)) _ _ _); (refine cut_to (y := 1) (s := ⟨_, _, _, _, _⟩) (by k_asm) (by k_asm) (by first | assumption | omega) ?_); intro _ _ _ _ _) | ((with_reducible show wpAny _ _ (call (Value.type _) _) _ _ _); k_here; k_dflt (refine' mk_bytes ?k1 ?k2 ?k3 ?k4 ?k5 ?k6 ?_; (case k1 => k_asm); (case k2 => k_asm); (case k3 => walk_at "MY mem"); (case k4 => assumption); (case k5 => omega); (case k6 => rfl)); intro _ _ _ _ _) | ((with_reducible show wpAny _ _ (call _ _) _ _ _); k_here; (try dsimp only); (with_reducible show wpAny _ _ (call (Value.ref 182) _) _ _ _); k_dflt (refine' Spec.callB (pick_list_p _ _ _ _ _ _ _ _ _ _ ?e0 ?e1 ?e2 ?e3 ?e4 ?e5 ?e6 ?e7) ?k1 ?k2 ?k3 ?k4 ?k5 ?k6 ?k7 ?k8 ?k9 ?ka ?kb ?kc ?_; (case k1 => k_asm); (case k2 => k_asm); (case k3 => k_asm); (case k4 => k_asm); (case k5 => k_asm); (case k6 => first | assumption | exact rfl); (case k7 => first | assumption | exact rfl); (case k8 => k_asm); (case k9 => k_asm); (case ka => rfl); (case kb => rfl); (case kc => exact Nat.le_of_ble_eq_true rfl); (case e0 => walk_at "MY pull"); (case e1 => walk_at "MY mem"); (case e2 => first | assumption | exact Nat.le_of_ble_eq_true rfl); (case e3 => first | assumption | exact Nat.le_of_ble_eq_true rfl); (case e4 => assumption); (case e5 => first | assumption | omega); (case e6 => walk_at "MY ink"); (case e7 => walk_at "MY off"); k_whole; intro v9 nw9 h9 tk9 hr9 F9 N9; (obtain ⟨q9, hv9, hq9, hs9⟩ := hr9; replace N9 := News.sub N9 hs9; clear hs9); revert v9 nw9 h9 tk9 F9 N9 q9 hv9 hq9; intros; (try dsimp only); (try k_fold))) | ((with_reducible show wpAny _ _ (call _ _) _ _ _); k_here; (try dsimp only); (with_reducible show wpAny _ _ (call (Value.ref 182) _) _ _ _); k_dflt (refine' Spec.callB (pick_bytes_p _ _ _ _ _ _ _ _ _ ?e0 ?e1 ?e2 ?e3 ?e4 ?e5 ?e6) ?k1 ?k2 ?k3 ?k4 ?k5 ?k6 ?k7 ?k8 ?k9 ?ka ?kb ?kc ?_; (case k1 => k_asm); (case k2 => k_asm); (case k3 => k_asm); (case k4 => k_asm); (case k5 => k_asm); (case k6 => first | assumption | exact rfl); (case k7 => first | assumption | exact rfl); (case k8 => k_asm); (case k9 => k_asm); (case ka => rfl); (case kb => rfl); (case kc => exact Nat.le_of_ble_eq_true rfl); (case e0 => walk_at "MY pull"); (case e1 => first | assumption | exact Nat.le_of_ble_eq_true rfl); (case e2 => first | assumption | exact Nat.le_of_ble_eq_true rfl); (case e3 => assumption); (case e4 => first | assumption | omega); (case e5 => walk_at "MY ink"); (case e6 => walk_at "MY off"); k_whole; intro v9 nw9 h9 tk9 hr9 F9 N9; (obtain ⟨x9, t9, q9, e9, hx9, hq9, hs9⟩ := hr9; subst e9; replace N9 := News.sub N9 hs9; clear hs9); revert nw9 h9 tk9 F9 N9 x9 t9 q9 hx9 hq9; intros; (try dsimp only); (try k_fold))) | walk1 | (dsimp only; walk1) | (leave1; try dsimp only) | fail "no step"))
      all_goals (rename Fr h₀ L _ _ => F9; rename News h₀ L _ _ => N9; rename ∀ (p : Addr × Obj), p ∈ _ → p.1 < _ => lt9)
      · exact hret _ _ _ _ (row_end (r := ⟨.all, wn, bs, e0, e1⟩) N9 ⟨_, _, _, _, _, _, rfl, .head _⟩ ⟨Nat.le_trans hw3 (by decide), fun _ => hw0, he0, he1⟩ (fun _ => hbl) (hq2'.mono (by omega)) (fun x hx => .tail _ (.tail _ (row_tail x hx))) ⟨_, rfl, lt9 _ (.tail _ (row_tail _ (.head _))), fun x hx => lt9 x (.tail _ (row_tail x (.tail _ hx)))⟩) F9 N9
      · exact hret _ _ _ _ (row_end (r := ⟨.leading, wn, bs, e0, e1⟩) N9 ⟨_, _, _, _, _, _, rfl, .head _⟩ ⟨Nat.le_trans hw3 (by decide), fun _ => hw0, he0, he1⟩ (fun _ => hbl) (hq2'.mono (by omega)) (fun x hx => .tail _ (.tail _ (row_tail x hx))) ⟨_, rfl, lt9 _ (.tail _ (row_tail _ (.head _))), fun x hx => lt9 x (.tail _ (row_tail x (.tail _ hx)))⟩) F9 N9
      · exact hret _ _ _ _ (row_end (r := ⟨.first, wn, bs, e0, e1⟩) N9 ⟨_, _, _, _, _, _, rfl, .head _⟩ ⟨Nat.le_trans hw3 (by decide), fun _ => hw0, he0, he1⟩ (fun _ => hbl) (hq2'.mono (by omega)) (fun x hx => .tail _ (.tail _ (row_tail x hx))) ⟨_, rfl, lt9 _ (.tail _ (row_tail _ (.head _))), fun x hx => lt9 x (.tail _ (row_tail x (.tail _ hx)))⟩) F9 N9
      · exact hret _ _ _ _ (row_end (r := ⟨.chars, [], bs.take 1, e0, e1⟩) N9 ⟨_, _, 0, _, _, _, rfl, .head _⟩ ⟨Nat.zero_le _, fun h => absurd rfl h, he0, he1⟩ (fun _ => by rw [List.length_take]; exact Nat.min_eq_left (by omega)) (hq2'.mono (by omega)) (fun x hx => .tail _ (.tail _ (row_tail x hx))) ⟨_, rfl, lt9 _ (.tail _ (row_tail _ (.head _))), fun x hx => lt9 x (.tail _ (row_tail x (.tail _ hx)))⟩) F9 N9
end
section
def placesL (o wn : List UInt8) : List Nat := (List.range o.length).filter (fun a => liesAt o wn a)
def nums (ns : List Nat) : List Int := ns.map fun n : Nat => (n : Int)
def IntL (news : Led) (v : Value) (ns : List Nat) : Prop := ∃ l vs k, v = .ref l ∧ (l, listOf (List.toArray vs) k) ∈ news ∧ IntsAre vs (nums ns)
theorem filter_range_succ (p : Nat → Bool) (i : Nat) : (List.range (i + 1)).filter p = (List.range i).filter p ++ (if p i = true then [i] else []) := by
  rw [List.range_succ, List.filter_append]
  congr 1
  cases h : p i <;> simp [h]
theorem lies_eq (o wn : List UInt8) (i : Nat) : (List.take (((i : Int) + (wn.length : Int)).toNat - ((i : Int)).toNat) (List.drop ((i : Int)).toNat o) == wn) = liesAt o wn i := by
  unfold liesAt
  have e : ((i : Int) + (wn.length : Int)).toNat - ((i : Int)).toNat = wn.length := by omega
  rw [e, Int.toNat_natCast]
theorem places_snoc {o wn : List UInt8} {i : Nat} {ys : List Value} {t : Tok} (h : (List.take (((i : Int) + (wn.length : Int)).toNat - ((i : Int)).toNat) (List.drop ((i : Int)).toNat o) == wn) = true) (hy : IntsAre ys (nums ((List.range i).filter (fun a => liesAt o wn a)))) :
    IntsAre (ys ++ [.int (i : Int) t]) (nums ((List.range (i + 1)).filter (fun a => liesAt o wn a))) := by
  rw [lies_eq] at h
  rw [filter_range_succ, if_pos h]
  unfold nums at hy ⊢
  rw [List.map_append]
  exact IntsAre.append hy (IntsAre.cons _ _ IntsAre.nil)
theorem places_skip {o wn : List UInt8} {i : Nat} {ys : List Value} (h : (List.take (((i : Int) + (wn.length : Int)).toNat - ((i : Int)).toNat) (List.drop ((i : Int)).toNat o) == wn) = false) (hy : IntsAre ys (nums ((List.range i).filter (fun a => liesAt o wn a)))) :
    IntsAre ys (nums ((List.range (i + 1)).filter (fun a => liesAt o wn a))) := by
  rw [lies_eq] at h
  rw [filter_range_succ, h, if_neg Bool.false_ne_true, List.append_nil]
  exact hy
set_option maxRecDepth 100000 in
set_option maxHeartbeats 2000000 in
theorem places_spec (w : World) (o wn : List UInt8) (t1 t2 : Tok) (news : Led) (ho : o.length ≤ 1000) (hw : wn.length ≤ 1000) :
    Spec w 4 197 [.bytes o.toArray t1, .bytes wn.toArray t2] news (fun v news' => (∀ p ∈ news, p ∈ news') ∧ IntL news' v (placesL o wn)) := by
  unfold Spec
  intro dp un gd env outer A₀ mean mg mb base h₀ L m s Q E B F X N T hf hk hdp hun hret
  ((have fill : (∀ w : World, (Mine.hdHeap w.params) = (Mine.hdHeap w.params)) ∧ PySem.Challenge.rw_og0077_01.Holds → True := by ((first | k_fill | skip); exact fun _ => trivial)); clear fill)
  have hE : Enter [(Str.ofString "octets", .bytes o.toArray t1), (Str.ofString "wanted", .bytes wn.toArray t2)] (fun y => none) := ⟨⟩
  (k_dflt (refine' enter_cellsN (by assumption) ?k1 ?k2 ?k3 ?k4 ?k5 ?kF ?kK ?k6 ?k7 ?k8 ?k9 ?kB ?kD ?km ?_ ?c2 ?c3 ?c4; (case kF => assumption); (case kK => assumption); (case k1 => k_asm); (case k2 => k_asm); (case k3 => k_asm); (case k4 => k_asm); (case k5 => k_asm); (case k6 => k_is); (case k7 => k_is); (case k8 => ktr_room); (case k9 => exact BindsTo.of_eq rfl); (case kB => exact rfl); (case kD => decide +kernel); (case km => intro _; exact rfl); (case c2 => exact rfl); (case c3 => exact rfl); (case c4 => exact rfl); k_whole; intro _ _ _ _ _ _ _ N' Y' _ _ _ _; k_cells Y'; (try simp only [List.cons_append, List.nil_append] at N'); (try dsimp only); (try k_fold)))
  rename Fr _ _ _ _ => F1
  rename News _ _ _ _ => N1
  rename_i g1 L1 h1 tk1 FG1 B1 X1 T1 lt1 o1 o2 d1 d2
  replace d1 : o1.data = .cell (some (.bytes wn.toArray t2)) := d1
  replace d2 : o2.data = .cell (some (.bytes o.toArray t1)) := d2
  k_steps
  rename Fr g1 L1 _ _ => F2
  rename News g1 L1 _ _ => N2
  refine ⟨_, _, _, _, fun i ys nw => nw = (L1 + 1 + 1, o1) :: (L1 + 1, o2) :: news ∧ IntsAre ys (nums ((List.range i).filter (fun a => liesAt o wn a))), fun i v m => ∃ t, m (Str.ofString "place") = some (.int (i : Int) t), Src.rangeN rfl (by assumption) (by omega), F2, N2, fun s₂ => ⟨?_, ?_, ?_, ?_, ?_⟩, ?_⟩
  · rintro i ys nw _ p hp
    cases hp
  · exact ⟨rfl, IntsAre.nil⟩
  · exact Nat.le_trans ho (Nat.le_of_ble_eq_true rfl)
  · rintro i v C s' m' Q' E' hi ⟨t, rfl⟩ hn hkeep h
    exact binds_name rfl (by decide) _ C s' m' Q' E' hn (fun h'' tk'' m'' hn'' e'' hk'' => h h'' tk'' m'' hn'' ⟨t, e''⟩ hk'')
  · rintro i v ys nw I oI C oC D m₂ h tk E' hi ⟨t, rfl⟩ ⟨rfl, hys⟩ hyl hC ⟨t9, hb⟩ F3 N3 off ne
    refine opq_test fun PP1 PN1 hPP1 hPN1 => ?_
    k_steps
    all_goals (rename Fr _ _ _ _ => F9; rename News _ _ _ _ => N9)
    · first | exact hPP1 _ _ (CEnd.intro _ F9 N9 (fun p hp => hp) off ⟨rfl, places_snoc (by assumption) hys⟩) | exact hPN1 _ (CEnd.intro _ F9 N9 (fun p hp => hp) off ⟨rfl, places_snoc (by assumption) hys⟩)
    · first | exact hPP1 _ _ (CEnd.intro _ F9 N9 (fun p hp => hp) off ⟨rfl, places_skip (by assumption) hys⟩) | exact hPN1 _ (CEnd.intro _ F9 N9 (fun p hp => hp) off ⟨rfl, places_skip (by assumption) hys⟩)
  · rintro D h tk ys nw ⟨rfl, hys⟩ F3 N3 offD ltD
    k_steps
    rename News _ _ _ _ => N9
    exact hret _ _ _ _ ⟨fun p hp => .tail _ (.tail _ (.tail _ hp)), D, ys, ys.length, rfl, .head _, hys⟩ (by assumption) N9
end
section
theorem places_len {o b : List UInt8} {vs : List Value} (h : IntsAre vs (nums (placesL o b))) : vs.length ≤ o.length := by
  rw [h.length]
  unfold nums placesL
  rw [List.length_map]
  exact Nat.le_trans (List.length_filter_le _ _) (by rw [List.length_range]; exact Nat.le_refl _)
set_option linter.unusedVariables false in
theorem item_first {w : World} {A : Around} {E : Value → Shared → Prop} {s : Shared} {Q : Value → Shared → Prop} {h₀ : Heap} {L : Addr} {news : Led} {value slice : PySem.Expr} {l : Addr} {vs : List Value} {ns : List Int} {z : Int} {t u : Tok} {k : Nat} (N : News h₀ L s.heap news) (hm : (l, listOf (List.toArray (vs ++ [Value.int z t])) k) ∈ news) (hi : IntsAre vs ns)
    (h : ∀ t', Q (.int ((ns ++ [z]).headD 0) t') s)
    (hs : subscripted slice false (.ref l) (.int (0 : Int) u) = operate [.ref l, .int (0 : Int) u] (getItem (.ref l) (.int (0 : Int) u)) := by with_unfolding_all rfl) :
    wpAny (model PG w) A (subscriptTail value slice (.ref l) (.int (0 : Int) u)) Q E s := by
  have hx : ∃ t', (vs ++ [.int z t])[0]? = some (.int ((ns ++ [z]).headD 0) t') := by
    cases hi with
    | nil => exact ⟨t, rfl⟩
    | cons n t' hi => exact ⟨t', rfl⟩
  obtain ⟨t', hx⟩ := hx
  exact item_at (i := 0) (s := s) N hm (by decide) hx (h t') hs
theorem head_places {o b : List UInt8} : (nums (placesL o b) ++ [(o.length : Int)]).headD 0 = (endS o (some b) : Nat) := by
  unfold endS firstAt placesL nums
  dsimp only
  rw [← List.head?_filter]
  cases (List.range o.length).filter (fun a => liesAt o b a) <;> rfl
theorem head_places2 {o b : List UInt8} : ((nums (placesL o b)).map (fun x => x + (b.length : Int)) ++ [(o.length : Int)]).headD 0 = (beginS o (some b) : Nat) := by
  unfold beginS firstAt placesL nums
  dsimp only
  rw [← List.head?_filter]
  cases (List.range o.length).filter (fun a => liesAt o b a) <;> rfl
theorem take_snocZ {l : List Int} {i : Nat} {x : Int} (h : l[i]? = some x) : l.take (i + 1) = l.take i ++ [x] := by
  obtain ⟨hi, rfl⟩ := List.getElem?_eq_some_iff.mp h
  rw [List.take_succ_eq_append_getElem hi]
set_option maxRecDepth 100000 in
set_option maxHeartbeats 2000000 in
theorem span_spec (w : World) (o : List UInt8) (ob oa : Option (List UInt8)) (t1 t2 t3 : Tok) (news : Led) (ho : o.length ≤ 1000) (hb : okOpt ob) (ha : okOpt oa) :
    Spec w 6 202 [.bytes o.toArray t1, vOpt ob t2, vOpt oa t3] news (fun v news' => (∀ p ∈ news, p ∈ news') ∧ ∃ T u1 u2, v = .ref T ∧ (T, tupOf [.int (beginS o oa : Nat) u1, .int (endS o ob : Nat) u2]) ∈ news' ∧ ∀ p ∈ news, p.1 < T) := by
  unfold Spec
  intro dp un gd env outer A₀ mean mg mb base h₀ L m s Q E B F X N T hf hk hdp hun hret
  ((have fill : (∀ w : World, (Mine.hdHeap w.params) = (Mine.hdHeap w.params)) ∧ PySem.Challenge.rw_og0077_01.Holds → True := by ((first | k_fill | skip); exact fun _ => trivial)); clear fill)
  cases oa with
  | none =>
    dsimp only [vOpt]
    cases ob with
    | none =>
      have hE : Enter [(Str.ofString "octets", .bytes o.toArray t1), (Str.ofString "before", .none), (Str.ofString "after", .none)] (fun y => if y = Str.ofString "before" then some .none else if y = Str.ofString "octets" then some (.bytes o.toArray t1) else none) := ⟨⟩
      (k_dflt (refine' enter_cellsN (by assumption) ?k1 ?k2 ?k3 ?k4 ?k5 ?kF ?kK ?k6 ?k7 ?k8 ?k9 ?kB ?kD ?km ?_ ?c2 ?c3 ?c4; (case kF => assumption); (case kK => assumption); (case k1 => k_asm); (case k2 => k_asm); (case k3 => k_asm); (case k4 => k_asm); (case k5 => k_asm); (case k6 => k_is); (case k7 => k_is); (case k8 => ktr_room); (case k9 => exact BindsTo.of_eq rfl); (case kB => exact rfl); (case kD => decide +kernel); (case km => intro _; exact rfl); (case c2 => exact rfl); (case c3 => exact rfl); (case c4 => exact rfl); k_whole; intro _ _ _ _ _ _ _ N' Y' _ _ _ _; k_cells Y'; (try simp only [List.cons_append, List.nil_append] at N'); (try dsimp only); (try k_fold)))
      (repeat' (first | (k_unfold; (try dsimp only)) | (k_end; wrow_close) | (k_here; (with_reducible show wpAny _ _ (subscriptTail _ _ (Value.ref _) (Value.int 0 _)) _ _ _); (refine item_first (s := ⟨_, _, _, _, _⟩) (by k_asm) (by walk_at "MY mem") (by assumption) ?_); intro _) | ((with_reducible show wpAny _ _ (binaryOp Operator.Add (Value.ref _) (Value.ref _)) _ _ _); k_here; k_dflt (refine add_l (by k_asm) (by k_asm) (by walk_at "MY mem") (by walk_at "MY mem") (by first | omega | (simp only [List.length_append, List.length_cons, List.length_nil]; omega)) ?_); intro _ _ _ _ _) | ((with_reducible show wpAny _ _ (call _ _) _ _ _); k_here; (try dsimp only); (with_reducible show wpAny _ _ (call (Value.ref 197) _) _ _ _); k_dflt (refine' Spec.callB (places_spec _ _ _ _ _ _ ?e0 ?e1) ?k1 ?k2 ?k3 ?k4 ?k5 ?k6 ?k7 ?k8 ?k9 ?ka ?kb ?kc ?_; (case k1 => k_asm); (case k2 => k_asm); (case k3 => k_asm); (case k4 => k_asm); (case k5 => k_asm); (case k6 => first | assumption | exact rfl); (case k7 => first | assumption | exact rfl); (case k8 => k_asm); (case k9 => k_asm); (case ka => rfl); (case kb => rfl); (case kc => exact Nat.le_of_ble_eq_true rfl); (case e0 => assumption); (case e1 => assumption); k_whole; intro v9 nw9 h9 tk9 hr9 F9 N9; (obtain ⟨e9, l9, vs9, k9, e8, hm9, hi9⟩ := hr9; subst e8; have hz9 := places_len hi9); revert nw9 h9 tk9 F9 N9 e9 l9 vs9 k9 hm9 hi9 hz9; intros; (try dsimp only); (try k_fold))) | walk1 | (dsimp only; walk1) | (leave1; try dsimp only) | fail "no step"))
      rename Fr h₀ L _ _ => F9
      rename News h₀ L _ _ => N9
      rename ∀ (p : Addr × Obj), p ∈ _ → p.1 < _ => lt9
      exact hret _ _ _ _ ⟨fun p hp => .tail _ (.tail _ hp), _, _, _, rfl, .head _, fun p hp => lt9 _ (.tail _ hp)⟩ F9 N9
    | some b =>
      obtain ⟨hb0, hb1⟩ := hb
      have hE : Enter [(Str.ofString "octets", .bytes o.toArray t1), (Str.ofString "before", .bytes b.toArray t2), (Str.ofString "after", .none)] (fun y => if y = Str.ofString "before" then some (.bytes b.toArray t2) else if y = Str.ofString "octets" then some (.bytes o.toArray t1) else none) := ⟨⟩
      (k_dflt (refine' enter_cellsN (by assumption) ?k1 ?k2 ?k3 ?k4 ?k5 ?kF ?kK ?k6 ?k7 ?k8 ?k9 ?kB ?kD ?km ?_ ?c2 ?c3 ?c4; (case kF => assumption); (case kK => assumption); (case k1 => k_asm); (case k2 => k_asm); (case k3 => k_asm); (case k4 => k_asm); (case k5 => k_asm); (case k6 => k_is); (case k7 => k_is); (case k8 => ktr_room); (case k9 => exact BindsTo.of_eq rfl); (case kB => exact rfl); (case kD => decide +kernel); (case km => intro _; exact rfl); (case c2 => exact rfl); (case c3 => exact rfl); (case c4 => exact rfl); k_whole; intro _ _ _ _ _ _ _ N' Y' _ _ _ _; k_cells Y'; (try simp only [List.cons_append, List.nil_append] at N'); (try dsimp only); (try k_fold)))
      (repeat' (first | (k_unfold; (try dsimp only)) | (k_end; wrow_close) | (k_here; (with_reducible show wpAny _ _ (subscriptTail _ _ (Value.ref _) (Value.int 0 _)) _ _ _); (refine item_first (s := ⟨_, _, _, _, _⟩) (by k_asm) (by walk_at "MY mem") (by assumption) ?_); intro _) | ((with_reducible show wpAny _ _ (binaryOp Operator.Add (Value.ref _) (Value.ref _)) _ _ _); k_here; k_dflt (refine add_l (by k_asm) (by k_asm) (by walk_at "MY mem") (by walk_at "MY mem") (by first | omega | (simp only [List.length_append, List.length_cons, List.length_nil]; omega)) ?_); intro _ _ _ _ _) | ((with_reducible show wpAny _ _ (call _ _) _ _ _); k_here; (try dsimp only); (with_reducible show wpAny _ _ (call (Value.ref 197) _) _ _ _); k_dflt (refine' Spec.callB (places_spec _ _ _ _ _ _ ?e0 ?e1) ?k1 ?k2 ?k3 ?k4 ?k5 ?k6 ?k7 ?k8 ?k9 ?ka ?kb ?kc ?_; (case k1 => k_asm); (case k2 => k_asm); (case k3 => k_asm); (case k4 => k_asm); (case k5 => k_asm); (case k6 => first | assumption | exact rfl); (case k7 => first | assumption | exact rfl); (case k8 => k_asm); (case k9 => k_asm); (case ka => rfl); (case kb => rfl); (case kc => exact Nat.le_of_ble_eq_true rfl); (case e0 => assumption); (case e1 => assumption); k_whole; intro v9 nw9 h9 tk9 hr9 F9 N9; (obtain ⟨e9, l9, vs9, k9, e8, hm9, hi9⟩ := hr9; subst e8; have hz9 := places_len hi9); revert nw9 h9 tk9 F9 N9 e9 l9 vs9 k9 hm9 hi9 hz9; intros; (try dsimp only); (try k_fold))) | walk1 | (dsimp only; walk1) | (leave1; try dsimp only) | fail "no step"))
      rename Fr h₀ L _ _ => F9
      rename News h₀ L _ _ => N9
      rename ∀ p ∈ _ :: news, p ∈ _ => e9
      rw [head_places] at N9
      rename ∀ (p : Addr × Obj), p ∈ _ → p.1 < _ => lt9
      exact hret _ _ _ _ ⟨fun p hp => .tail _ (.tail _ (.tail _ (e9 _ (.tail _ hp)))), _, _, _, rfl, .head _, fun p hp => lt9 _ (.tail _ (.tail _ (e9 _ (.tail _ hp))))⟩ F9 N9
  | some a =>
    obtain ⟨ha0, ha1⟩ := ha
    have hE : Enter [(Str.ofString "octets", .bytes o.toArray t1), (Str.ofString "before", vOpt ob t2), (Str.ofString "after", .bytes a.toArray t3)] (fun y => if y = Str.ofString "before" then some (vOpt ob t2) else if y = Str.ofString "octets" then some (.bytes o.toArray t1) else none) := ⟨⟩
    dsimp only [vOpt]
    (k_dflt (refine' enter_cellsN (by assumption) ?k1 ?k2 ?k3 ?k4 ?k5 ?kF ?kK ?k6 ?k7 ?k8 ?k9 ?kB ?kD ?km ?_ ?c2 ?c3 ?c4; (case kF => assumption); (case kK => assumption); (case k1 => k_asm); (case k2 => k_asm); (case k3 => k_asm); (case k4 => k_asm); (case k5 => k_asm); (case k6 => k_is); (case k7 => k_is); (case k8 => ktr_room); (case k9 => exact BindsTo.of_eq rfl); (case kB => exact rfl); (case kD => decide +kernel); (case km => intro _; exact rfl); (case c2 => exact rfl); (case c3 => exact rfl); (case c4 => exact rfl); k_whole; intro _ _ _ _ _ _ _ N' Y' _ _ _ _; k_cells Y'; (try simp only [List.cons_append, List.nil_append] at N'); (try dsimp only); (try k_fold)))
    rename_i g1 L1 h1 tk1 FG1 _ B1 X1 T1 lt1 o1 d1
    replace d1 : o1.data = .cell (some (.bytes a.toArray t3)) := d1
    (repeat' (first | (k_unfold; (try dsimp only)) | (k_end; wrow_close) | (k_here; (with_reducible show wpAny _ _ (subscriptTail _ _ (Value.ref _) (Value.int 0 _)) _ _ _); (refine item_first (s := ⟨_, _, _, _, _⟩) (by k_asm) (by walk_at "MY mem") (by assumption) ?_); intro _) | ((with_reducible show wpAny _ _ (binaryOp Operator.Add (Value.ref _) (Value.ref _)) _ _ _); k_here; k_dflt (refine add_l (by k_asm) (by k_asm) (by walk_at "MY mem") (by walk_at "MY mem") (by first | omega | (simp only [List.length_append, List.length_cons, List.length_nil]; omega)) ?_); intro _ _ _ _ _) | ((with_reducible show wpAny _ _ (call _ _) _ _ _); k_here; (try dsimp only); (with_reducible show wpAny _ _ (call (Value.ref 197) _) _ _ _); k_dflt (refine' Spec.callB (places_spec _ _ _ _ _ _ ?e0 ?e1) ?k1 ?k2 ?k3 ?k4 ?k5 ?k6 ?k7 ?k8 ?k9 ?ka ?kb ?kc ?_; (case k1 => k_asm); (case k2 => k_asm); (case k3 => k_asm); (case k4 => k_asm); (case k5 => k_asm); (case k6 => first | assumption | exact rfl); (case k7 => first | assumption | exact rfl); (case k8 => k_asm); (case k9 => k_asm); (case ka => rfl); (case kb => rfl); (case kc => exact Nat.le_of_ble_eq_true rfl); (case e0 => assumption); (case e1 => assumption); k_whole; intro v9 nw9 h9 tk9 hr9 F9 N9; (obtain ⟨e9, l9, vs9, k9, e8, hm9, hi9⟩ := hr9; subst e8; have hz9 := places_len hi9); revert nw9 h9 tk9 F9 N9 e9 l9 vs9 k9 hm9 hi9 hz9; intros; (try dsimp only); (try k_fold))) | walk1 | (dsimp only; walk1) | (leave1; try dsimp only) | fail "no step"))
    rename Fr g1 L1 _ _ => F2
    rename News g1 L1 _ _ => N2
    rename_i nw2 h2 tk2 e2 l2 vs2 k2 hm2 hi2 hz2
    have hc2 : (L1 + 1, o1) ∈ nw2 := e2 _ (.head _)
    refine ⟨vs2.length, fun i v => vs2[i]? = some v, _, _, fun i ys nw => nw = nw2 ∧ IntsAre ys (((nums (placesL o a)).take i).map (fun x => x + (a.length : Int))), fun i v m => m (Str.ofString "place") = some v, Src.list rfl N2 hm2, F2, N2, fun s₂ => ⟨?_, ?_, ?_, ?_, ?_⟩, ?_⟩
    · rintro i ys nw ⟨rfl, _⟩ p hp
      exact hp
    · exact ⟨rfl, IntsAre.nil⟩
    · exact Nat.le_trans hz2 (Nat.le_trans ho (Nat.le_of_ble_eq_true rfl))
    · intro i v C s' m' Q' E' hi hP hn hkeep h
      exact binds_name rfl (by decide) v C s' m' Q' E' hn (fun h'' tk'' m'' hn'' e'' hk'' => h h'' tk'' m'' hn'' e'' hk'')
    · rintro i v ys nw I oI C oC D m₂ h tk E' hi hP ⟨rfl, hys⟩ hyl hC hb F3 N3 off ne
      refine opq_test fun PP1 PN1 hPP1 hPN1 => ?_
      obtain ⟨z, t9, rfl, hz⟩ := hi2.at i v hP
      refine wpAny_pure ?_
      simp only [if_true]
      (repeat' (first | (k_unfold; (try dsimp only)) | (k_end; wrow_close) | (k_here; (with_reducible show wpAny _ _ (subscriptTail _ _ (Value.ref _) (Value.int 0 _)) _ _ _); (refine item_first (s := ⟨_, _, _, _, _⟩) (by k_asm) (by walk_at "MY mem") (by assumption) ?_); intro _) | ((with_reducible show wpAny _ _ (binaryOp Operator.Add (Value.ref _) (Value.ref _)) _ _ _); k_here; k_dflt (refine add_l (by k_asm) (by k_asm) (by walk_at "MY mem") (by walk_at "MY mem") (by first | omega | (simp only [List.length_append, List.length_cons, List.length_nil]; omega)) ?_); intro _ _ _ _ _) | ((with_reducible show wpAny _ _ (call _ _) _ _ _); k_here; (try dsimp only); (with_reducible show wpAny _ _ (call (Value.ref 197) _) _ _ _); k_dflt (refine' Spec.callB (places_spec _ _ _ _ _ _ ?e0 ?e1) ?k1 ?k2 ?k3 ?k4 ?k5 ?k6 ?k7 ?k8 ?k9 ?ka ?kb ?kc ?_; (case k1 => k_asm); (case k2 => k_asm); (case k3 => k_asm); (case k4 => k_asm); (case k5 => k_asm); (case k6 => first | assumption | exact rfl); (case k7 => first | assumption | exact rfl); (case k8 => k_asm); (case k9 => k_asm); (case ka => rfl); (case kb => rfl); (case kc => exact Nat.le_of_ble_eq_true rfl); (case e0 => assumption); (case e1 => assumption); k_whole; intro v9 nw9 h9 tk9 hr9 F9 N9; (obtain ⟨e9, l9, vs9, k9, e8, hm9, hi9⟩ := hr9; subst e8; have hz9 := places_len hi9); revert nw9 h9 tk9 F9 N9 e9 l9 vs9 k9 hm9 hi9 hz9; intros; (try dsimp only); (try k_fold))) | walk1 | (dsimp only; walk1) | (leave1; try dsimp only) | fail "no step"))
      rename Fr _ _ _ _ => F9
      rename News _ _ _ _ => N9
      refine hPP1 _ _ <| CEnd.intro _ F9 N9 (fun p hp => hp) off ⟨rfl, ?_⟩
      rw [take_snocZ hz, List.map_append]
      exact IntsAre.append hys (IntsAre.cons _ _ IntsAre.nil)
    · rintro D h tk ys nw ⟨rfl, hys⟩ F3 N3 offD ltD
      have N4 : News g1 L1 h ((D, listOf ys.toArray ys.length) :: nw) := N3
      clear N3
      have hyz : ys.length ≤ o.length := by
        rw [hys.length, List.length_map, List.length_take]
        omega
      rw [hi2.length, List.take_length] at hys
      cases ob with
      | none =>
        dsimp only [vOpt] at F3
        (repeat' (first | (k_unfold; (try dsimp only)) | (k_end; wrow_close) | (k_here; (with_reducible show wpAny _ _ (subscriptTail _ _ (Value.ref _) (Value.int 0 _)) _ _ _); (refine item_first (s := ⟨_, _, _, _, _⟩) (by k_asm) (by walk_at "MY mem") (by assumption) ?_); intro _) | ((with_reducible show wpAny _ _ (binaryOp Operator.Add (Value.ref _) (Value.ref _)) _ _ _); k_here; k_dflt (refine add_l (by k_asm) (by k_asm) (by walk_at "MY mem") (by walk_at "MY mem") (by first | omega | (simp only [List.length_append, List.length_cons, List.length_nil]; omega)) ?_); intro _ _ _ _ _) | ((with_reducible show wpAny _ _ (call _ _) _ _ _); k_here; (try dsimp only); (with_reducible show wpAny _ _ (call (Value.ref 197) _) _ _ _); k_dflt (refine' Spec.callB (places_spec _ _ _ _ _ _ ?e0 ?e1) ?k1 ?k2 ?k3 ?k4 ?k5 ?k6 ?k7 ?k8 ?k9 ?ka ?kb ?kc ?_; (case k1 => k_asm); (case k2 => k_asm); (case k3 => k_asm); (case k4 => k_asm); (case k5 => k_asm); (case k6 => first | assumption | exact rfl); (case k7 => first | assumption | exact rfl); (case k8 => k_asm); (case k9 => k_asm); (case ka => rfl); (case kb => rfl); (case kc => exact Nat.le_of_ble_eq_true rfl); (case e0 => assumption); (case e1 => assumption); k_whole; intro v9 nw9 h9 tk9 hr9 F9 N9; (obtain ⟨e9, l9, vs9, k9, e8, hm9, hi9⟩ := hr9; subst e8; have hz9 := places_len hi9); revert nw9 h9 tk9 F9 N9 e9 l9 vs9 k9 hm9 hi9 hz9; intros; (try dsimp only); (try k_fold))) | walk1 | (dsimp only; walk1) | (leave1; try dsimp only) | fail "no step"))
        rename Fr h₀ L _ _ => F9
        rename News h₀ L _ _ => N9
        rw [head_places2] at N9
        rename ∀ (p : Addr × Obj), p ∈ _ → p.1 < _ => lt9
        exact hret _ _ _ _ ⟨fun p hp => .tail _ (.tail _ (.tail _ (.tail _ (e2 _ (.tail _ hp))))), _, _, _, rfl, .head _, fun p hp => lt9 _ (.tail _ (.tail _ (.tail _ (e2 _ (.tail _ hp)))))⟩ F9 N9
      | some b =>
        obtain ⟨hb0, hb1⟩ := hb
        dsimp only [vOpt] at F3
        (repeat' (first | (k_unfold; (try dsimp only)) | (k_end; wrow_close) | (k_here; (with_reducible show wpAny _ _ (subscriptTail _ _ (Value.ref _) (Value.int 0 _)) _ _ _); (refine item_first (s := ⟨_, _, _, _, _⟩) (by k_asm) (by walk_at "MY mem") (by assumption) ?_); intro _) | ((with_reducible show wpAny _ _ (binaryOp Operator.Add (Value.ref _) (Value.ref _)) _ _ _); k_here; k_dflt (refine add_l (by k_asm) (by k_asm) (by walk_at "MY mem") (by walk_at "MY mem") (by first | omega | (simp only [List.length_append, List.length_cons, List.length_nil]; omega)) ?_); intro _ _ _ _ _) | ((with_reducible show wpAny _ _ (call _ _) _ _ _); k_here; (try dsimp only); (with_reducible show wpAny _ _ (call (Value.ref 197) _) _ _ _); k_dflt (refine' Spec.callB (places_spec _ _ _ _ _ _ ?e0 ?e1) ?k1 ?k2 ?k3 ?k4 ?k5 ?k6 ?k7 ?k8 ?k9 ?ka ?kb ?kc ?_; (case k1 => k_asm); (case k2 => k_asm); (case k3 => k_asm); (case k4 => k_asm); (case k5 => k_asm); (case k6 => first | assumption | exact rfl); (case k7 => first | assumption | exact rfl); (case k8 => k_asm); (case k9 => k_asm); (case ka => rfl); (case kb => rfl); (case kc => exact Nat.le_of_ble_eq_true rfl); (case e0 => assumption); (case e1 => assumption); k_whole; intro v9 nw9 h9 tk9 hr9 F9 N9; (obtain ⟨e9, l9, vs9, k9, e8, hm9, hi9⟩ := hr9; subst e8; have hz9 := places_len hi9); revert nw9 h9 tk9 F9 N9 e9 l9 vs9 k9 hm9 hi9 hz9; intros; (try dsimp only); (try k_fold))) | walk1 | (dsimp only; walk1) | (leave1; try dsimp only) | fail "no step"))
        rename Fr h₀ L _ _ => F9
        rename News h₀ L _ _ => N9
        rename ∀ p ∈ _ :: _ :: _ :: nw, p ∈ _ => e9

        rw [head_places2, head_places] at N9
        rename ∀ (p : Addr × Obj), p ∈ _ → p.1 < _ => lt9
        exact hret _ _ _ _ ⟨fun p hp => .tail _ (.tail _ (.tail _ (e9 _ (.tail _ (.tail _ (.tail _ (e2 _ (.tail _ hp)))))))), _, _, _, rfl, .head _, fun p hp => lt9 _ (.tail _ (.tail _ (e9 _ (.tail _ (.tail _ (.tail _ (e2 _ (.tail _ hp))))))))⟩ F9 N9
end
section
def Row.size (r : Row) : Nat := match r.kind with
  | .chars => 1
  | _ => r.wanted.length
/-- the law's own test -/
def hitS (o : List UInt8) (r : Row) (sp : Nat × Nat) (st : List Bool) (a : Nat) : Bool :=
  if a < sp.1 ∨ a + r.size > sp.2 ∨ (r.kind = .leading ∧ false ∈ st) ∨ (r.kind = .first ∧ true ∈ st) then false
  else decide (r.kind = .chars) || liesAt o r.wanted a
theorem hit_false {o : List UInt8} {r : Row} {sp : Nat × Nat} {st : List Bool} {a : Nat} (h : a < sp.1 ∨ a + r.size > sp.2 ∨ (r.kind = .leading ∧ false ∈ st) ∨ (r.kind = .first ∧ true ∈ st)) : hitS o r sp st a = false := if_pos h
theorem hit_open {o : List UInt8} {r : Row} {sp : Nat × Nat} {st : List Bool} {a : Nat} (h1 : ¬ a < sp.1) (h2 : ¬ a + r.size > sp.2) (h3 : r.kind = .leading → ¬ false ∈ st) (h4 : r.kind = .first → ¬ true ∈ st) : hitS o r sp st a = (decide (r.kind = .chars) || liesAt o r.wanted a) :=
  if_neg (fun h => h.elim h1 fun h => h.elim h2 fun h => h.elim (fun h => h3 h.1 h.2) fun h => h4 h.1 h.2)
theorem cut_lies (o wn : List UInt8) (i : Nat) : (List.take (((i : Int) + (wn.length : Int)).toNat - ((i : Int)).toNat) (List.drop ((i : Int)).toNat o) == wn) = liesAt o wn i := by
  unfold liesAt
  have e : ((i : Int) + (wn.length : Int)).toNat - ((i : Int)).toNat = wn.length := by omega
  rw [e, Int.toNat_natCast]
set_option maxRecDepth 100000 in
set_option maxHeartbeats 2000000 in
theorem is_hit_spec (w : World) (o : List UInt8) (r : Row) (sp : Nat × Nat) (st : List Bool) (a : Nat) (t1 t2 u1 u2 k1 k2 k3 k4 k5 : Tok) (ra sa da : Addr) (n : Nat) (news : Led) (ho : o.length ≤ 1000) (hr : r.wanted.length ≤ 1000)
    (hT : (ra, tupOf [.str r.kind.str k1, wvOf r.kind r.wanted k2, .bytes r.given.toArray k3, vOpt r.before k4, vOpt r.after k5]) ∈ news) (hS : (sa, tupOf [.int (sp.1 : Int) u1, .int (sp.2 : Int) u2]) ∈ news) (hD : (da, listOf (st.map Value.bool).toArray n) ∈ news) :
    Spec w 8 209 [.bytes o.toArray t1, .ref ra, .ref sa, .ref da, .int (a : Int) t2] news (fun v news' => (∀ p ∈ news, p ∈ news') ∧ v = .bool (hitS o r sp st a)) := by
  unfold Spec
  intro dp un gd env outer A₀ mean mg mb base h₀ L m s Q E B F X N T hf hk hdp hun hret
  ((have fill : (∀ w : World, (Mine.hdHeap w.params) = (Mine.hdHeap w.params)) ∧ PySem.Challenge.rw_og0077_01.Holds → True := by ((first | k_fill | skip); exact fun _ => trivial)); clear fill)
  have hE : Enter [(Str.ofString "octets", .bytes o.toArray t1), (Str.ofString "row", .ref ra), (Str.ofString "span", .ref sa), (Str.ofString "stood", .ref da), (Str.ofString "place", .int (a : Int) t2)] (fun y => List.lookup y [(Str.ofString "place", .int (a : Int) t2), (Str.ofString "stood", .ref da), (Str.ofString "span", .ref sa), (Str.ofString "row", .ref ra), (Str.ofString "octets", .bytes o.toArray t1)]) := ⟨⟩
  cases hkk : r.kind <;> simp only [hkk, Kind.str, wvOf] at hT
  all_goals (have hsz : r.size = match r.kind with | .chars => 1 | _ => r.wanted.length := rfl)
  all_goals (simp only [hkk] at hsz)
  all_goals ((k_dflt (refine' enter_plainN (by assumption) ?k1 ?k2 ?k3 ?k4 ?k5 ?kF ?kK ?k6 ?k7 ?k8 ?k9 ?kB ?km ?_ ?c2 ?c3 ?c4 ?c5; (case kF => assumption); (case kK => assumption); (case k1 => k_asm); (case k2 => k_asm); (case k3 => k_asm); (case k4 => k_asm); (case k5 => k_asm); (case k6 => k_is); (case k7 => k_is); (case k8 => ktr_room); (case k9 => exact BindsTo.of_eq rfl); (case km => exact rfl); (case c5 => decide); (case kB => exact locs rfl); (case c2 => exact rfl); (case c3 => exact rfl); (case c4 => exact rfl); k_whole; intro _ _ _ _ _ _ _ _ _ _; (try dsimp only); (try k_fold))); (repeat' (first | (k_unfold; (try dsimp only)) | (k_end; wrow_close) | (k_here; (with_reducible show wpAny _ _ (compareOp CmpOp.In (Value.bool _) (Value.ref _)) _ _ _); (refine in_bools (by k_asm) (by walk_at "MY mem") (by walk_at "MY units") ?_)) | (k_here; (with_reducible show wpAny _ _ (subscriptTail _ _ (Value.ref _) (Value.int 1 _)) _ _ _); (refine tup_at (i := 1) (s := ⟨_, _, _, _, _⟩) (by k_asm) (by walk_at "MY mem") (by decide) (by exact rfl) ?_)) | (k_here; (with_reducible show wpAny _ _ (subscriptTail _ _ (Value.ref _) (Value.int 0 _)) _ _ _); (refine tup_at (i := 0) (s := ⟨_, _, _, _, _⟩) (by k_asm) (by walk_at "MY mem") (by decide) (by exact rfl) ?_)) | walk1 | (dsimp only; walk1) | (leave1; try dsimp only) | fail "no step")))
  all_goals (rename News h₀ L _ _ => N9; rename Fr h₀ L _ _ => F9)
  all_goals (refine hret _ _ _ _ ⟨fun _ hp => hp, ?_⟩ F9 N9)
  all_goals (first
    | (rw [hit_false (.inl (by omega))])
    | (rw [hit_false (.inr (.inl (by omega)))])
    | (rw [hit_false (.inr (.inr (.inl ⟨hkk, by assumption⟩)))])
    | (rw [hit_false (.inr (.inr (.inr ⟨hkk, by assumption⟩)))])
    | (rw [hit_open (by omega) (by omega) (fun h => by first | assumption | (rw [hkk] at h; cases h)) (fun h => by first | assumption | (rw [hkk] at h; cases h)), cut_lies, hkk]; rfl)
    | (rw [hit_open (by omega) (by omega) (fun h => by first | assumption | (rw [hkk] at h; cases h)) (fun h => by first | assumption | (rw [hkk] at h; cases h)), hkk]; rfl))
end
section
def spanR (o : List UInt8) (r : Row) : Nat × Nat := (beginS o r.after, endS o r.before)
def SpanIn (news : Led) (v : Value) (sp : Nat × Nat) : Prop := ∃ T u1 u2, v = .ref T ∧ (T, tupOf [.int (sp.1 : Int) u1, .int (sp.2 : Int) u2]) ∈ news
theorem SpanIn.mono {a b : Led} {v : Value} {sp : Nat × Nat} (h : SpanIn a v sp) (s : ∀ p ∈ a, p ∈ b) : SpanIn b v sp := by
  obtain ⟨T, u1, u2, e, hm⟩ := h
  exact ⟨T, u1, u2, e, s _ hm⟩
/-- the rows' lists of places stood at -/
def ledB (xs : List (Addr × List Bool × Nat)) : Led := xs.map fun x => (x.1, listOf (x.2.1.map Value.bool).toArray x.2.2)
theorem ledB_append (a b : List (Addr × List Bool × Nat)) : ledB (a ++ b) = ledB a ++ ledB b := List.map_append
theorem mem_ledB {xs : List (Addr × List Bool × Nat)} {p : Addr × Obj} (h : p ∈ ledB xs) : ∃ x ∈ xs, p.1 = x.1 := by
  obtain ⟨x, hx, rfl⟩ := List.mem_map.mp h
  exact ⟨x, hx, rfl⟩
theorem sub_B {xs : List (Addr × List Bool × Nat)} {l : Addr} {a b c : Addr × Obj} {R : Led} : ∀ p ∈ a :: b :: c :: (ledB (xs ++ [(l, [], 0)]) ++ R), p ∈ (l, listOf #[] 0) :: a :: b :: c :: (ledB xs ++ R) := by
  intro p hp
  rw [ledB_append] at hp
  simp only [List.mem_append, List.mem_cons, ledB, List.map_cons, List.map_nil, List.not_mem_nil, or_false] at hp ⊢
  grind
theorem sub_T {t a b c : Addr × Obj} {R nw : Led} (h1 : t ∈ nw) (h2 : ∀ p ∈ a :: b :: c :: R, p ∈ nw) : ∀ p ∈ a :: b :: c :: t :: R, p ∈ nw := by
  intro p hp
  rcases List.mem_cons.mp hp with rfl | hp
  · exact h2 _ (.head _)
  rcases List.mem_cons.mp hp with rfl | hp
  · exact h2 _ (.tail _ (.head _))
  rcases List.mem_cons.mp hp with rfl | hp
  · exact h2 _ (.tail _ (.tail _ (.head _)))
  rcases List.mem_cons.mp hp with rfl | hp
  · exact h1
  · exact h2 _ (.tail _ (.tail _ (.tail _ hp)))
/-- the law's own walk, in plain words -/
def hitB (o : List UInt8) (rows : List Row) (sts : List (List Bool)) (a i : Nat) : Bool := match rows[i]?, sts[i]? with
  | some r, some st => hitS o r (spanR o r) st a
  | _, _ => false
def hitsL (o : List UInt8) (rows : List Row) (sts : List (List Bool)) (a : Nat) : List Nat := (List.range rows.length).filter (hitB o rows sts a)
def takI : Option Nat → Int
  | none => -1
  | some i => (i : Int)
def stand1 (o : List UInt8) (a : Nat) (tk : Option Nat) (i : Nat) (r : Row) (st : List Bool) : List Bool := if (spanR o r).1 ≤ a ∧ a < (spanR o r).2 then st ++ [decide (tk = some i)] else st
def standA (o : List UInt8) (rows : List Row) (a : Nat) (tk : Option Nat) (i : Nat) (st : List Bool) : List Bool := match rows[i]? with
  | some r => stand1 o a tk i r st
  | none => st
def standL (o : List UInt8) (rows : List Row) (a : Nat) (tk : Option Nat) (sts : List (List Bool)) : List (List Bool) := sts.mapIdx fun i st => standA o rows a tk i st
def sizeAt (rows : List Row) (i : Nat) : Nat := match rows[i]? with
  | some r => r.size
  | none => 1
def walkF (o : List UInt8) (rows : List Row) : Nat → Nat → List (List Bool) → List (Nat × Nat)
  | 0, _, _ => []
  | f + 1, a, sts => if a < o.length then
      (match (hitsL o rows sts a).head? with
      | none => walkF o rows f (a + 1) (standL o rows a none sts)
      | some i => (a, i) :: walkF o rows f (a + sizeAt rows i) (standL o rows a (some i) sts))
    else []
def walkP (o : List UInt8) (rows : List Row) : List (Nat × Nat) := walkF o rows (o.length + 1) 0 (List.replicate rows.length [])
theorem walkF_stop {o : List UInt8} {rows : List Row} {a : Nat} (h : ¬ a < o.length) : ∀ (n : Nat) (sts : List (List Bool)), walkF o rows n a sts = []
  | 0, _ => rfl
  | n + 1, sts => if_neg h
theorem head_hits {l : List Nat} : (nums l ++ [-1]).headD 0 = takI l.head? := by
  cases l <;> rfl
theorem hits_snoc {p : Nat → Bool} {i : Nat} {ys : List Value} {t : Tok} (h : p i = true) (hy : IntsAre ys (nums ((List.range i).filter p))) : IntsAre (ys ++ [.int (i : Int) t]) (nums ((List.range (i + 1)).filter p)) := by
  rw [filter_range_succ, if_pos h]
  unfold nums at hy ⊢
  rw [List.map_append]
  exact IntsAre.append hy (IntsAre.cons _ _ IntsAre.nil)
theorem hits_skip {p : Nat → Bool} {i : Nat} {ys : List Value} (h : p i = false) (hy : IntsAre ys (nums ((List.range i).filter p))) : IntsAre ys (nums ((List.range (i + 1)).filter p)) := by
  rw [filter_range_succ, h, if_neg Bool.false_ne_true, List.append_nil]
  exact hy
theorem is_hit_at (w : World) (o : List UInt8) (r : Row) (st : List Bool) (a : Nat) (t1 t2 u1 u2 k1 k2 k3 k4 k5 : Tok) (ra sa da : Addr) (n : Nat) (news : Led)
    (hT : (ra, tupOf [.str r.kind.str k1, wvOf r.kind r.wanted k2, .bytes r.given.toArray k3, vOpt r.before k4, vOpt r.after k5]) ∈ news) (hS : (sa, tupOf [.int ((spanR o r).1 : Int) u1, .int ((spanR o r).2 : Int) u2]) ∈ news) (hD : (da, listOf (st.map Value.bool).toArray n) ∈ news) (ho : o.length ≤ 1000) (hr : r.wanted.length ≤ 1000) :
    Spec w 8 209 [.bytes o.toArray t1, .ref ra, .ref sa, .ref da, .int (a : Int) t2] news (fun v news' => (∀ p ∈ news, p ∈ news') ∧ v = .bool (hitS o r (spanR o r) st a)) :=
  is_hit_spec w o r (spanR o r) st a t1 t2 u1 u2 k1 k2 k3 k4 k5 ra sa da n news ho hr hT hS hD
theorem ne3 {a n : Nat} (h : a < n ∨ n + 1 + 1 < a) : a ≠ n ∧ a ≠ n + 1 ∧ a ≠ n + 1 + 1 := by omega
theorem wo_cells {n : Nat} {oa ob oc : Obj} {B : Led} {p : Addr × Obj} (hp : p ∈ B) (h : p.1 < n ∨ n + 1 + 1 < p.1) : p ∈ (n + 1 + 1, oa) :: wo (n + 1 + 1) ((n + 1, ob) :: wo (n + 1) ((n, oc) :: wo n B)) := by
  obtain ⟨h1, h2, h3⟩ := ne3 h
  exact .tail _ (mem_wo.mpr ⟨.tail _ (mem_wo.mpr ⟨.tail _ (mem_wo.mpr ⟨hp, h1⟩), h2⟩), h3⟩)
theorem walk_sub {L1 D D2 fa t4 : Nat} {oP oT oS oR oO oT2 oS2 oP2 od od2 of ot : Obj} {news R0 R1 tps : Led} {xs : List (Addr × List Bool × Nat)}
    (hR0 : R0 = (L1 + 1 + 1 + 1 + 1 + 1, oP) :: (L1 + 1 + 1 + 1 + 1, oT) :: (L1 + 1 + 1 + 1, oS) :: (L1 + 1 + 1, oR) :: (L1 + 1, oO) :: news) (hR1 : R1 = (D, od) :: (tps ++ R0)) (lt1 : ∀ p ∈ news, p.1 < L1) (htp : ∀ p ∈ tps, L1 + 1 + 1 + 1 + 1 + 1 < p.1)
    (ltD : ∀ p ∈ R0, p.1 < D) (ltD2 : ∀ p ∈ R1, p.1 < D2) (hx3 : ∀ x ∈ xs, ∀ p ∈ R1, p.1 < x.1) (ltfa : ∀ p ∈ (D2, od2) :: (ledB xs ++ R1), p.1 < fa) :
    ∀ p ∈ (fa, of) :: (L1 + 1 + 1 + 1 + 1 + 1, oP2) :: (ledB xs ++ ([] ++ ((L1 + 1 + 1 + 1 + 1, oT2) :: (L1 + 1 + 1 + 1, oS2) :: (L1 + 1 + 1, oR) :: (L1 + 1, oO) :: (D2, od2) :: (D, od) :: (tps ++ news)))),
      p ∈ (L1 + 1 + 1 + 1 + 1 + 1, oP2) :: wo (L1 + 1 + 1 + 1 + 1 + 1) ((L1 + 1 + 1 + 1 + 1, oT2) :: wo (L1 + 1 + 1 + 1 + 1) ((L1 + 1 + 1 + 1, oS2) :: wo (L1 + 1 + 1 + 1) ((t4, ot) :: (fa, of) :: (D2, od2) :: (ledB xs ++ R1)))) := by
  have hcP : (L1 + 1 + 1 + 1 + 1 + 1, oP) ∈ R0 := by rw [hR0]; exact .head _
  have hcR : (L1 + 1 + 1, oR) ∈ R0 := by rw [hR0]; exact .tail _ (.tail _ (.tail _ (.head _)))
  have hcO : (L1 + 1, oO) ∈ R0 := by rw [hR0]; exact .tail _ (.tail _ (.tail _ (.tail _ (.head _))))
  have h01 : ∀ p ∈ R0, p ∈ R1 := fun p hp => by rw [hR1]; exact .tail _ (List.mem_append_right _ hp)
  have gD := ltD _ hcP
  have gD2 := ltD2 _ (h01 _ hcP)
  have gfa := ltfa _ (.tail _ (List.mem_append_right _ (h01 _ hcP)))
  intro p hp
  rcases List.mem_cons.mp hp with rfl | hp
  · exact wo_cells (.tail _ (.head _)) (.inr gfa)
  rcases List.mem_cons.mp hp with rfl | hp
  · exact .head _
  rcases List.mem_append.mp hp with hp | hp
  · obtain ⟨x, hx, e⟩ := mem_ledB hp
    have := hx3 x hx _ (h01 _ hcP)
    exact wo_cells (.tail _ (.tail _ (.tail _ (List.mem_append_left _ hp)))) (.inr (by rw [e]; exact this))
  rcases List.mem_append.mp hp with hp | hp
  · cases hp
  rcases List.mem_cons.mp hp with rfl | hp
  · exact .tail _ (mem_wo.mpr ⟨.head _, by show @Ne Nat _ _; dsimp only; omega⟩)
  rcases List.mem_cons.mp hp with rfl | hp
  · exact .tail _ (mem_wo.mpr ⟨.tail _ (mem_wo.mpr ⟨.head _, by show @Ne Nat _ _; dsimp only; omega⟩), by show @Ne Nat _ _; dsimp only; omega⟩)
  have inR1 : ∀ q ∈ R1, q ∈ (t4, ot) :: (fa, of) :: (D2, od2) :: (ledB xs ++ R1) := fun q hq => .tail _ (.tail _ (.tail _ (List.mem_append_right _ hq)))
  rcases List.mem_cons.mp hp with rfl | hp
  · exact wo_cells (inR1 _ (h01 _ hcR)) (.inl (Nat.lt_succ_self _))
  rcases List.mem_cons.mp hp with rfl | hp
  · exact wo_cells (inR1 _ (h01 _ hcO)) (.inl (Nat.lt_succ_of_lt (Nat.lt_succ_self _)))
  rcases List.mem_cons.mp hp with rfl | hp
  · exact wo_cells (.tail _ (.tail _ (.head _))) (.inr gD2)
  rcases List.mem_cons.mp hp with rfl | hp
  · exact wo_cells (inR1 _ (by rw [hR1]; exact .head _)) (.inr gD)
  rcases List.mem_append.mp hp with hp | hp
  · exact wo_cells (inR1 _ (by rw [hR1]; exact .tail _ (List.mem_append_left _ hp))) (.inr (htp p hp))
  · have := lt1 p hp
    exact wo_cells (inR1 _ (by rw [hR1, hR0]; exact .tail _ (List.mem_append_right _ (.tail _ (.tail _ (.tail _ (.tail _ (.tail _ hp)))))))) (.inl (Nat.lt_succ_of_lt (Nat.lt_succ_of_lt (Nat.lt_succ_of_lt this))))
theorem walk_off {L1 D D2 : Nat} {oP oT oS oR oO oT2 oS2 od od2 : Obj} {news R0 R1 tps : Led} {xs : List (Addr × List Bool × Nat)}
    (hR0 : R0 = (L1 + 1 + 1 + 1 + 1 + 1, oP) :: (L1 + 1 + 1 + 1 + 1, oT) :: (L1 + 1 + 1 + 1, oS) :: (L1 + 1 + 1, oR) :: (L1 + 1, oO) :: news) (hR1 : R1 = (D, od) :: (tps ++ R0)) (hx3 : ∀ x ∈ xs, ∀ p ∈ R1, p.1 < x.1) (offD2 : ∀ p ∈ ledB xs ++ R1, p.1 ≠ D2) :
    ∀ x ∈ xs, ∀ p ∈ (L1 + 1 + 1 + 1 + 1, oT2) :: (L1 + 1 + 1 + 1, oS2) :: (L1 + 1 + 1, oR) :: (L1 + 1, oO) :: (D2, od2) :: (D, od) :: (tps ++ news), p.1 ≠ x.1 := by
  have h01 : ∀ p ∈ R0, p ∈ R1 := fun p hp => by rw [hR1]; exact .tail _ (List.mem_append_right _ hp)
  intro x hx p hp
  rcases List.mem_cons.mp hp with rfl | hp
  · exact Nat.ne_of_lt (hx3 x hx (_, oT) (h01 _ (by rw [hR0]; exact .tail _ (.head _))))
  rcases List.mem_cons.mp hp with rfl | hp
  · exact Nat.ne_of_lt (hx3 x hx (_, oS) (h01 _ (by rw [hR0]; exact .tail _ (.tail _ (.head _)))))
  rcases List.mem_cons.mp hp with rfl | hp
  · exact Nat.ne_of_lt (hx3 x hx (_, oR) (h01 _ (by rw [hR0]; exact .tail _ (.tail _ (.tail _ (.head _))))))
  rcases List.mem_cons.mp hp with rfl | hp
  · exact Nat.ne_of_lt (hx3 x hx (_, oO) (h01 _ (by rw [hR0]; exact .tail _ (.tail _ (.tail _ (.tail _ (.head _)))))))
  rcases List.mem_cons.mp hp with rfl | hp
  · exact Ne.symm (offD2 (x.1, _) (List.mem_append_left _ (List.mem_map_of_mem hx)))
  rcases List.mem_cons.mp hp with rfl | hp
  · exact Nat.ne_of_lt (hx3 x hx _ (by rw [hR1]; exact .head _))
  rcases List.mem_append.mp hp with hp | hp
  · exact Nat.ne_of_lt (hx3 x hx _ (by rw [hR1]; exact .tail _ (List.mem_append_left _ hp)))
  · exact Nat.ne_of_lt (hx3 x hx _ (h01 _ (by rw [hR0]; exact .tail _ (.tail _ (.tail _ (.tail _ (.tail _ hp)))))))
theorem set_mem {α : Type} (f : α → Addr) : ∀ {l : List α} {i : Nat} {x y p : α}, l[i]? = some x → (l.map f).Nodup → p ∈ l.set i y → p = y ∨ (p ∈ l ∧ f p ≠ f x)
  | [], _, _, _, _, h, _, _ => by simp at h
  | z :: r, 0, x, y, p, h, hn, hp => by
    have e : z = x := Option.some.inj h
    subst e
    rw [List.map_cons, List.nodup_cons] at hn
    rcases List.mem_cons.mp hp with rfl | hp
    · exact .inl rfl
    · exact .inr ⟨.tail _ hp, fun e => hn.1 (e ▸ List.mem_map_of_mem hp)⟩
  | z :: r, i + 1, x, y, p, h, hn, hp => by
    have h' : r[i]? = some x := h
    rw [List.map_cons, List.nodup_cons] at hn
    rcases List.mem_cons.mp hp with rfl | hp
    · exact .inr ⟨.head _, fun e => hn.1 (e ▸ List.mem_map_of_mem (List.mem_of_getElem? h'))⟩
    · rcases set_mem f h' hn.2 hp with e | ⟨e1, e2⟩
      · exact .inl e
      · exact .inr ⟨.tail _ e1, e2⟩
theorem set_sub {x2 : List (Addr × List Bool × Nat)} {i : Nat} {x y : Addr × List Bool × Nat} {o' : Obj} {a b c : Addr × Obj} {T : Led} (hx : x2[i]? = some x) (hy : y.1 = x.1) (ho : o' = listOf (y.2.1.map Value.bool).toArray y.2.2) (hnd : (x2.map (·.1)).Nodup)
    (ha : a.1 ≠ x.1) (hb : b.1 ≠ x.1) (hc : c.1 ≠ x.1) (hT : ∀ p ∈ T, p.1 ≠ x.1) : ∀ p ∈ a :: b :: c :: (ledB (x2.set i y) ++ T), p ∈ (x.1, o') :: wo x.1 (a :: b :: c :: (ledB x2 ++ T)) := by
  intro p hp
  rcases List.mem_cons.mp hp with rfl | hp
  · exact .tail _ (mem_wo.mpr ⟨.head _, ha⟩)
  rcases List.mem_cons.mp hp with rfl | hp
  · exact .tail _ (mem_wo.mpr ⟨.tail _ (.head _), hb⟩)
  rcases List.mem_cons.mp hp with rfl | hp
  · exact .tail _ (mem_wo.mpr ⟨.tail _ (.tail _ (.head _)), hc⟩)
  rcases List.mem_append.mp hp with hp | hp
  · obtain ⟨z, hz, rfl⟩ := List.mem_map.mp hp
    rcases set_mem (·.1) hx hnd hz with rfl | ⟨h1, h2⟩
    · rw [hy, ho]; exact .head _
    · exact .tail _ (mem_wo.mpr ⟨.tail _ (.tail _ (.tail _ (List.mem_append_left _ (List.mem_map_of_mem h1)))), h2⟩)
  · exact .tail _ (mem_wo.mpr ⟨.tail _ (.tail _ (.tail _ (List.mem_append_right _ hp))), hT p hp⟩)
theorem set_off {x2 : List (Addr × List Bool × Nat)} {i : Nat} {x y : Addr × List Bool × Nat} {I : Addr} {b c : Addr × Obj} {T : Led} (hx : x2[i]? = some x) (hy : y.1 = x.1) (hnd : (x2.map (·.1)).Nodup) (off : ∀ p ∈ b :: c :: (ledB x2 ++ T), p.1 ≠ I) : ∀ p ∈ b :: c :: (ledB (x2.set i y) ++ T), p.1 ≠ I := by
  intro p hp
  rcases List.mem_cons.mp hp with rfl | hp
  · exact off _ (.head _)
  rcases List.mem_cons.mp hp with rfl | hp
  · exact off _ (.tail _ (.head _))
  rcases List.mem_append.mp hp with hp | hp
  · obtain ⟨z, hz, rfl⟩ := List.mem_map.mp hp
    rcases set_mem (·.1) hx hnd hz with rfl | ⟨h1, _⟩
    · show z.1 ≠ I
      rw [hy]
      exact off (x.1, _) (.tail _ (.tail _ (List.mem_append_left _ (List.mem_map_of_mem (List.mem_of_getElem? hx)))))
    · exact off _ (.tail _ (.tail _ (List.mem_append_left _ (List.mem_map_of_mem h1))))
  · exact off p (.tail _ (.tail _ (List.mem_append_right _ hp)))
theorem set_fst {x2 : List (Addr × List Bool × Nat)} {i : Nat} {x y : Addr × List Bool × Nat} (hx : x2[i]? = some x) (hy : y.1 = x.1) : (x2.set i y).map (·.1) = x2.map (·.1) := by
  rw [List.map_set]
  apply List.ext_getElem?
  intro j
  by_cases hj : i = j
  · subst hj
    rw [List.getElem?_set_self (by rw [List.length_map]; exact (List.getElem?_eq_some_iff.mp hx).1), List.getElem?_map, hx, hy]; rfl
  · rw [List.getElem?_set_ne hj]
theorem tak_beq (i : Nat) (tk : Option Nat) : ((i : Int) == takI tk) = decide (tk = some i) := by
  cases tk with
  | none => simp [takI]
  | some j =>
    by_cases h : i = j
    · subst h; simp [takI]
    · have : ¬ (i : Int) = (j : Int) := fun e => h (Int.ofNat.inj e)
      have h2 : ¬ j = i := fun e => h e.symm
      simp [takI, this, h2]
theorem stand_all {o : List UInt8} {rows : List Row} {a n : Nat} {tk : Option Nat} {x2 xs : List (Addr × List Bool × Nat)} (hl : x2.length = xs.length) (hn : x2.length ≤ n)
    (h : ∀ (j : Nat) (x : Addr × List Bool × Nat), x2[j]? = some x → ∃ x0, xs[j]? = some x0 ∧ x.2.1 = if j < n then standA o rows a tk j x0.2.1 else x0.2.1) : x2.map (·.2.1) = standL o rows a tk (xs.map (·.2.1)) := by
  apply List.ext_getElem?
  intro j
  unfold standL
  rw [List.getElem?_mapIdx, List.getElem?_map, List.getElem?_map]
  cases e : x2[j]? with
  | none =>
    have : xs[j]? = none := by rw [List.getElem?_eq_none_iff] at e ⊢; omega
    rw [this]; rfl
  | some x =>
    obtain ⟨x0, h1, h2⟩ := h j x e
    have hj : j < n := Nat.lt_of_lt_of_le (List.getElem?_eq_some_iff.mp e).1 hn
    rw [h1, Option.map_some, Option.map_some, Option.map_some, h2, if_pos hj]
theorem stand_len (o : List UInt8) (rows : List Row) (a : Nat) (tk : Option Nat) (i : Nat) (st : List Bool) : (standA o rows a tk i st).length ≤ st.length + 1 := by
  unfold standA stand1
  cases rows[i]? with
  | none => exact Nat.le_succ _
  | some r =>
    dsimp only
    split
    · rw [List.length_append]; exact Nat.le_refl _
    · exact Nat.le_succ _
theorem wv_cases (r : Row) (t : Tok) : (wvOf r.kind r.wanted t = .none ∧ r.size = 1) ∨ (wvOf r.kind r.wanted t = .bytes r.wanted.toArray t ∧ r.size = r.wanted.length ∧ r.kind ≠ .chars) := by
  unfold wvOf Row.size
  cases r.kind <;> simp
theorem walk_offP {L1 D D2 : Nat} {oT2 oS2 oR oO od od2 : Obj} {news tps : Led} (lt1 : ∀ p ∈ news, p.1 < L1) (htp : ∀ p ∈ tps, L1 + 1 + 1 + 1 + 1 + 1 < p.1) (gD : L1 + 1 + 1 + 1 + 1 + 1 < D) (gD2 : L1 + 1 + 1 + 1 + 1 + 1 < D2) :
    ∀ p ∈ ((L1 + 1 + 1 + 1 + 1, oT2) :: (L1 + 1 + 1 + 1, oS2) :: (L1 + 1 + 1, oR) :: (L1 + 1, oO) :: (D2, od2) :: (D, od) :: (tps ++ news) : Led), p.1 ≠ L1 + 1 + 1 + 1 + 1 + 1 := by
  intro p hp
  rcases List.mem_cons.mp hp with rfl | hp
  · show @Ne Nat _ _; dsimp only; omega
  rcases List.mem_cons.mp hp with rfl | hp
  · show @Ne Nat _ _; dsimp only; omega
  rcases List.mem_cons.mp hp with rfl | hp
  · show @Ne Nat _ _; dsimp only; omega
  rcases List.mem_cons.mp hp with rfl | hp
  · show @Ne Nat _ _; dsimp only; omega
  rcases List.mem_cons.mp hp with rfl | hp
  · exact Nat.ne_of_gt gD2
  rcases List.mem_cons.mp hp with rfl | hp
  · exact Nat.ne_of_gt gD
  rcases List.mem_append.mp hp with hp | hp
  · exact Nat.ne_of_gt (htp p hp)
  · exact Nat.ne_of_lt (Nat.lt_of_lt_of_le (lt1 p hp) (Nat.le_add_right L1 5))
theorem end_sub {cP fa : Addr} {of oc oc' : Obj} {B T : Led} (h1 : fa ≠ cP) (h2 : ∀ p ∈ B, p.1 ≠ cP) (h3 : ∀ p ∈ T, p.1 ≠ cP) : ∀ p ∈ (fa, of) :: (cP, oc') :: (B ++ T), p ∈ (cP, oc') :: wo cP ((fa, of) :: (cP, oc) :: (B ++ T)) := by
  intro p hp
  rcases List.mem_cons.mp hp with rfl | hp
  · exact .tail _ (mem_wo.mpr ⟨.head _, h1⟩)
  rcases List.mem_cons.mp hp with rfl | hp
  · exact .head _
  refine .tail _ (mem_wo.mpr ⟨.tail _ (.tail _ hp), ?_⟩)
  rcases List.mem_append.mp hp with hp | hp
  · exact h2 p hp
  · exact h3 p hp
theorem end_sub2 {cP fa : Addr} {of of' oc oc' : Obj} {t : Addr × Obj} {B T R : Led} (h1 : fa ≠ cP) (h2 : ∀ p ∈ B, p.1 ≠ cP) (h3 : ∀ p ∈ T, p.1 ≠ cP) (h4 : ∀ p ∈ R, p.1 ≠ cP) (g2 : ∀ p ∈ B, p.1 ≠ fa) (g3 : ∀ p ∈ T, p.1 ≠ fa) (g4 : ∀ p ∈ R, p.1 ≠ fa) (k1 : t.1 ≠ fa) (k2 : t.1 ≠ cP) :
    ∀ p ∈ (fa, of') :: (cP, oc') :: (B ++ ((t :: T) ++ R)), p ∈ (cP, oc') :: wo cP ((fa, of') :: wo fa (t :: (fa, of) :: (cP, oc) :: (B ++ (T ++ R)))) := by
  intro p hp
  rcases List.mem_cons.mp hp with rfl | hp
  · exact .tail _ (mem_wo.mpr ⟨.head _, h1⟩)
  rcases List.mem_cons.mp hp with rfl | hp
  · exact .head _
  have key : ∀ q : Addr × Obj, q.1 ≠ cP → q.1 ≠ fa → q ∈ t :: (fa, of) :: (cP, oc) :: (B ++ (T ++ R)) → q ∈ (cP, oc') :: wo cP ((fa, of') :: wo fa (t :: (fa, of) :: (cP, oc) :: (B ++ (T ++ R)))) := fun q a1 a2 a3 => .tail _ (mem_wo.mpr ⟨.tail _ (mem_wo.mpr ⟨a3, a2⟩), a1⟩)
  rcases List.mem_append.mp hp with hp | hp
  · exact key p (h2 p hp) (g2 p hp) (.tail _ (.tail _ (.tail _ (List.mem_append_left _ hp))))
  rcases List.mem_append.mp hp with hp | hp
  · rcases List.mem_cons.mp hp with rfl | hp
    · exact key p k2 k1 (.head _)
    · exact key p (h3 p hp) (g3 p hp) (.tail _ (.tail _ (.tail _ (List.mem_append_right _ (List.mem_append_left _ hp)))))
  · exact key p (h4 p hp) (g4 p hp) (.tail _ (.tail _ (.tail _ (List.mem_append_right _ (List.mem_append_right _ hp)))))
theorem cell_of_tup {o : Obj} {vs : List Value} {v : Option Value} (h : o.data = .cell v) : o ≠ tupOf vs := by
  rintro rfl
  cases h
theorem not_succ {i j : Nat} (h : ¬ i = j) (h2 : ¬ j < i) : ¬ j < i + 1 := by omega
theorem far1 {l a f s : Nat} (h : l < a + (f + 1)) (hs : 1 ≤ s) : l < a + s + f := by omega
/-- the while of the walk, and the for in it -/
inductive WalkJ (o : List UInt8) (rows : List Row) (fa cP : Addr) (xs : List (Addr × List Bool × Nat)) (R2 : Led) (n : Nat) (m1 : Ns) (nw : Led) : Prop
  | intro (a : Nat) (ta : Tok) (fvals : List Value) (fn : Nat) (tl : Led) (xs' : List (Addr × List Bool × Nat)) (oP' : Obj) (u1 u2 u3 : Option Value) (acc : List (Nat × Nat))
    (em : m1 = ov [(Str.ofString "found", some (.ref fa)), (Str.ofString "hits", u1), (Str.ofString "taker", u2), (Str.ofString "at", u3)] (fun _ => none))
    (en : nw = (fa, listOf fvals.toArray fn) :: (cP, oP') :: (ledB xs' ++ (tl ++ R2))) (hd : oP'.data = .cell (some (.int (a : Int) ta))) (had : xs'.map (·.1) = xs.map (·.1)) (hp : PairsIn tl fvals acc) (hf : acc ++ walkF o rows n a (xs'.map (·.2.1)) = walkP o rows)
    (hn : o.length < a + n) (hv : fvals.length ≤ a) (hx : ∀ x ∈ xs', x.2.1.length ≤ a) (ht : ∀ p ∈ tl, fa < p.1) : WalkJ o rows fa cP xs R2 n m1 nw
inductive WalkK (o : List UInt8) (rows : List Row) (fa cP : Addr) (xs xs' : List (Addr × List Bool × Nat)) (tl R2 : Led) (a : Nat) (tkr : Option Nat) (fvals : List Value) (fn : Nat) (oP' : Obj) (i : Nat) (m2 : Ns) (nw2 : Led) : Prop
  | intro (x2 : List (Addr × List Bool × Nat)) (v1 v3 : Option Value) (tt : Tok)
    (em : m2 = ov [(Str.ofString "found", some (.ref fa)), (Str.ofString "hits", v1), (Str.ofString "taker", some (.int (takI tkr) tt)), (Str.ofString "at", v3)] (fun _ => none))
    (en : nw2 = (fa, listOf fvals.toArray fn) :: (cP, oP') :: (ledB x2 ++ (tl ++ R2))) (had : x2.map (·.1) = xs.map (·.1))
    (hs : ∀ (j : Nat) (x : Addr × List Bool × Nat), x2[j]? = some x → ∃ x0, xs'[j]? = some x0 ∧ x.2.1 = if j < i then standA o rows a tkr j x0.2.1 else x0.2.1) : WalkK o rows fa cP xs xs' tl R2 a tkr fvals fn oP' i m2 nw2
set_option maxRecDepth 100000 in
set_option maxHeartbeats 2000000 in
theorem walk_spec (w : World) (o : List UInt8) (rows : List Row) (to : Tok) (rl : Addr) (rn : Nat) (vals : List Value) (news : Led) (ho : o.length ≤ 1000) (hrl : rows.length ≤ 100) (hok : ∀ r ∈ rows, r.ok) (hm : (rl, listOf vals.toArray rn) ∈ news) (hv : AllIn (XRow news) vals rows) :
    Spec w 18 214 [.bytes o.toArray to, .ref rl] news (fun v news' => (∀ p ∈ news, p ∈ news') ∧ ∃ fa fn fvals, v = .ref fa ∧ (fa, listOf fvals.toArray fn) ∈ news' ∧ (∀ p ∈ news, p.1 < fa) ∧ PairsIn news' fvals (walkP o rows)) := by
  unfold Spec
  intro dp un gd env outer A₀ mean mg mb base h₀ L m s Q E B F X N T hf hk hdp hun hret
  ((have fill : (∀ w : World, (Mine.hdHeap w.params) = (Mine.hdHeap w.params)) ∧ PySem.Challenge.rw_og0077_01.Holds → True := by ((first | k_fill | skip); exact fun _ => trivial)); clear fill)
  have hE : Enter [(Str.ofString "octets", .bytes o.toArray to), (Str.ofString "rows", .ref rl)] (fun y => none) := ⟨⟩
  (k_dflt (refine' enter_cellsN (by assumption) ?k1 ?k2 ?k3 ?k4 ?k5 ?kF ?kK ?k6 ?k7 ?k8 ?k9 ?kB ?kD ?km ?_ ?c2 ?c3 ?c4; (case kF => assumption); (case kK => assumption); (case k1 => k_asm); (case k2 => k_asm); (case k3 => k_asm); (case k4 => k_asm); (case k5 => k_asm); (case k6 => k_is); (case k7 => k_is); (case k8 => ktr_room); (case k9 => exact BindsTo.of_eq rfl); (case kB => exact rfl); (case kD => decide +kernel); (case km => intro _; exact rfl); (case c2 => exact rfl); (case c3 => exact rfl); (case c4 => exact rfl); k_whole; intro _ _ _ _ _ _ _ N' Y' _ _ _ _; k_cells Y'; (try simp only [List.cons_append, List.nil_append] at N'); (try dsimp only); (try k_fold)))
  rename Fr _ _ _ _ => F1
  rename News _ _ _ _ => N1
  rename_i g1 L1 h1 tk1 FG1 B1 X1 T1 lt1 oP oT oS oR oO dP dT dS dR dO
  replace dP : oP.data = .cell none := dP
  replace dT : oT.data = .cell none := dT
  replace dS : oS.data = .cell none := dS
  replace dR : oR.data = .cell (some (.ref rl)) := dR
  replace dO : oO.data = .cell (some (.bytes o.toArray to)) := dO
  obtain ⟨R0, hR0⟩ : ∃ R : Led, R = (L1 + 1 + 1 + 1 + 1 + 1, oP) :: (L1 + 1 + 1 + 1 + 1, oT) :: (L1 + 1 + 1 + 1, oS) :: (L1 + 1 + 1, oR) :: (L1 + 1, oO) :: news := ⟨_, rfl⟩
  rw [← hR0] at N1
  have hcP : (L1 + 1 + 1 + 1 + 1 + 1, oP) ∈ R0 := by rw [hR0]; exact .head _
  have hcT : (L1 + 1 + 1 + 1 + 1, oT) ∈ R0 := by rw [hR0]; exact .tail _ (.head _)
  have hcS : (L1 + 1 + 1 + 1, oS) ∈ R0 := by rw [hR0]; exact .tail _ (.tail _ (.head _))
  have hcR : (L1 + 1 + 1, oR) ∈ R0 := by rw [hR0]; exact .tail _ (.tail _ (.tail _ (.head _)))
  have hcO : (L1 + 1, oO) ∈ R0 := by rw [hR0]; exact .tail _ (.tail _ (.tail _ (.tail _ (.head _))))
  have hnw : ∀ p ∈ news, p ∈ R0 := fun p hp => by rw [hR0]; exact .tail _ (.tail _ (.tail _ (.tail _ (.tail _ hp))))
  have hm1 := hnw _ hm
  (repeat' (first | (k_unfold; (try dsimp only)) | (k_end; wrow_close) | ((with_reducible show wpAny _ _ (call (Value.builtin _) _) _ _ _); k_here; k_dflt (refine' app_f ?k1 ?k2 ?k3 ?k4 ?_; (case k1 => k_asm); (case k2 => k_asm); (case k3 => walk_at "MY mem"); (case k4 => first | assumption | omega)); intro _ _ _) | (k_here; (with_reducible show wpAny _ _ (subscriptTail _ _ (Value.ref _) (Value.int (Nat.cast _) _)) _ _ _); (refine item_at (s := ⟨_, _, _, _, _⟩) (by k_asm) (by walk_at "MY mem") (by first | assumption | omega) (by assumption) ?_)) | ((with_reducible show wpAny _ _ (call _ _) _ _ _); k_here; (try dsimp only); (with_reducible show wpAny _ _ (call (Value.ref 209) _) _ _ _); k_dflt (refine' Spec.callB (is_hit_at _ _ _ _ _ _ _ _ _ _ _ _ _ _ _ _ _ _ _ ?e0 ?e1 ?e2 ?e3 ?e4) ?k1 ?k2 ?k3 ?k4 ?k5 ?k6 ?k7 ?k8 ?k9 ?ka ?kb ?kc ?_; (case k1 => k_asm); (case k2 => k_asm); (case k3 => k_asm); (case k4 => k_asm); (case k5 => k_asm); (case k6 => first | assumption | exact rfl); (case k7 => first | assumption | exact rfl); (case k8 => k_asm); (case k9 => k_asm); (case ka => rfl); (case kb => rfl); (case kc => exact Nat.le_of_ble_eq_true rfl); (case e0 => walk_at "MY mem"); (case e1 => walk_at "MY mem"); (case e2 => walk_at "MY mem"); (case e3 => assumption); (case e4 => assumption); k_whole; intro v9 nw9 h9 tk9 hr9 F9 N9; (obtain ⟨e9, e8⟩ := hr9; subst e8; replace N9 := led_less N9 e9; clear e9); revert nw9 h9 tk9 F9 N9; intros; (try dsimp only); (try k_fold))) | (k_here; (with_reducible show wpAny _ _ (getMethod (Value.ref _) (PySem.Str.ofString "append") _) _ _ _); k_dflt (refine' listMethod_K ?N ?m PySem.F.slot_list_append PySem.F.type_list_append ?_; (case N => k_asm); (case m => walk_at "MY mem"))) | (k_here; (with_reducible show wpAny _ _ (subscriptTail _ _ (Value.ref _) (Value.int 1 _)) _ _ _); (refine tup_at (i := 1) (s := ⟨_, _, _, _, _⟩) (by k_asm) (by walk_at "MY mem") (by decide) (by exact rfl) ?_)) | (k_here; (with_reducible show wpAny _ _ (subscriptTail _ _ (Value.ref _) (Value.int 0 _)) _ _ _); (refine tup_at (i := 0) (s := ⟨_, _, _, _, _⟩) (by k_asm) (by walk_at "MY mem") (by decide) (by exact rfl) ?_)) | (k_here; (with_reducible show wpAny _ _ (subscriptTail _ _ (Value.ref _) (Value.int 0 _)) _ _ _); (refine item_first (s := ⟨_, _, _, _, _⟩) (by k_asm) (by walk_at "MY mem") (by assumption) ?_); intro _) | ((with_reducible show wpAny _ _ (exec (Stmt.While _ _ _ _) _) _ _ _); k_here; k_dflt (refine' while_at ?k1 ?_; (case k1 => k_asm))) | (k_here; (with_reducible show wpAny _ _ (storeName (envOfC _ _ _ _ _) _ _) _ _ _); k_dflt (refine' cell_f ?k1 ?k2 ?k3 ?k4 ?k5 ?_ ?k6 ?k7; (case k1 => k_asm); (case k2 => k_asm); (case k6 => rfl); (case k7 => rfl); (case k3 => rfl); (case k4 => walk_at "MY mem"); (case k5 => assumption)); intro _ _ _ _ _) | (k_here; (with_reducible show wpAny _ _ (eval (Expr.List [] _) _) _ _ _); k_dflt (refine' list_nil ?k2 ?k3 ?_; (case k2 => k_asm); (case k3 => k_asm)); intro _ _ _ _ _; (try k_sweep)) | (k_here; (with_reducible show wpAny _ _ (subscriptTail _ _ (Value.ref _) (Value.int 4 _)) _ _ _); (refine tup_at (i := 4) (s := ⟨_, _, _, _, _⟩) (by k_asm) (by walk_at "MY mem") (by decide) (by exact rfl) ?_)) | (k_here; (with_reducible show wpAny _ _ (subscriptTail _ _ (Value.ref _) (Value.int 3 _)) _ _ _); (refine tup_at (i := 3) (s := ⟨_, _, _, _, _⟩) (by k_asm) (by walk_at "MY mem") (by decide) (by exact rfl) ?_)) | ((with_reducible show wpAny _ _ (call _ _) _ _ _); k_here; (try dsimp only); (with_reducible show wpAny _ _ (call (Value.ref 202) _) _ _ _); k_dflt (refine' Spec.callB (span_spec _ _ _ _ _ _ _ _ ?e0 ?e1 ?e2) ?k1 ?k2 ?k3 ?k4 ?k5 ?k6 ?k7 ?k8 ?k9 ?ka ?kb ?kc ?_; (case k1 => k_asm); (case k2 => k_asm); (case k3 => k_asm); (case k4 => k_asm); (case k5 => k_asm); (case k6 => first | assumption | exact rfl); (case k7 => first | assumption | exact rfl); (case k8 => k_asm); (case k9 => k_asm); (case ka => rfl); (case kb => rfl); (case kc => exact Nat.le_of_ble_eq_true rfl); (case e0 => assumption); (case e1 => assumption); (case e2 => assumption); k_whole; intro v9 nw9 h9 tk9 hr9 F9 N9; (obtain ⟨e9, T9, u9, u8, e8, hm9, lt9⟩ := hr9; subst e8); revert nw9 h9 tk9 F9 N9 e9 T9 u9 u8 hm9 lt9; intros; (try dsimp only); (try k_fold))) | walk1 | (dsimp only; walk1) | (leave1; try dsimp only) | fail "no step"))
  refine ⟨vals.length, fun i v => vals[i]? = some v, R0, R0, fun i ys nw => ∃ tps : Led, nw = tps ++ R0 ∧ AllIn (SpanIn tps) ys ((rows.take i).map (spanR o)) ∧ ∀ p ∈ tps, L1 + 1 + 1 + 1 + 1 + 1 < p.1,
    fun i v m => m (Str.ofString "row") = some v, Src.list rfl N1 hm1, F1, N1, fun s₂ => ⟨?_, ?_, ?_, ?_, ?_⟩, ?_⟩
  · rintro i ys nw ⟨tps, rfl, _⟩ p hp
    exact List.mem_append_right _ hp
  · exact ⟨[], rfl, AllIn.nil, fun p hp => nomatch hp⟩
  · rw [hv.1]; exact Nat.le_trans hrl (Nat.le_of_ble_eq_true rfl)
  · intro i v C s' m' Q' E' hi hP hn hkeep h
    exact binds_name rfl (by decide) v C s' m' Q' E' hn (fun h'' tk'' m'' hn'' e'' hk'' => h h'' tk'' m'' hn'' e'' hk'')
  · rintro i v ys nw I oI C oC D m₂ h tk E' hi hP ⟨tps, rfl, hys, htp⟩ hyl hC hb F3 N3 off ne
    refine opq_test fun PP1 PN1 hPP1 hPN1 => ?_
    obtain ⟨r, hr, T0, t1, t2, t3, t4, t5, rfl, hT0⟩ := hv.get hP
    obtain ⟨ok1, ok2, ok3, ok4⟩ := hok r (List.mem_of_getElem? hr)
    have hT1 := hnw _ hT0
    refine wpAny_pure ?_
    simp only [if_true]
    (repeat' (first | (k_unfold; (try dsimp only)) | (k_end; wrow_close) | ((with_reducible show wpAny _ _ (call (Value.builtin _) _) _ _ _); k_here; k_dflt (refine' app_f ?k1 ?k2 ?k3 ?k4 ?_; (case k1 => k_asm); (case k2 => k_asm); (case k3 => walk_at "MY mem"); (case k4 => first | assumption | omega)); intro _ _ _) | (k_here; (with_reducible show wpAny _ _ (subscriptTail _ _ (Value.ref _) (Value.int (Nat.cast _) _)) _ _ _); (refine item_at (s := ⟨_, _, _, _, _⟩) (by k_asm) (by walk_at "MY mem") (by first | assumption | omega) (by assumption) ?_)) | ((with_reducible show wpAny _ _ (call _ _) _ _ _); k_here; (try dsimp only); (with_reducible show wpAny _ _ (call (Value.ref 209) _) _ _ _); k_dflt (refine' Spec.callB (is_hit_at _ _ _ _ _ _ _ _ _ _ _ _ _ _ _ _ _ _ _ ?e0 ?e1 ?e2 ?e3 ?e4) ?k1 ?k2 ?k3 ?k4 ?k5 ?k6 ?k7 ?k8 ?k9 ?ka ?kb ?kc ?_; (case k1 => k_asm); (case k2 => k_asm); (case k3 => k_asm); (case k4 => k_asm); (case k5 => k_asm); (case k6 => first | assumption | exact rfl); (case k7 => first | assumption | exact rfl); (case k8 => k_asm); (case k9 => k_asm); (case ka => rfl); (case kb => rfl); (case kc => exact Nat.le_of_ble_eq_true rfl); (case e0 => walk_at "MY mem"); (case e1 => walk_at "MY mem"); (case e2 => walk_at "MY mem"); (case e3 => assumption); (case e4 => assumption); k_whole; intro v9 nw9 h9 tk9 hr9 F9 N9; (obtain ⟨e9, e8⟩ := hr9; subst e8; replace N9 := led_less N9 e9; clear e9); revert nw9 h9 tk9 F9 N9; intros; (try dsimp only); (try k_fold))) | (k_here; (with_reducible show wpAny _ _ (getMethod (Value.ref _) (PySem.Str.ofString "append") _) _ _ _); k_dflt (refine' listMethod_K ?N ?m PySem.F.slot_list_append PySem.F.type_list_append ?_; (case N => k_asm); (case m => walk_at "MY mem"))) | (k_here; (with_reducible show wpAny _ _ (subscriptTail _ _ (Value.ref _) (Value.int 1 _)) _ _ _); (refine tup_at (i := 1) (s := ⟨_, _, _, _, _⟩) (by k_asm) (by walk_at "MY mem") (by decide) (by exact rfl) ?_)) | (k_here; (with_reducible show wpAny _ _ (subscriptTail _ _ (Value.ref _) (Value.int 0 _)) _ _ _); (refine tup_at (i := 0) (s := ⟨_, _, _, _, _⟩) (by k_asm) (by walk_at "MY mem") (by decide) (by exact rfl) ?_)) | (k_here; (with_reducible show wpAny _ _ (subscriptTail _ _ (Value.ref _) (Value.int 0 _)) _ _ _); (refine item_first (s := ⟨_, _, _, _, _⟩) (by k_asm) (by walk_at "MY mem") (by assumption) ?_); intro _) | ((with_reducible show wpAny _ _ (exec (Stmt.While _ _ _ _) _) _ _ _); k_here; k_dflt (refine' while_at ?k1 ?_; (case k1 => k_asm))) | (k_here; (with_reducible show wpAny _ _ (storeName (envOfC _ _ _ _ _) _ _) _ _ _); k_dflt (refine' cell_f ?k1 ?k2 ?k3 ?k4 ?k5 ?_ ?k6 ?k7; (case k1 => k_asm); (case k2 => k_asm); (case k6 => rfl); (case k7 => rfl); (case k3 => rfl); (case k4 => walk_at "MY mem"); (case k5 => assumption)); intro _ _ _ _ _) | (k_here; (with_reducible show wpAny _ _ (eval (Expr.List [] _) _) _ _ _); k_dflt (refine' list_nil ?k2 ?k3 ?_; (case k2 => k_asm); (case k3 => k_asm)); intro _ _ _ _ _; (try k_sweep)) | (k_here; (with_reducible show wpAny _ _ (subscriptTail _ _ (Value.ref _) (Value.int 4 _)) _ _ _); (refine tup_at (i := 4) (s := ⟨_, _, _, _, _⟩) (by k_asm) (by walk_at "MY mem") (by decide) (by exact rfl) ?_)) | (k_here; (with_reducible show wpAny _ _ (subscriptTail _ _ (Value.ref _) (Value.int 3 _)) _ _ _); (refine tup_at (i := 3) (s := ⟨_, _, _, _, _⟩) (by k_asm) (by walk_at "MY mem") (by decide) (by exact rfl) ?_)) | ((with_reducible show wpAny _ _ (call _ _) _ _ _); k_here; (try dsimp only); (with_reducible show wpAny _ _ (call (Value.ref 202) _) _ _ _); k_dflt (refine' Spec.callB (span_spec _ _ _ _ _ _ _ _ ?e0 ?e1 ?e2) ?k1 ?k2 ?k3 ?k4 ?k5 ?k6 ?k7 ?k8 ?k9 ?ka ?kb ?kc ?_; (case k1 => k_asm); (case k2 => k_asm); (case k3 => k_asm); (case k4 => k_asm); (case k5 => k_asm); (case k6 => first | assumption | exact rfl); (case k7 => first | assumption | exact rfl); (case k8 => k_asm); (case k9 => k_asm); (case ka => rfl); (case kb => rfl); (case kc => exact Nat.le_of_ble_eq_true rfl); (case e0 => assumption); (case e1 => assumption); (case e2 => assumption); k_whole; intro v9 nw9 h9 tk9 hr9 F9 N9; (obtain ⟨e9, T9, u9, u8, e8, hm9, lt9⟩ := hr9; subst e8); revert nw9 h9 tk9 F9 N9 e9 T9 u9 u8 hm9 lt9; intros; (try dsimp only); (try k_fold))) | walk1 | (dsimp only; walk1) | (leave1; try dsimp only) | fail "no step"))
    rename Fr _ _ _ _ => F9
    rename News _ _ _ _ => N9
    rename ∀ (p : Addr × Obj), p ∈ _ → p.1 < _ => lt9
    rename ∀ (p : Addr × Obj), p ∈ _ → p ∈ _ => e9
    rename (_, tupOf [Value.int ((beginS o r.after : Nat) : Int) _, _]) ∈ _ => hm9
    refine hPP1 _ _ <| CEnd.intro (_ :: (tps ++ R0)) F9 N9 (sub_T hm9 e9) (fun p hp => ?_) ⟨_ :: tps, rfl, ?_, ?_⟩
    · rcases List.mem_cons.mp hp with rfl | hp
      · exact ⟨Nat.ne_of_gt (lt9 _ (.head _)), Nat.ne_of_gt (lt9 _ (.tail _ (.head _))), Nat.ne_of_gt (lt9 _ (.tail _ (.tail _ (.head _))))⟩
      · exact off p hp
    · rw [take_snoc hr, List.map_append]
      exact (hys.mono fun v x h => h.mono fun p hp => .tail _ hp).snoc ⟨_, _, _, rfl, .head _⟩
    · intro p hp
      rcases List.mem_cons.mp hp with rfl | hp
      · exact lt9 _ (.tail _ (.tail _ (.tail _ (List.mem_append_right _ hcP))))
      · exact htp p hp
  · rintro D h tk ys nw ⟨tps, rfl, hys, htp⟩ F3 N3 offD ltD
    rw [hv.1, List.take_length] at hys
    obtain ⟨R1, hR1⟩ : ∃ R : Led, R = (D, listOf ys.toArray ys.length) :: (tps ++ R0) := ⟨_, rfl⟩
    replace N3 : News g1 L1 h R1 := by rw [hR1]; exact N3
    have hR01 : ∀ p ∈ R0, p ∈ R1 := fun p hp => by rw [hR1]; exact .tail _ (List.mem_append_right _ hp)
    have hcP1 := hR01 _ hcP
    have hcT1 := hR01 _ hcT
    have hcS1 := hR01 _ hcS
    have hcR1 := hR01 _ hcR
    have hcO1 := hR01 _ hcO
    have hm2 := hR01 _ hm1
    clear hcP hcT hcS hcR hcO hm1
    (repeat' (first | (k_unfold; (try dsimp only)) | (k_end; wrow_close) | ((with_reducible show wpAny _ _ (call (Value.builtin _) _) _ _ _); k_here; k_dflt (refine' app_f ?k1 ?k2 ?k3 ?k4 ?_; (case k1 => k_asm); (case k2 => k_asm); (case k3 => walk_at "MY mem"); (case k4 => first | assumption | omega)); intro _ _ _) | (k_here; (with_reducible show wpAny _ _ (subscriptTail _ _ (Value.ref _) (Value.int (Nat.cast _) _)) _ _ _); (refine item_at (s := ⟨_, _, _, _, _⟩) (by k_asm) (by walk_at "MY mem") (by first | assumption | omega) (by assumption) ?_)) | ((with_reducible show wpAny _ _ (call _ _) _ _ _); k_here; (try dsimp only); (with_reducible show wpAny _ _ (call (Value.ref 209) _) _ _ _); k_dflt (refine' Spec.callB (is_hit_at _ _ _ _ _ _ _ _ _ _ _ _ _ _ _ _ _ _ _ ?e0 ?e1 ?e2 ?e3 ?e4) ?k1 ?k2 ?k3 ?k4 ?k5 ?k6 ?k7 ?k8 ?k9 ?ka ?kb ?kc ?_; (case k1 => k_asm); (case k2 => k_asm); (case k3 => k_asm); (case k4 => k_asm); (case k5 => k_asm); (case k6 => first | assumption | exact rfl); (case k7 => first | assumption | exact rfl); (case k8 => k_asm); (case k9 => k_asm); (case ka => rfl); (case kb => rfl); (case kc => exact Nat.le_of_ble_eq_true rfl); (case e0 => walk_at "MY mem"); (case e1 => walk_at "MY mem"); (case e2 => walk_at "MY mem"); (case e3 => assumption); (case e4 => assumption); k_whole; intro v9 nw9 h9 tk9 hr9 F9 N9; (obtain ⟨e9, e8⟩ := hr9; subst e8; replace N9 := led_less N9 e9; clear e9); revert nw9 h9 tk9 F9 N9; intros; (try dsimp only); (try k_fold))) | (k_here; (with_reducible show wpAny _ _ (getMethod (Value.ref _) (PySem.Str.ofString "append") _) _ _ _); k_dflt (refine' listMethod_K ?N ?m PySem.F.slot_list_append PySem.F.type_list_append ?_; (case N => k_asm); (case m => walk_at "MY mem"))) | (k_here; (with_reducible show wpAny _ _ (subscriptTail _ _ (Value.ref _) (Value.int 1 _)) _ _ _); (refine tup_at (i := 1) (s := ⟨_, _, _, _, _⟩) (by k_asm) (by walk_at "MY mem") (by decide) (by exact rfl) ?_)) | (k_here; (with_reducible show wpAny _ _ (subscriptTail _ _ (Value.ref _) (Value.int 0 _)) _ _ _); (refine tup_at (i := 0) (s := ⟨_, _, _, _, _⟩) (by k_asm) (by walk_at "MY mem") (by decide) (by exact rfl) ?_)) | (k_here; (with_reducible show wpAny _ _ (subscriptTail _ _ (Value.ref _) (Value.int 0 _)) _ _ _); (refine item_first (s := ⟨_, _, _, _, _⟩) (by k_asm) (by walk_at "MY mem") (by assumption) ?_); intro _) | ((with_reducible show wpAny _ _ (exec (Stmt.While _ _ _ _) _) _ _ _); k_here; k_dflt (refine' while_at ?k1 ?_; (case k1 => k_asm))) | (k_here; (with_reducible show wpAny _ _ (storeName (envOfC _ _ _ _ _) _ _) _ _ _); k_dflt (refine' cell_f ?k1 ?k2 ?k3 ?k4 ?k5 ?_ ?k6 ?k7; (case k1 => k_asm); (case k2 => k_asm); (case k6 => rfl); (case k7 => rfl); (case k3 => rfl); (case k4 => walk_at "MY mem"); (case k5 => assumption)); intro _ _ _ _ _) | (k_here; (with_reducible show wpAny _ _ (eval (Expr.List [] _) _) _ _ _); k_dflt (refine' list_nil ?k2 ?k3 ?_; (case k2 => k_asm); (case k3 => k_asm)); intro _ _ _ _ _; (try k_sweep)) | (k_here; (with_reducible show wpAny _ _ (subscriptTail _ _ (Value.ref _) (Value.int 4 _)) _ _ _); (refine tup_at (i := 4) (s := ⟨_, _, _, _, _⟩) (by k_asm) (by walk_at "MY mem") (by decide) (by exact rfl) ?_)) | (k_here; (with_reducible show wpAny _ _ (subscriptTail _ _ (Value.ref _) (Value.int 3 _)) _ _ _); (refine tup_at (i := 3) (s := ⟨_, _, _, _, _⟩) (by k_asm) (by walk_at "MY mem") (by decide) (by exact rfl) ?_)) | ((with_reducible show wpAny _ _ (call _ _) _ _ _); k_here; (try dsimp only); (with_reducible show wpAny _ _ (call (Value.ref 202) _) _ _ _); k_dflt (refine' Spec.callB (span_spec _ _ _ _ _ _ _ _ ?e0 ?e1 ?e2) ?k1 ?k2 ?k3 ?k4 ?k5 ?k6 ?k7 ?k8 ?k9 ?ka ?kb ?kc ?_; (case k1 => k_asm); (case k2 => k_asm); (case k3 => k_asm); (case k4 => k_asm); (case k5 => k_asm); (case k6 => first | assumption | exact rfl); (case k7 => first | assumption | exact rfl); (case k8 => k_asm); (case k9 => k_asm); (case ka => rfl); (case kb => rfl); (case kc => exact Nat.le_of_ble_eq_true rfl); (case e0 => assumption); (case e1 => assumption); (case e2 => assumption); k_whole; intro v9 nw9 h9 tk9 hr9 F9 N9; (obtain ⟨e9, T9, u9, u8, e8, hm9, lt9⟩ := hr9; subst e8); revert nw9 h9 tk9 F9 N9 e9 T9 u9 u8 hm9 lt9; intros; (try dsimp only); (try k_fold))) | walk1 | (dsimp only; walk1) | (leave1; try dsimp only) | fail "no step"))
    refine ⟨vals.length, fun i v => vals[i]? = some v, R1, R1, fun i ys2 nw => ∃ xs : List (Addr × List Bool × Nat), nw = ledB xs ++ R1 ∧ ys2 = xs.map (fun x => Value.ref x.1) ∧ xs.map (·.2) = List.replicate i ([], 0) ∧ (xs.map (·.1)).Nodup ∧ ∀ x ∈ xs, ∀ p ∈ R1, p.1 < x.1,
      fun i v m => True, Src.list rfl N3 hm2, F3, N3, fun s₂ => ⟨?_, ?_, ?_, ?_, ?_⟩, ?_⟩
    · rintro i ys2 nw ⟨xs, rfl, _⟩ p hp
      exact List.mem_append_right _ hp
    · exact ⟨[], rfl, rfl, rfl, List.nodup_nil, fun x hx => nomatch hx⟩
    · rw [hv.1]; exact Nat.le_trans hrl (Nat.le_of_ble_eq_true rfl)
    · intro i v C s' m' Q' E' hi hP hn hkeep h
      exact binds_name rfl (by decide) v C s' m' Q' E' hn (fun h'' tk'' m'' hn'' _ hk'' => h h'' tk'' m'' hn'' trivial hk'')
    · rintro i v ys2 nw I oI C oC D2 m₂ h2 tk2 E' hi hP ⟨xs, rfl, rfl, hx1, hx2, hx3⟩ hyl hC hb F4 N4 off ne
      refine opq_test fun PP2 PN2 hPP2 hPN2 => ?_
      refine wpAny_pure ?_
      simp only [if_true]
      (repeat' (first | (k_unfold; (try dsimp only)) | (k_end; wrow_close) | ((with_reducible show wpAny _ _ (call (Value.builtin _) _) _ _ _); k_here; k_dflt (refine' app_f ?k1 ?k2 ?k3 ?k4 ?_; (case k1 => k_asm); (case k2 => k_asm); (case k3 => walk_at "MY mem"); (case k4 => first | assumption | omega)); intro _ _ _) | (k_here; (with_reducible show wpAny _ _ (subscriptTail _ _ (Value.ref _) (Value.int (Nat.cast _) _)) _ _ _); (refine item_at (s := ⟨_, _, _, _, _⟩) (by k_asm) (by walk_at "MY mem") (by first | assumption | omega) (by assumption) ?_)) | ((with_reducible show wpAny _ _ (call _ _) _ _ _); k_here; (try dsimp only); (with_reducible show wpAny _ _ (call (Value.ref 209) _) _ _ _); k_dflt (refine' Spec.callB (is_hit_at _ _ _ _ _ _ _ _ _ _ _ _ _ _ _ _ _ _ _ ?e0 ?e1 ?e2 ?e3 ?e4) ?k1 ?k2 ?k3 ?k4 ?k5 ?k6 ?k7 ?k8 ?k9 ?ka ?kb ?kc ?_; (case k1 => k_asm); (case k2 => k_asm); (case k3 => k_asm); (case k4 => k_asm); (case k5 => k_asm); (case k6 => first | assumption | exact rfl); (case k7 => first | assumption | exact rfl); (case k8 => k_asm); (case k9 => k_asm); (case ka => rfl); (case kb => rfl); (case kc => exact Nat.le_of_ble_eq_true rfl); (case e0 => walk_at "MY mem"); (case e1 => walk_at "MY mem"); (case e2 => walk_at "MY mem"); (case e3 => assumption); (case e4 => assumption); k_whole; intro v9 nw9 h9 tk9 hr9 F9 N9; (obtain ⟨e9, e8⟩ := hr9; subst e8; replace N9 := led_less N9 e9; clear e9); revert nw9 h9 tk9 F9 N9; intros; (try dsimp only); (try k_fold))) | (k_here; (with_reducible show wpAny _ _ (getMethod (Value.ref _) (PySem.Str.ofString "append") _) _ _ _); k_dflt (refine' listMethod_K ?N ?m PySem.F.slot_list_append PySem.F.type_list_append ?_; (case N => k_asm); (case m => walk_at "MY mem"))) | (k_here; (with_reducible show wpAny _ _ (subscriptTail _ _ (Value.ref _) (Value.int 1 _)) _ _ _); (refine tup_at (i := 1) (s := ⟨_, _, _, _, _⟩) (by k_asm) (by walk_at "MY mem") (by decide) (by exact rfl) ?_)) | (k_here; (with_reducible show wpAny _ _ (subscriptTail _ _ (Value.ref _) (Value.int 0 _)) _ _ _); (refine tup_at (i := 0) (s := ⟨_, _, _, _, _⟩) (by k_asm) (by walk_at "MY mem") (by decide) (by exact rfl) ?_)) | (k_here; (with_reducible show wpAny _ _ (subscriptTail _ _ (Value.ref _) (Value.int 0 _)) _ _ _); (refine item_first (s := ⟨_, _, _, _, _⟩) (by k_asm) (by walk_at "MY mem") (by assumption) ?_); intro _) | ((with_reducible show wpAny _ _ (exec (Stmt.While _ _ _ _) _) _ _ _); k_here; k_dflt (refine' while_at ?k1 ?_; (case k1 => k_asm))) | (k_here; (with_reducible show wpAny _ _ (storeName (envOfC _ _ _ _ _) _ _) _ _ _); k_dflt (refine' cell_f ?k1 ?k2 ?k3 ?k4 ?k5 ?_ ?k6 ?k7; (case k1 => k_asm); (case k2 => k_asm); (case k6 => rfl); (case k7 => rfl); (case k3 => rfl); (case k4 => walk_at "MY mem"); (case k5 => assumption)); intro _ _ _ _ _) | (k_here; (with_reducible show wpAny _ _ (eval (Expr.List [] _) _) _ _ _); k_dflt (refine' list_nil ?k2 ?k3 ?_; (case k2 => k_asm); (case k3 => k_asm)); intro _ _ _ _ _; (try k_sweep)) | (k_here; (with_reducible show wpAny _ _ (subscriptTail _ _ (Value.ref _) (Value.int 4 _)) _ _ _); (refine tup_at (i := 4) (s := ⟨_, _, _, _, _⟩) (by k_asm) (by walk_at "MY mem") (by decide) (by exact rfl) ?_)) | (k_here; (with_reducible show wpAny _ _ (subscriptTail _ _ (Value.ref _) (Value.int 3 _)) _ _ _); (refine tup_at (i := 3) (s := ⟨_, _, _, _, _⟩) (by k_asm) (by walk_at "MY mem") (by decide) (by exact rfl) ?_)) | ((with_reducible show wpAny _ _ (call _ _) _ _ _); k_here; (try dsimp only); (with_reducible show wpAny _ _ (call (Value.ref 202) _) _ _ _); k_dflt (refine' Spec.callB (span_spec _ _ _ _ _ _ _ _ ?e0 ?e1 ?e2) ?k1 ?k2 ?k3 ?k4 ?k5 ?k6 ?k7 ?k8 ?k9 ?ka ?kb ?kc ?_; (case k1 => k_asm); (case k2 => k_asm); (case k3 => k_asm); (case k4 => k_asm); (case k5 => k_asm); (case k6 => first | assumption | exact rfl); (case k7 => first | assumption | exact rfl); (case k8 => k_asm); (case k9 => k_asm); (case ka => rfl); (case kb => rfl); (case kc => exact Nat.le_of_ble_eq_true rfl); (case e0 => assumption); (case e1 => assumption); (case e2 => assumption); k_whole; intro v9 nw9 h9 tk9 hr9 F9 N9; (obtain ⟨e9, T9, u9, u8, e8, hm9, lt9⟩ := hr9; subst e8); revert nw9 h9 tk9 F9 N9 e9 T9 u9 u8 hm9 lt9; intros; (try dsimp only); (try k_fold))) | walk1 | (dsimp only; walk1) | (leave1; try dsimp only) | fail "no step"))
      rename Fr _ _ _ _ => F9
      rename News _ _ _ _ => N9
      rename ∀ (p : Addr × Obj), p ∈ _ → p.1 < _ => lt9
      refine hPP2 _ _ <| CEnd.intro (ledB (xs ++ [(_, [], 0)]) ++ R1) F9 N9 sub_B (fun p hp => ?_) ⟨_, rfl, ?_, ?_, ?_, ?_⟩
      · rw [ledB_append] at hp
        rcases List.mem_append.mp hp with hp | hp
        · rcases List.mem_append.mp hp with hp | hp
          · exact off p (List.mem_append_left _ hp)
          · obtain ⟨x, hx, e⟩ := mem_ledB hp
            rw [List.mem_singleton.mp hx] at e
            rw [e]
            exact ⟨Nat.ne_of_gt (lt9 _ (.head _)), Nat.ne_of_gt (lt9 _ (.tail _ (.head _))), Nat.ne_of_gt (lt9 _ (.tail _ (.tail _ (.head _))))⟩
        · exact off p (List.mem_append_right _ hp)
      · rw [List.map_append]; rfl
      · rw [List.map_append, hx1, List.replicate_succ']; rfl
      · rw [List.map_append]
        refine List.nodup_append.mpr ⟨hx2, List.nodup_cons.mpr ⟨List.not_mem_nil, List.nodup_nil⟩, fun a ha b hb => ?_⟩
        obtain ⟨x, hx, rfl⟩ := List.mem_map.mp ha
        rw [List.mem_singleton.mp hb]
        exact Nat.ne_of_lt (lt9 (x.1, _) (.tail _ (.tail _ (.tail _ (List.mem_append_left _ (List.mem_map_of_mem hx))))))
      · intro x hx p hp
        rcases List.mem_append.mp hx with hx | hx
        · exact hx3 x hx p hp
        · rw [List.mem_singleton.mp hx]
          exact lt9 p (.tail _ (.tail _ (.tail _ (List.mem_append_right _ hp))))
    · rintro D2 h2 tk2 ys2 nw ⟨xs, rfl, rfl, hx1, hx2, hx3⟩ F4 N4 offD2 ltD2
      (repeat' (first | (k_unfold; (try dsimp only)) | (k_end; wrow_close) | ((with_reducible show wpAny _ _ (call (Value.builtin _) _) _ _ _); k_here; k_dflt (refine' app_f ?k1 ?k2 ?k3 ?k4 ?_; (case k1 => k_asm); (case k2 => k_asm); (case k3 => walk_at "MY mem"); (case k4 => first | assumption | omega)); intro _ _ _) | (k_here; (with_reducible show wpAny _ _ (subscriptTail _ _ (Value.ref _) (Value.int (Nat.cast _) _)) _ _ _); (refine item_at (s := ⟨_, _, _, _, _⟩) (by k_asm) (by walk_at "MY mem") (by first | assumption | omega) (by assumption) ?_)) | ((with_reducible show wpAny _ _ (call _ _) _ _ _); k_here; (try dsimp only); (with_reducible show wpAny _ _ (call (Value.ref 209) _) _ _ _); k_dflt (refine' Spec.callB (is_hit_at _ _ _ _ _ _ _ _ _ _ _ _ _ _ _ _ _ _ _ ?e0 ?e1 ?e2 ?e3 ?e4) ?k1 ?k2 ?k3 ?k4 ?k5 ?k6 ?k7 ?k8 ?k9 ?ka ?kb ?kc ?_; (case k1 => k_asm); (case k2 => k_asm); (case k3 => k_asm); (case k4 => k_asm); (case k5 => k_asm); (case k6 => first | assumption | exact rfl); (case k7 => first | assumption | exact rfl); (case k8 => k_asm); (case k9 => k_asm); (case ka => rfl); (case kb => rfl); (case kc => exact Nat.le_of_ble_eq_true rfl); (case e0 => walk_at "MY mem"); (case e1 => walk_at "MY mem"); (case e2 => walk_at "MY mem"); (case e3 => assumption); (case e4 => assumption); k_whole; intro v9 nw9 h9 tk9 hr9 F9 N9; (obtain ⟨e9, e8⟩ := hr9; subst e8; replace N9 := led_less N9 e9; clear e9); revert nw9 h9 tk9 F9 N9; intros; (try dsimp only); (try k_fold))) | (k_here; (with_reducible show wpAny _ _ (getMethod (Value.ref _) (PySem.Str.ofString "append") _) _ _ _); k_dflt (refine' listMethod_K ?N ?m PySem.F.slot_list_append PySem.F.type_list_append ?_; (case N => k_asm); (case m => walk_at "MY mem"))) | (k_here; (with_reducible show wpAny _ _ (subscriptTail _ _ (Value.ref _) (Value.int 1 _)) _ _ _); (refine tup_at (i := 1) (s := ⟨_, _, _, _, _⟩) (by k_asm) (by walk_at "MY mem") (by decide) (by exact rfl) ?_)) | (k_here; (with_reducible show wpAny _ _ (subscriptTail _ _ (Value.ref _) (Value.int 0 _)) _ _ _); (refine tup_at (i := 0) (s := ⟨_, _, _, _, _⟩) (by k_asm) (by walk_at "MY mem") (by decide) (by exact rfl) ?_)) | (k_here; (with_reducible show wpAny _ _ (subscriptTail _ _ (Value.ref _) (Value.int 0 _)) _ _ _); (refine item_first (s := ⟨_, _, _, _, _⟩) (by k_asm) (by walk_at "MY mem") (by assumption) ?_); intro _) | ((with_reducible show wpAny _ _ (exec (Stmt.While _ _ _ _) _) _ _ _); k_here; k_dflt (refine' while_at ?k1 ?_; (case k1 => k_asm))) | (k_here; (with_reducible show wpAny _ _ (storeName (envOfC _ _ _ _ _) _ _) _ _ _); k_dflt (refine' cell_f ?k1 ?k2 ?k3 ?k4 ?k5 ?_ ?k6 ?k7; (case k1 => k_asm); (case k2 => k_asm); (case k6 => rfl); (case k7 => rfl); (case k3 => rfl); (case k4 => walk_at "MY mem"); (case k5 => assumption)); intro _ _ _ _ _) | (k_here; (with_reducible show wpAny _ _ (eval (Expr.List [] _) _) _ _ _); k_dflt (refine' list_nil ?k2 ?k3 ?_; (case k2 => k_asm); (case k3 => k_asm)); intro _ _ _ _ _; (try k_sweep)) | (k_here; (with_reducible show wpAny _ _ (subscriptTail _ _ (Value.ref _) (Value.int 4 _)) _ _ _); (refine tup_at (i := 4) (s := ⟨_, _, _, _, _⟩) (by k_asm) (by walk_at "MY mem") (by decide) (by exact rfl) ?_)) | (k_here; (with_reducible show wpAny _ _ (subscriptTail _ _ (Value.ref _) (Value.int 3 _)) _ _ _); (refine tup_at (i := 3) (s := ⟨_, _, _, _, _⟩) (by k_asm) (by walk_at "MY mem") (by decide) (by exact rfl) ?_)) | ((with_reducible show wpAny _ _ (call _ _) _ _ _); k_here; (try dsimp only); (with_reducible show wpAny _ _ (call (Value.ref 202) _) _ _ _); k_dflt (refine' Spec.callB (span_spec _ _ _ _ _ _ _ _ ?e0 ?e1 ?e2) ?k1 ?k2 ?k3 ?k4 ?k5 ?k6 ?k7 ?k8 ?k9 ?ka ?kb ?kc ?_; (case k1 => k_asm); (case k2 => k_asm); (case k3 => k_asm); (case k4 => k_asm); (case k5 => k_asm); (case k6 => first | assumption | exact rfl); (case k7 => first | assumption | exact rfl); (case k8 => k_asm); (case k9 => k_asm); (case ka => rfl); (case kb => rfl); (case kc => exact Nat.le_of_ble_eq_true rfl); (case e0 => assumption); (case e1 => assumption); (case e2 => assumption); k_whole; intro v9 nw9 h9 tk9 hr9 F9 N9; (obtain ⟨e9, T9, u9, u8, e8, hm9, lt9⟩ := hr9; subst e8); revert nw9 h9 tk9 F9 N9 e9 T9 u9 u8 hm9 lt9; intros; (try dsimp only); (try k_fold))) | walk1 | (dsimp only; walk1) | (leave1; try dsimp only) | fail "no step"))
      rename Fr _ _ _ _ => F5
      rename News _ _ _ _ => N5
      rename_i fa h51 ltfa t4 h52 lt4 h53 h54 oS2 dS2 h55 oT2 dT2 h56 oP2 dP2 h57
      have hxl : xs.length = vals.length := by simpa using congrArg List.length hx1
      obtain ⟨R2, hR2⟩ : ∃ R : Led, R = (L1 + 1 + 1 + 1 + 1, oT2) :: (L1 + 1 + 1 + 1, oS2) :: (L1 + 1 + 1, oR) :: (L1 + 1, oO) :: (D2, lst (xs.map fun x => Value.ref x.1)) :: (D, listOf ys.toArray ys.length) :: (tps ++ news) := ⟨_, rfl⟩
      have N6 : News g1 L1 h57 ((fa, listOf #[] 0) :: (L1 + 1 + 1 + 1 + 1 + 1, oP2) :: (ledB xs ++ ([] ++ R2))) := by
        rw [hR2]
        exact led_less N5 (walk_sub hR0 hR1 lt1 htp ltD ltD2 hx3 ltfa)
      have hR2n : ∀ p ∈ news, p ∈ R2 := fun p hp => by rw [hR2]; exact .tail _ (.tail _ (.tail _ (.tail _ (.tail _ (.tail _ (List.mem_append_right _ hp))))))
      have hxR : ∀ x ∈ xs, ∀ p ∈ R2, p.1 ≠ x.1 := by
        rw [hR2]
        exact walk_off hR0 hR1 hx3 offD2
      have hc1 : (L1 + 1 + 1 + 1 + 1, oT2) ∈ R2 := by rw [hR2]; exact .head _
      have hc2 : (L1 + 1 + 1 + 1, oS2) ∈ R2 := by rw [hR2]; exact .tail _ (.head _)
      have hc3 : (L1 + 1 + 1, oR) ∈ R2 := by rw [hR2]; exact .tail _ (.tail _ (.head _))
      have hc4 : (L1 + 1, oO) ∈ R2 := by rw [hR2]; exact .tail _ (.tail _ (.tail _ (.head _)))
      have hc5 : (D2, listOf (xs.map fun x => Value.ref x.1).toArray (xs.map fun x => Value.ref x.1).length) ∈ R2 := by rw [hR2]; exact .tail _ (.tail _ (.tail _ (.tail _ (.head _))))
      have hc6 : (D, listOf ys.toArray ys.length) ∈ R2 := by rw [hR2]; exact .tail _ (.tail _ (.tail _ (.tail _ (.tail _ (.head _)))))
      have hc7 := hR2n _ hm
      have hspR : AllIn (SpanIn R2) ys (rows.map (spanR o)) := hys.mono fun v x h => by
        refine h.mono fun p hp => ?_
        rw [hR2]
        exact .tail _ (.tail _ (.tail _ (.tail _ (.tail _ (.tail _ (List.mem_append_left _ hp))))))
      have gcP : L1 + 1 + 1 + 1 + 1 + 1 < fa := ltfa _ (.tail _ (List.mem_append_right _ hcP1))
      have hRfa : ∀ p ∈ R2, p.1 ≠ fa := by
        rw [hR2]
        intro p hp
        rcases List.mem_cons.mp hp with rfl | hp
        · exact Nat.ne_of_lt (ltfa (_, oT) (.tail _ (List.mem_append_right _ hcT1)))
        rcases List.mem_cons.mp hp with rfl | hp
        · exact Nat.ne_of_lt (ltfa (_, oS) (.tail _ (List.mem_append_right _ hcS1)))
        rcases List.mem_cons.mp hp with rfl | hp
        · exact Nat.ne_of_lt (ltfa _ (.tail _ (List.mem_append_right _ hcR1)))
        rcases List.mem_cons.mp hp with rfl | hp
        · exact Nat.ne_of_lt (ltfa _ (.tail _ (List.mem_append_right _ hcO1)))
        rcases List.mem_cons.mp hp with rfl | hp
        · exact Nat.ne_of_lt (ltfa _ (.head _))
        rcases List.mem_cons.mp hp with rfl | hp
        · exact Nat.ne_of_lt (ltfa _ (.tail _ (List.mem_append_right _ (by rw [hR1]; exact .head _))))
        rcases List.mem_append.mp hp with hp | hp
        · exact Nat.ne_of_lt (ltfa _ (.tail _ (List.mem_append_right _ (by rw [hR1]; exact .tail _ (List.mem_append_left _ hp)))))
        · exact Nat.ne_of_lt (ltfa _ (.tail _ (List.mem_append_right _ (hR01 _ (hnw _ hp)))))
      have hcR0 : (L1 + 1 + 1 + 1 + 1 + 1, oP) ∈ R0 := by rw [hR0]; exact .head _
      have hRcP : ∀ p ∈ R2, p.1 ≠ L1 + 1 + 1 + 1 + 1 + 1 := by
        rw [hR2]
        exact walk_offP lt1 htp (ltD _ hcR0) (ltD2 _ hcP1)
      have hxcP : ∀ x ∈ xs, L1 + 1 + 1 + 1 + 1 + 1 < x.1 := fun x hx => hx3 x hx _ hcP1
      have hxfa : ∀ x ∈ xs, x.1 < fa := fun x hx => ltfa (x.1, _) (.tail _ (List.mem_append_left _ (List.mem_map_of_mem hx)))
      have hvlen := hv.1
      have hv5 : vals.length ≤ 100000 := by rw [hvlen]; exact Nat.le_trans hrl (Nat.le_of_ble_eq_true rfl)
      have e0 : (fun _ => none : Ns) = ov [(Str.ofString "found", none), (Str.ofString "hits", none), (Str.ofString "taker", none), (Str.ofString "at", none)] (fun _ => none) := ov_start (ov_start (ov_start (ov_start ov_nil)))
      refine ⟨WalkJ o rows fa (L1 + 1 + 1 + 1 + 1 + 1) xs R2, o.length + 1, _, _, F5, N6, ?_, ?_⟩
      · refine ⟨0, tk2, [], 0, [], xs, oP2, none, none, none, [], ?_, rfl, dP2, rfl, trivial, ?_, by omega, Nat.le_refl _, ?_, fun p hp => nomatch hp⟩
        · exact ov_if e0
        · have h5 : xs.map (fun x => x.2.1) = List.replicate rows.length [] := by
            have := congrArg (List.map Prod.fst) hx1
            rw [List.map_map, List.map_replicate, hv.1] at this
            exact this
          show [] ++ walkF o rows (o.length + 1) 0 (xs.map (fun x => x.2.1)) = _
          rw [h5]; rfl
        · intro x hx
          have : x.2 ∈ List.replicate vals.length (([] : List Bool), 0) := hx1 ▸ List.mem_map_of_mem hx
          rw [(List.mem_replicate.mp this).2]
          exact Nat.le_refl _
      · rintro n m1 nw h1 tk1 F6 N7 hJ
        refine opq_while fun PP3 PN3 hPP3 hPN3 => ?_
        obtain ⟨a, ta, fvals, fn, tl, xs', oP', u1, u2, u3, acc, eJ, eK, dP', hads, hacc, hf, hn, hvl, hxs', htl⟩ := hJ
        subst m1
        subst nw
        (repeat' (first | (k_unfold; (try dsimp only)) | (k_end; wrow_close) | ((with_reducible show wpAny _ _ (call (Value.builtin _) _) _ _ _); k_here; k_dflt (refine' app_f ?k1 ?k2 ?k3 ?k4 ?_; (case k1 => k_asm); (case k2 => k_asm); (case k3 => walk_at "MY mem"); (case k4 => first | assumption | omega)); intro _ _ _) | (k_here; (with_reducible show wpAny _ _ (subscriptTail _ _ (Value.ref _) (Value.int (Nat.cast _) _)) _ _ _); (refine item_at (s := ⟨_, _, _, _, _⟩) (by k_asm) (by walk_at "MY mem") (by first | assumption | omega) (by assumption) ?_)) | ((with_reducible show wpAny _ _ (call _ _) _ _ _); k_here; (try dsimp only); (with_reducible show wpAny _ _ (call (Value.ref 209) _) _ _ _); k_dflt (refine' Spec.callB (is_hit_at _ _ _ _ _ _ _ _ _ _ _ _ _ _ _ _ _ _ _ ?e0 ?e1 ?e2 ?e3 ?e4) ?k1 ?k2 ?k3 ?k4 ?k5 ?k6 ?k7 ?k8 ?k9 ?ka ?kb ?kc ?_; (case k1 => k_asm); (case k2 => k_asm); (case k3 => k_asm); (case k4 => k_asm); (case k5 => k_asm); (case k6 => first | assumption | exact rfl); (case k7 => first | assumption | exact rfl); (case k8 => k_asm); (case k9 => k_asm); (case ka => rfl); (case kb => rfl); (case kc => exact Nat.le_of_ble_eq_true rfl); (case e0 => walk_at "MY mem"); (case e1 => walk_at "MY mem"); (case e2 => walk_at "MY mem"); (case e3 => assumption); (case e4 => assumption); k_whole; intro v9 nw9 h9 tk9 hr9 F9 N9; (obtain ⟨e9, e8⟩ := hr9; subst e8; replace N9 := led_less N9 e9; clear e9); revert nw9 h9 tk9 F9 N9; intros; (try dsimp only); (try k_fold))) | (k_here; (with_reducible show wpAny _ _ (getMethod (Value.ref _) (PySem.Str.ofString "append") _) _ _ _); k_dflt (refine' listMethod_K ?N ?m PySem.F.slot_list_append PySem.F.type_list_append ?_; (case N => k_asm); (case m => walk_at "MY mem"))) | (k_here; (with_reducible show wpAny _ _ (subscriptTail _ _ (Value.ref _) (Value.int 1 _)) _ _ _); (refine tup_at (i := 1) (s := ⟨_, _, _, _, _⟩) (by k_asm) (by walk_at "MY mem") (by decide) (by exact rfl) ?_)) | (k_here; (with_reducible show wpAny _ _ (subscriptTail _ _ (Value.ref _) (Value.int 0 _)) _ _ _); (refine tup_at (i := 0) (s := ⟨_, _, _, _, _⟩) (by k_asm) (by walk_at "MY mem") (by decide) (by exact rfl) ?_)) | (k_here; (with_reducible show wpAny _ _ (subscriptTail _ _ (Value.ref _) (Value.int 0 _)) _ _ _); (refine item_first (s := ⟨_, _, _, _, _⟩) (by k_asm) (by walk_at "MY mem") (by assumption) ?_); intro _) | ((with_reducible show wpAny _ _ (exec (Stmt.While _ _ _ _) _) _ _ _); k_here; k_dflt (refine' while_at ?k1 ?_; (case k1 => k_asm))) | (k_here; (with_reducible show wpAny _ _ (storeName (envOfC _ _ _ _ _) _ _) _ _ _); k_dflt (refine' cell_f ?k1 ?k2 ?k3 ?k4 ?k5 ?_ ?k6 ?k7; (case k1 => k_asm); (case k2 => k_asm); (case k6 => rfl); (case k7 => rfl); (case k3 => rfl); (case k4 => walk_at "MY mem"); (case k5 => assumption)); intro _ _ _ _ _) | (k_here; (with_reducible show wpAny _ _ (eval (Expr.List [] _) _) _ _ _); k_dflt (refine' list_nil ?k2 ?k3 ?_; (case k2 => k_asm); (case k3 => k_asm)); intro _ _ _ _ _; (try k_sweep)) | (k_here; (with_reducible show wpAny _ _ (subscriptTail _ _ (Value.ref _) (Value.int 4 _)) _ _ _); (refine tup_at (i := 4) (s := ⟨_, _, _, _, _⟩) (by k_asm) (by walk_at "MY mem") (by decide) (by exact rfl) ?_)) | (k_here; (with_reducible show wpAny _ _ (subscriptTail _ _ (Value.ref _) (Value.int 3 _)) _ _ _); (refine tup_at (i := 3) (s := ⟨_, _, _, _, _⟩) (by k_asm) (by walk_at "MY mem") (by decide) (by exact rfl) ?_)) | ((with_reducible show wpAny _ _ (call _ _) _ _ _); k_here; (try dsimp only); (with_reducible show wpAny _ _ (call (Value.ref 202) _) _ _ _); k_dflt (refine' Spec.callB (span_spec _ _ _ _ _ _ _ _ ?e0 ?e1 ?e2) ?k1 ?k2 ?k3 ?k4 ?k5 ?k6 ?k7 ?k8 ?k9 ?ka ?kb ?kc ?_; (case k1 => k_asm); (case k2 => k_asm); (case k3 => k_asm); (case k4 => k_asm); (case k5 => k_asm); (case k6 => first | assumption | exact rfl); (case k7 => first | assumption | exact rfl); (case k8 => k_asm); (case k9 => k_asm); (case ka => rfl); (case kb => rfl); (case kc => exact Nat.le_of_ble_eq_true rfl); (case e0 => assumption); (case e1 => assumption); (case e2 => assumption); k_whole; intro v9 nw9 h9 tk9 hr9 F9 N9; (obtain ⟨e9, T9, u9, u8, e8, hm9, lt9⟩ := hr9; subst e8); revert nw9 h9 tk9 F9 N9 e9 T9 u9 u8 hm9 lt9; intros; (try dsimp only); (try k_fold))) | walk1 | (dsimp only; walk1) | (leave1; try dsimp only) | fail "no step"))
        · rename Fr _ _ _ _ => F7
          rename News _ _ _ _ => N8
          have hlt : a < o.length := by omega
          have hxl' : xs'.length = xs.length := by simpa using congrArg List.length hads
          obtain ⟨NW, hNW⟩ : ∃ R : Led, R = (fa, listOf fvals.toArray fn) :: (L1 + 1 + 1 + 1 + 1 + 1, oP') :: (ledB xs' ++ (tl ++ R2)) := ⟨_, rfl⟩
          rw [← hNW] at N8
          have hRW : ∀ p ∈ R2, p ∈ NW := fun p hp => by rw [hNW]; exact .tail _ (.tail _ (List.mem_append_right _ (List.mem_append_right _ hp)))
          have hd0 : (L1 + 1 + 1 + 1 + 1 + 1, oP') ∈ NW := by rw [hNW]; exact .tail _ (.head _)
          have hd1 := hRW _ hc1
          have hd2 := hRW _ hc2
          have hd3 := hRW _ hc3
          have hd4 := hRW _ hc4
          have hd5 := hRW _ hc5
          have hd6 := hRW _ hc6
          have hd7 := hRW _ hc7
          have hnew : ∀ p ∈ news, p ∈ NW := fun p hp => hRW _ (hR2n _ hp)
          refine ⟨vals.length, fun i v => ∃ t, v = .int ((i : Nat) : Int) t, [], NW, fun i ys nw => nw = NW ∧ IntsAre ys (nums ((List.range i).filter (hitB o rows (xs'.map (·.2.1)) a))), fun i v m => ∃ t, m (Str.ofString "at") = some (.int ((i : Nat) : Int) t), Src.rangeN rfl (by assumption) hv5, F7, N8, fun s₂ => ⟨?_, ?_, ?_, ?_, ?_⟩, ?_⟩
          · rintro i ys nw _ p hp
            cases hp
          · exact ⟨rfl, IntsAre.nil⟩
          · rw [hvlen]; exact Nat.le_trans hrl (Nat.le_of_ble_eq_true rfl)
          · rintro i v C s' m' Q' E' hi ⟨t, rfl⟩ hn hkeep h
            exact binds_name rfl (by decide) _ C s' m' Q' E' hn (fun h'' tk'' m'' hn'' e'' hk'' => h h'' tk'' m'' hn'' ⟨t, e''⟩ hk'')
          · rintro i v ys5 nw I oI C oC D3 m₂ h tk E' hi ⟨t, rfl⟩ ⟨rfl, hys5⟩ hyl hC ⟨t9, hb⟩ F8 N9 off ne
            refine opq_test fun PP4 PN4 hPP4 hPN4 => ?_
            obtain ⟨r, hr⟩ : ∃ r, rows[i]? = some r := ⟨_, List.getElem?_eq_getElem (hvlen ▸ hi)⟩
            obtain ⟨x, hx⟩ : ∃ x, xs'[i]? = some x := ⟨_, List.getElem?_eq_getElem (by rw [hxl', hxl]; exact hi)⟩
            have hib := Nat.lt_of_lt_of_le hi hv5
            obtain ⟨vr, hvr, T0, k1, k2, k3, k4, k5, rfl, hT0⟩ := hv.get' hr
            obtain ⟨vs, hvs, T3, u4, u5, rfl, hT3⟩ := hspR.get' (x := spanR o r) (i := i) (by rw [List.getElem?_map, hr]; rfl)
            have hT1 := hnew _ hT0
            have hT4 := hRW _ hT3
            have hxa : (xs.map fun x => Value.ref x.1)[i]? = some (.ref x.1) := by
              have : (xs.map (·.1))[i]? = some x.1 := by rw [← hads, List.getElem?_map, hx]; rfl
              rw [List.getElem?_map] at this ⊢
              cases e : xs[i]? with
              | none => rw [e] at this; cases this
              | some x0 => rw [e] at this; simp only [Option.map_some, Option.some.injEq] at this ⊢; rw [this]
            have hxb : (x.1, listOf (x.2.1.map Value.bool).toArray x.2.2) ∈ nw := by
              rw [hNW]
              exact .tail _ (.tail _ (List.mem_append_left _ (List.mem_map_of_mem (List.mem_of_getElem? hx))))
            have hlen := (hok r (List.mem_of_getElem? hr)).len
            have hbit : hitS o r (spanR o r) x.2.1 a = hitB o rows (xs'.map (·.2.1)) a i := by
              unfold hitB
              rw [hr, List.getElem?_map, hx]
              rfl
            (repeat' (first | (k_unfold; (try dsimp only)) | (k_end; wrow_close) | ((with_reducible show wpAny _ _ (call (Value.builtin _) _) _ _ _); k_here; k_dflt (refine' app_f ?k1 ?k2 ?k3 ?k4 ?_; (case k1 => k_asm); (case k2 => k_asm); (case k3 => walk_at "MY mem"); (case k4 => first | assumption | omega)); intro _ _ _) | (k_here; (with_reducible show wpAny _ _ (subscriptTail _ _ (Value.ref _) (Value.int (Nat.cast _) _)) _ _ _); (refine item_at (s := ⟨_, _, _, _, _⟩) (by k_asm) (by walk_at "MY mem") (by first | assumption | omega) (by assumption) ?_)) | ((with_reducible show wpAny _ _ (call _ _) _ _ _); k_here; (try dsimp only); (with_reducible show wpAny _ _ (call (Value.ref 209) _) _ _ _); k_dflt (refine' Spec.callB (is_hit_at _ _ _ _ _ _ _ _ _ _ _ _ _ _ _ _ _ _ _ ?e0 ?e1 ?e2 ?e3 ?e4) ?k1 ?k2 ?k3 ?k4 ?k5 ?k6 ?k7 ?k8 ?k9 ?ka ?kb ?kc ?_; (case k1 => k_asm); (case k2 => k_asm); (case k3 => k_asm); (case k4 => k_asm); (case k5 => k_asm); (case k6 => first | assumption | exact rfl); (case k7 => first | assumption | exact rfl); (case k8 => k_asm); (case k9 => k_asm); (case ka => rfl); (case kb => rfl); (case kc => exact Nat.le_of_ble_eq_true rfl); (case e0 => walk_at "MY mem"); (case e1 => walk_at "MY mem"); (case e2 => walk_at "MY mem"); (case e3 => assumption); (case e4 => assumption); k_whole; intro v9 nw9 h9 tk9 hr9 F9 N9; (obtain ⟨e9, e8⟩ := hr9; subst e8; replace N9 := led_less N9 e9; clear e9); revert nw9 h9 tk9 F9 N9; intros; (try dsimp only); (try k_fold))) | (k_here; (with_reducible show wpAny _ _ (getMethod (Value.ref _) (PySem.Str.ofString "append") _) _ _ _); k_dflt (refine' listMethod_K ?N ?m PySem.F.slot_list_append PySem.F.type_list_append ?_; (case N => k_asm); (case m => walk_at "MY mem"))) | (k_here; (with_reducible show wpAny _ _ (subscriptTail _ _ (Value.ref _) (Value.int 1 _)) _ _ _); (refine tup_at (i := 1) (s := ⟨_, _, _, _, _⟩) (by k_asm) (by walk_at "MY mem") (by decide) (by exact rfl) ?_)) | (k_here; (with_reducible show wpAny _ _ (subscriptTail _ _ (Value.ref _) (Value.int 0 _)) _ _ _); (refine tup_at (i := 0) (s := ⟨_, _, _, _, _⟩) (by k_asm) (by walk_at "MY mem") (by decide) (by exact rfl) ?_)) | (k_here; (with_reducible show wpAny _ _ (subscriptTail _ _ (Value.ref _) (Value.int 0 _)) _ _ _); (refine item_first (s := ⟨_, _, _, _, _⟩) (by k_asm) (by walk_at "MY mem") (by assumption) ?_); intro _) | ((with_reducible show wpAny _ _ (exec (Stmt.While _ _ _ _) _) _ _ _); k_here; k_dflt (refine' while_at ?k1 ?_; (case k1 => k_asm))) | (k_here; (with_reducible show wpAny _ _ (storeName (envOfC _ _ _ _ _) _ _) _ _ _); k_dflt (refine' cell_f ?k1 ?k2 ?k3 ?k4 ?k5 ?_ ?k6 ?k7; (case k1 => k_asm); (case k2 => k_asm); (case k6 => rfl); (case k7 => rfl); (case k3 => rfl); (case k4 => walk_at "MY mem"); (case k5 => assumption)); intro _ _ _ _ _) | (k_here; (with_reducible show wpAny _ _ (eval (Expr.List [] _) _) _ _ _); k_dflt (refine' list_nil ?k2 ?k3 ?_; (case k2 => k_asm); (case k3 => k_asm)); intro _ _ _ _ _; (try k_sweep)) | (k_here; (with_reducible show wpAny _ _ (subscriptTail _ _ (Value.ref _) (Value.int 4 _)) _ _ _); (refine tup_at (i := 4) (s := ⟨_, _, _, _, _⟩) (by k_asm) (by walk_at "MY mem") (by decide) (by exact rfl) ?_)) | (k_here; (with_reducible show wpAny _ _ (subscriptTail _ _ (Value.ref _) (Value.int 3 _)) _ _ _); (refine tup_at (i := 3) (s := ⟨_, _, _, _, _⟩) (by k_asm) (by walk_at "MY mem") (by decide) (by exact rfl) ?_)) | ((with_reducible show wpAny _ _ (call _ _) _ _ _); k_here; (try dsimp only); (with_reducible show wpAny _ _ (call (Value.ref 202) _) _ _ _); k_dflt (refine' Spec.callB (span_spec _ _ _ _ _ _ _ _ ?e0 ?e1 ?e2) ?k1 ?k2 ?k3 ?k4 ?k5 ?k6 ?k7 ?k8 ?k9 ?ka ?kb ?kc ?_; (case k1 => k_asm); (case k2 => k_asm); (case k3 => k_asm); (case k4 => k_asm); (case k5 => k_asm); (case k6 => first | assumption | exact rfl); (case k7 => first | assumption | exact rfl); (case k8 => k_asm); (case k9 => k_asm); (case ka => rfl); (case kb => rfl); (case kc => exact Nat.le_of_ble_eq_true rfl); (case e0 => assumption); (case e1 => assumption); (case e2 => assumption); k_whole; intro v9 nw9 h9 tk9 hr9 F9 N9; (obtain ⟨e9, T9, u9, u8, e8, hm9, lt9⟩ := hr9; subst e8); revert nw9 h9 tk9 F9 N9 e9 T9 u9 u8 hm9 lt9; intros; (try dsimp only); (try k_fold))) | walk1 | (dsimp only; walk1) | (leave1; try dsimp only) | fail "no step"))
            all_goals (rename Fr _ _ _ _ => F9; rename News _ _ _ _ => N10)
            · first | exact hPP4 _ _ (CEnd.intro nw F9 N10 (fun p hp => hp) off ⟨rfl, hits_snoc (by rw [← hbit]; assumption) hys5⟩) | exact hPN4 _ (CEnd.intro nw F9 N10 (fun p hp => hp) off ⟨rfl, hits_snoc (by rw [← hbit]; assumption) hys5⟩)
            · first | exact hPP4 _ _ (CEnd.intro nw F9 N10 (fun p hp => hp) off ⟨rfl, hits_skip (by rw [← hbit]; assumption) hys5⟩) | exact hPN4 _ (CEnd.intro nw F9 N10 (fun p hp => hp) off ⟨rfl, hits_skip (by rw [← hbit]; assumption) hys5⟩)
          · rintro D3 h3 tk3 ys5 nw ⟨rfl, hys5⟩ F8 N9 offD3 ltD3
            have N10 : News g1 L1 h3 ((D3, listOf ys5.toArray ys5.length) :: nw) := N9
            clear N9
            have hyl5 : ys5.length ≤ 100 := by
              have h1 := hys5.length
              unfold nums at h1
              rw [List.length_map] at h1
              have h2 := List.length_filter_le (hitB o rows (xs'.map (·.2.1)) a) (List.range vals.length)
              rw [List.length_range] at h2
              omega
            (repeat' (first | (k_unfold; (try dsimp only)) | (k_end; wrow_close) | ((with_reducible show wpAny _ _ (call (Value.builtin _) _) _ _ _); k_here; k_dflt (refine' app_f ?k1 ?k2 ?k3 ?k4 ?_; (case k1 => k_asm); (case k2 => k_asm); (case k3 => walk_at "MY mem"); (case k4 => first | assumption | omega)); intro _ _ _) | (k_here; (with_reducible show wpAny _ _ (subscriptTail _ _ (Value.ref _) (Value.int (Nat.cast _) _)) _ _ _); (refine item_at (s := ⟨_, _, _, _, _⟩) (by k_asm) (by walk_at "MY mem") (by first | assumption | omega) (by assumption) ?_)) | ((with_reducible show wpAny _ _ (call _ _) _ _ _); k_here; (try dsimp only); (with_reducible show wpAny _ _ (call (Value.ref 209) _) _ _ _); k_dflt (refine' Spec.callB (is_hit_at _ _ _ _ _ _ _ _ _ _ _ _ _ _ _ _ _ _ _ ?e0 ?e1 ?e2 ?e3 ?e4) ?k1 ?k2 ?k3 ?k4 ?k5 ?k6 ?k7 ?k8 ?k9 ?ka ?kb ?kc ?_; (case k1 => k_asm); (case k2 => k_asm); (case k3 => k_asm); (case k4 => k_asm); (case k5 => k_asm); (case k6 => first | assumption | exact rfl); (case k7 => first | assumption | exact rfl); (case k8 => k_asm); (case k9 => k_asm); (case ka => rfl); (case kb => rfl); (case kc => exact Nat.le_of_ble_eq_true rfl); (case e0 => walk_at "MY mem"); (case e1 => walk_at "MY mem"); (case e2 => walk_at "MY mem"); (case e3 => assumption); (case e4 => assumption); k_whole; intro v9 nw9 h9 tk9 hr9 F9 N9; (obtain ⟨e9, e8⟩ := hr9; subst e8; replace N9 := led_less N9 e9; clear e9); revert nw9 h9 tk9 F9 N9; intros; (try dsimp only); (try k_fold))) | (k_here; (with_reducible show wpAny _ _ (getMethod (Value.ref _) (PySem.Str.ofString "append") _) _ _ _); k_dflt (refine' listMethod_K ?N ?m PySem.F.slot_list_append PySem.F.type_list_append ?_; (case N => k_asm); (case m => walk_at "MY mem"))) | (k_here; (with_reducible show wpAny _ _ (subscriptTail _ _ (Value.ref _) (Value.int 1 _)) _ _ _); (refine tup_at (i := 1) (s := ⟨_, _, _, _, _⟩) (by k_asm) (by walk_at "MY mem") (by decide) (by exact rfl) ?_)) | (k_here; (with_reducible show wpAny _ _ (subscriptTail _ _ (Value.ref _) (Value.int 0 _)) _ _ _); (refine tup_at (i := 0) (s := ⟨_, _, _, _, _⟩) (by k_asm) (by walk_at "MY mem") (by decide) (by exact rfl) ?_)) | (k_here; (with_reducible show wpAny _ _ (subscriptTail _ _ (Value.ref _) (Value.int 0 _)) _ _ _); (refine item_first (s := ⟨_, _, _, _, _⟩) (by k_asm) (by walk_at "MY mem") (by assumption) ?_); intro _) | ((with_reducible show wpAny _ _ (exec (Stmt.While _ _ _ _) _) _ _ _); k_here; k_dflt (refine' while_at ?k1 ?_; (case k1 => k_asm))) | (k_here; (with_reducible show wpAny _ _ (storeName (envOfC _ _ _ _ _) _ _) _ _ _); k_dflt (refine' cell_f ?k1 ?k2 ?k3 ?k4 ?k5 ?_ ?k6 ?k7; (case k1 => k_asm); (case k2 => k_asm); (case k6 => rfl); (case k7 => rfl); (case k3 => rfl); (case k4 => walk_at "MY mem"); (case k5 => assumption)); intro _ _ _ _ _) | (k_here; (with_reducible show wpAny _ _ (eval (Expr.List [] _) _) _ _ _); k_dflt (refine' list_nil ?k2 ?k3 ?_; (case k2 => k_asm); (case k3 => k_asm)); intro _ _ _ _ _; (try k_sweep)) | (k_here; (with_reducible show wpAny _ _ (subscriptTail _ _ (Value.ref _) (Value.int 4 _)) _ _ _); (refine tup_at (i := 4) (s := ⟨_, _, _, _, _⟩) (by k_asm) (by walk_at "MY mem") (by decide) (by exact rfl) ?_)) | (k_here; (with_reducible show wpAny _ _ (subscriptTail _ _ (Value.ref _) (Value.int 3 _)) _ _ _); (refine tup_at (i := 3) (s := ⟨_, _, _, _, _⟩) (by k_asm) (by walk_at "MY mem") (by decide) (by exact rfl) ?_)) | ((with_reducible show wpAny _ _ (call _ _) _ _ _); k_here; (try dsimp only); (with_reducible show wpAny _ _ (call (Value.ref 202) _) _ _ _); k_dflt (refine' Spec.callB (span_spec _ _ _ _ _ _ _ _ ?e0 ?e1 ?e2) ?k1 ?k2 ?k3 ?k4 ?k5 ?k6 ?k7 ?k8 ?k9 ?ka ?kb ?kc ?_; (case k1 => k_asm); (case k2 => k_asm); (case k3 => k_asm); (case k4 => k_asm); (case k5 => k_asm); (case k6 => first | assumption | exact rfl); (case k7 => first | assumption | exact rfl); (case k8 => k_asm); (case k9 => k_asm); (case ka => rfl); (case kb => rfl); (case kc => exact Nat.le_of_ble_eq_true rfl); (case e0 => assumption); (case e1 => assumption); (case e2 => assumption); k_whole; intro v9 nw9 h9 tk9 hr9 F9 N9; (obtain ⟨e9, T9, u9, u8, e8, hm9, lt9⟩ := hr9; subst e8); revert nw9 h9 tk9 F9 N9 e9 T9 u9 u8 hm9 lt9; intros; (try dsimp only); (try k_fold))) | walk1 | (dsimp only; walk1) | (leave1; try dsimp only) | fail "no step"))
            rename Fr _ _ _ _ => F11
            rename News _ _ _ _ => N11
            rw [head_hits] at F11
            obtain ⟨tkr, htkr⟩ : ∃ tk, tk = ((List.range vals.length).filter (hitB o rows (xs'.map (·.2.1)) a)).head? := ⟨_, rfl⟩
            rw [← htkr] at F11
            have N12 := led_less (a := nw) N11 (fun p hp => .tail _ (.tail _ (.tail _ hp)))
            rw [hNW] at N12
            have htlt : ∀ p ∈ tl, ∀ x ∈ xs, p.1 ≠ x.1 := fun p hp x hx => by
              have h1 := htl p hp
              have h2 := ltfa (x.1, _) (.tail _ (List.mem_append_left _ (List.mem_map_of_mem hx)))
              exact Nat.ne_of_gt (Nat.lt_trans h2 h1)
            refine ⟨vals.length, fun i v => ∃ t, v = .int ((i : Nat) : Int) t, [], _, _, WalkK o rows fa (L1 + 1 + 1 + 1 + 1 + 1) xs xs' tl R2 a tkr fvals fn oP', Src.rangeN rfl (by assumption) hv5, F11, N12, ?_, ?_, ?_, ?_⟩
            · rintro i m nw _ p hp
              cases hp
            · exact ⟨xs', some (.ref D3), u3, _, ov_if (ov_if rfl), rfl, hads, fun j x hx => ⟨x, hx, by rw [if_neg (Nat.not_lt_zero _)]⟩⟩
            · rintro i v I oI m2 nw2 h tk hi ⟨t, rfl⟩ hJ hI off F12 N13
              refine opq_turn fun PP5 hPP5 => ?_
              obtain ⟨x2, v1, v3, tt, eJ, eK, had2, hst2⟩ := hJ
              subst m2
              subst nw2
              obtain ⟨r, hr⟩ : ∃ r, rows[i]? = some r := ⟨_, List.getElem?_eq_getElem (hvlen ▸ hi)⟩
              have hl2 : x2.length = xs.length := by simpa using congrArg List.length had2
              obtain ⟨x, hx⟩ : ∃ x, x2[i]? = some x := ⟨_, List.getElem?_eq_getElem (by rw [hl2, hxl]; exact hi)⟩
              have hib := Nat.lt_of_lt_of_le hi hv5
              obtain ⟨x0, hx0, hxe⟩ := hst2 i x hx
              rw [if_neg (Nat.lt_irrefl _)] at hxe
              obtain ⟨vs, hvs, T3, u4, u5, rfl, hT3⟩ := hspR.get' (x := spanR o r) (i := i) (by rw [List.getElem?_map, hr]; rfl)
              have hxa : (xs.map fun x => Value.ref x.1)[i]? = some (.ref x.1) := by
                have : (xs.map (·.1))[i]? = some x.1 := by rw [← had2, List.getElem?_map, hx]; rfl
                rw [List.getElem?_map] at this ⊢
                cases e : xs[i]? with
                | none => rw [e] at this; cases this
                | some x0 => rw [e] at this; simp only [Option.map_some, Option.some.injEq] at this ⊢; rw [this]
              have hxb : (x.1, listOf (x.2.1.map Value.bool).toArray x.2.2) ∈ ledB x2 := List.mem_map_of_mem (List.mem_of_getElem? hx)
              have hxsz : (x.2.1.map Value.bool).length ≤ 100000 := by
                have := hxs' x0 (List.mem_of_getElem? hx0)
                rw [List.length_map, hxe]
                omega
              have hxin : x.1 ∈ xs.map (·.1) := had2 ▸ List.mem_map_of_mem (List.mem_of_getElem? hx)
              obtain ⟨x1, hx1m, hx1e⟩ := List.mem_map.mp hxin
              have hIx : I ≠ x.1 := Ne.symm (off (x.1, _) (.tail _ (.tail _ (List.mem_append_left _ hxb))))
              have hst3 : ∀ (b : List Bool), b = standA o rows a tkr i x0.2.1 → ∀ (y : Addr × List Bool × Nat), y.2.1 = b → ∀ (j : Nat) (z : Addr × List Bool × Nat), (x2.set i y)[j]? = some z → ∃ x0, xs'[j]? = some x0 ∧ z.2.1 = if j < i + 1 then standA o rows a tkr j x0.2.1 else x0.2.1 := by
                intro b hb y hy j z hz
                by_cases hj : i = j
                · subst hj
                  rw [List.getElem?_set_self (List.getElem?_eq_some_iff.mp hx).1] at hz
                  obtain rfl := Option.some.inj hz
                  exact ⟨x0, hx0, by rw [if_pos (Nat.lt_succ_self _), hy, hb]⟩
                · rw [List.getElem?_set_ne hj] at hz
                  obtain ⟨z0, h1, h2⟩ := hst2 j z hz
                  refine ⟨z0, h1, ?_⟩
                  rw [h2]
                  by_cases hlt2 : j < i
                  · rw [if_pos hlt2, if_pos (Nat.lt_succ_of_lt hlt2)]
                  · rw [if_neg hlt2, if_neg (not_succ hj hlt2)]
              have hst4 : x0.2.1 = standA o rows a tkr i x0.2.1 → ∀ (j : Nat) (z : Addr × List Bool × Nat), x2[j]? = some z → ∃ x0, xs'[j]? = some x0 ∧ z.2.1 = if j < i + 1 then standA o rows a tkr j x0.2.1 else x0.2.1 := by
                intro h5 j z hz
                obtain ⟨z0, h1, h2⟩ := hst2 j z hz
                refine ⟨z0, h1, ?_⟩
                rw [h2]
                by_cases hj : i = j
                · subst hj
                  rw [if_neg (Nat.lt_irrefl _), if_pos (Nat.lt_succ_self _)]
                  rw [hx0] at h1
                  obtain rfl := Option.some.inj h1
                  exact h5
                · by_cases hlt2 : j < i
                  · rw [if_pos hlt2, if_pos (Nat.lt_succ_of_lt hlt2)]
                  · rw [if_neg hlt2, if_neg (not_succ hj hlt2)]
              have hnd2 : (x2.map (·.1)).Nodup := had2 ▸ hx2
              (repeat' (first | (k_unfold; (try dsimp only)) | (k_end; wrow_close) | ((with_reducible show wpAny _ _ (call (Value.builtin _) _) _ _ _); k_here; k_dflt (refine' app_f ?k1 ?k2 ?k3 ?k4 ?_; (case k1 => k_asm); (case k2 => k_asm); (case k3 => walk_at "MY mem"); (case k4 => first | assumption | omega)); intro _ _ _) | (k_here; (with_reducible show wpAny _ _ (subscriptTail _ _ (Value.ref _) (Value.int (Nat.cast _) _)) _ _ _); (refine item_at (s := ⟨_, _, _, _, _⟩) (by k_asm) (by walk_at "MY mem") (by first | assumption | omega) (by assumption) ?_)) | ((with_reducible show wpAny _ _ (call _ _) _ _ _); k_here; (try dsimp only); (with_reducible show wpAny _ _ (call (Value.ref 209) _) _ _ _); k_dflt (refine' Spec.callB (is_hit_at _ _ _ _ _ _ _ _ _ _ _ _ _ _ _ _ _ _ _ ?e0 ?e1 ?e2 ?e3 ?e4) ?k1 ?k2 ?k3 ?k4 ?k5 ?k6 ?k7 ?k8 ?k9 ?ka ?kb ?kc ?_; (case k1 => k_asm); (case k2 => k_asm); (case k3 => k_asm); (case k4 => k_asm); (case k5 => k_asm); (case k6 => first | assumption | exact rfl); (case k7 => first | assumption | exact rfl); (case k8 => k_asm); (case k9 => k_asm); (case ka => rfl); (case kb => rfl); (case kc => exact Nat.le_of_ble_eq_true rfl); (case e0 => walk_at "MY mem"); (case e1 => walk_at "MY mem"); (case e2 => walk_at "MY mem"); (case e3 => assumption); (case e4 => assumption); k_whole; intro v9 nw9 h9 tk9 hr9 F9 N9; (obtain ⟨e9, e8⟩ := hr9; subst e8; replace N9 := led_less N9 e9; clear e9); revert nw9 h9 tk9 F9 N9; intros; (try dsimp only); (try k_fold))) | (k_here; (with_reducible show wpAny _ _ (getMethod (Value.ref _) (PySem.Str.ofString "append") _) _ _ _); k_dflt (refine' listMethod_K ?N ?m PySem.F.slot_list_append PySem.F.type_list_append ?_; (case N => k_asm); (case m => walk_at "MY mem"))) | (k_here; (with_reducible show wpAny _ _ (subscriptTail _ _ (Value.ref _) (Value.int 1 _)) _ _ _); (refine tup_at (i := 1) (s := ⟨_, _, _, _, _⟩) (by k_asm) (by walk_at "MY mem") (by decide) (by exact rfl) ?_)) | (k_here; (with_reducible show wpAny _ _ (subscriptTail _ _ (Value.ref _) (Value.int 0 _)) _ _ _); (refine tup_at (i := 0) (s := ⟨_, _, _, _, _⟩) (by k_asm) (by walk_at "MY mem") (by decide) (by exact rfl) ?_)) | (k_here; (with_reducible show wpAny _ _ (subscriptTail _ _ (Value.ref _) (Value.int 0 _)) _ _ _); (refine item_first (s := ⟨_, _, _, _, _⟩) (by k_asm) (by walk_at "MY mem") (by assumption) ?_); intro _) | ((with_reducible show wpAny _ _ (exec (Stmt.While _ _ _ _) _) _ _ _); k_here; k_dflt (refine' while_at ?k1 ?_; (case k1 => k_asm))) | (k_here; (with_reducible show wpAny _ _ (storeName (envOfC _ _ _ _ _) _ _) _ _ _); k_dflt (refine' cell_f ?k1 ?k2 ?k3 ?k4 ?k5 ?_ ?k6 ?k7; (case k1 => k_asm); (case k2 => k_asm); (case k6 => rfl); (case k7 => rfl); (case k3 => rfl); (case k4 => walk_at "MY mem"); (case k5 => assumption)); intro _ _ _ _ _) | (k_here; (with_reducible show wpAny _ _ (eval (Expr.List [] _) _) _ _ _); k_dflt (refine' list_nil ?k2 ?k3 ?_; (case k2 => k_asm); (case k3 => k_asm)); intro _ _ _ _ _; (try k_sweep)) | (k_here; (with_reducible show wpAny _ _ (subscriptTail _ _ (Value.ref _) (Value.int 4 _)) _ _ _); (refine tup_at (i := 4) (s := ⟨_, _, _, _, _⟩) (by k_asm) (by walk_at "MY mem") (by decide) (by exact rfl) ?_)) | (k_here; (with_reducible show wpAny _ _ (subscriptTail _ _ (Value.ref _) (Value.int 3 _)) _ _ _); (refine tup_at (i := 3) (s := ⟨_, _, _, _, _⟩) (by k_asm) (by walk_at "MY mem") (by decide) (by exact rfl) ?_)) | ((with_reducible show wpAny _ _ (call _ _) _ _ _); k_here; (try dsimp only); (with_reducible show wpAny _ _ (call (Value.ref 202) _) _ _ _); k_dflt (refine' Spec.callB (span_spec _ _ _ _ _ _ _ _ ?e0 ?e1 ?e2) ?k1 ?k2 ?k3 ?k4 ?k5 ?k6 ?k7 ?k8 ?k9 ?ka ?kb ?kc ?_; (case k1 => k_asm); (case k2 => k_asm); (case k3 => k_asm); (case k4 => k_asm); (case k5 => k_asm); (case k6 => first | assumption | exact rfl); (case k7 => first | assumption | exact rfl); (case k8 => k_asm); (case k9 => k_asm); (case ka => rfl); (case kb => rfl); (case kc => exact Nat.le_of_ble_eq_true rfl); (case e0 => assumption); (case e1 => assumption); (case e2 => assumption); k_whole; intro v9 nw9 h9 tk9 hr9 F9 N9; (obtain ⟨e9, T9, u9, u8, e8, hm9, lt9⟩ := hr9; subst e8); revert nw9 h9 tk9 F9 N9 e9 T9 u9 u8 hm9 lt9; intros; (try dsimp only); (try k_fold))) | walk1 | (dsimp only; walk1) | (leave1; try dsimp only) | fail "no step"))
              all_goals (rename Fr _ _ _ _ => F14; rename News _ _ _ _ => N14)
              · rw [tak_beq] at N14
                refine hPP5 _ _ <| TEnd.next ((fa, listOf fvals.toArray fn) :: (L1 + 1 + 1 + 1 + 1 + 1, oP') :: (ledB (x2.set i (x.1, x.2.1 ++ [decide (tkr = some i)], x.2.2 + 1)) ++ (tl ++ R2))) F14 N14 (set_sub hx rfl (by rw [List.map_append]; rfl) hnd2 hIx ?_ ?_ ?_) (set_off hx rfl hnd2 off) ⟨_, _, _, _, by simp only [ov_pt]; rfl, rfl, (set_fst (y := (x.1, x.2.1 ++ [decide (tkr = some i)], x.2.2 + 1)) hx rfl).trans had2, hst3 _ ?_ _ rfl⟩
                · rw [← hx1e]; exact Nat.ne_of_gt (hxfa _ hx1m)
                · rw [← hx1e]; exact Nat.ne_of_lt (hxcP _ hx1m)
                · intro p hp
                  rw [← hx1e]
                  rcases List.mem_append.mp hp with hp | hp
                  · exact htlt p hp _ hx1m
                  · exact hxR _ hx1m p hp
                · unfold standA
                  rw [hr]
                  show _ = stand1 o a tkr i r x0.2.1
                  unfold stand1
                  rw [if_pos (by omega), hxe]
              · refine hPP5 _ _ <| TEnd.next _ F14 N14 (fun p hp => hp) off ⟨_, _, _, _, by simp only [ov_pt]; rfl, rfl, had2, hst4 ?_⟩
                unfold standA
                rw [hr]
                show _ = stand1 o a tkr i r x0.2.1
                unfold stand1
                rw [if_neg (by omega)]
              · refine hPP5 _ _ <| TEnd.next _ F14 N14 (fun p hp => hp) off ⟨_, _, _, _, by simp only [ov_pt]; rfl, rfl, had2, hst4 ?_⟩
                unfold standA
                rw [hr]
                show _ = stand1 o a tkr i r x0.2.1
                unfold stand1
                rw [if_neg (by omega)]
            · rintro m2 nw2 h tk hJ F12 N13
              obtain ⟨x2, v1, v3, tt, eJ, eK, had2, hst2⟩ := hJ
              subst m2
              subst nw2
              have hl2 : x2.length = xs.length := by simpa using congrArg List.length had2
              have hsts : x2.map (·.2.1) = standL o rows a tkr (xs'.map (·.2.1)) := stand_all (by first | rw [hl2, hxl'] | omega) (by first | exact Nat.le_of_eq (by rw [hl2, hxl]) | omega) hst2
              have hlen2 : ∀ x ∈ x2, x.2.1.length ≤ a + 1 := by
                intro x hx
                obtain ⟨j, hj⟩ := List.mem_iff_getElem?.mp hx
                obtain ⟨x0, h1, h2⟩ := hst2 j x hj
                have h3 := hxs' x0 (List.mem_of_getElem? h1)
                rw [h2]
                split
                · exact Nat.le_trans (stand_len ..) (Nat.succ_le_succ h3)
                · exact Nat.le_succ_of_le h3
              have hB : ∀ p ∈ ledB x2, ∃ x ∈ xs, p.1 = x.1 := by
                intro p hp
                obtain ⟨x, hx, e⟩ := mem_ledB hp
                have : x.1 ∈ xs.map (·.1) := had2 ▸ List.mem_map_of_mem hx
                obtain ⟨x1, h1, h2⟩ := List.mem_map.mp this
                exact ⟨x1, h1, e.trans h2.symm⟩
              have hB1 : ∀ p ∈ ledB x2, p.1 ≠ L1 + 1 + 1 + 1 + 1 + 1 := fun p hp => by
                obtain ⟨x, hx, e⟩ := hB p hp
                rw [e]; exact Nat.ne_of_gt (hxcP x hx)
              have hB2 : ∀ p ∈ ledB x2, p.1 ≠ fa := fun p hp => by
                obtain ⟨x, hx, e⟩ := hB p hp
                rw [e]; exact Nat.ne_of_lt (hxfa x hx)
              have htl1 : ∀ p ∈ tl, p.1 ≠ L1 + 1 + 1 + 1 + 1 + 1 := fun p hp => Nat.ne_of_gt (Nat.lt_trans gcP (htl p hp))
              have htl2 : ∀ p ∈ tl, p.1 ≠ fa := fun p hp => Nat.ne_of_gt (htl p hp)
              obtain ⟨f, rfl⟩ := succ_of hn hlt
              have hh : (hitsL o rows (xs'.map (·.2.1)) a).head? = tkr := by unfold hitsL; rw [htkr, hvlen]
              rw [walkF, if_pos hlt, hh] at hf
              dsimp only
              cases tkr with
              | none =>
                simp only [takI, ← hsts] at F12 hf
                (repeat' (first | (k_unfold; (try dsimp only)) | (k_end; wrow_close) | ((with_reducible show wpAny _ _ (call (Value.builtin _) _) _ _ _); k_here; k_dflt (refine' app_f ?k1 ?k2 ?k3 ?k4 ?_; (case k1 => k_asm); (case k2 => k_asm); (case k3 => walk_at "MY mem"); (case k4 => first | assumption | omega)); intro _ _ _) | (k_here; (with_reducible show wpAny _ _ (subscriptTail _ _ (Value.ref _) (Value.int (Nat.cast _) _)) _ _ _); (refine item_at (s := ⟨_, _, _, _, _⟩) (by k_asm) (by walk_at "MY mem") (by first | assumption | omega) (by assumption) ?_)) | ((with_reducible show wpAny _ _ (call _ _) _ _ _); k_here; (try dsimp only); (with_reducible show wpAny _ _ (call (Value.ref 209) _) _ _ _); k_dflt (refine' Spec.callB (is_hit_at _ _ _ _ _ _ _ _ _ _ _ _ _ _ _ _ _ _ _ ?e0 ?e1 ?e2 ?e3 ?e4) ?k1 ?k2 ?k3 ?k4 ?k5 ?k6 ?k7 ?k8 ?k9 ?ka ?kb ?kc ?_; (case k1 => k_asm); (case k2 => k_asm); (case k3 => k_asm); (case k4 => k_asm); (case k5 => k_asm); (case k6 => first | assumption | exact rfl); (case k7 => first | assumption | exact rfl); (case k8 => k_asm); (case k9 => k_asm); (case ka => rfl); (case kb => rfl); (case kc => exact Nat.le_of_ble_eq_true rfl); (case e0 => walk_at "MY mem"); (case e1 => walk_at "MY mem"); (case e2 => walk_at "MY mem"); (case e3 => assumption); (case e4 => assumption); k_whole; intro v9 nw9 h9 tk9 hr9 F9 N9; (obtain ⟨e9, e8⟩ := hr9; subst e8; replace N9 := led_less N9 e9; clear e9); revert nw9 h9 tk9 F9 N9; intros; (try dsimp only); (try k_fold))) | (k_here; (with_reducible show wpAny _ _ (getMethod (Value.ref _) (PySem.Str.ofString "append") _) _ _ _); k_dflt (refine' listMethod_K ?N ?m PySem.F.slot_list_append PySem.F.type_list_append ?_; (case N => k_asm); (case m => walk_at "MY mem"))) | (k_here; (with_reducible show wpAny _ _ (subscriptTail _ _ (Value.ref _) (Value.int 1 _)) _ _ _); (refine tup_at (i := 1) (s := ⟨_, _, _, _, _⟩) (by k_asm) (by walk_at "MY mem") (by decide) (by exact rfl) ?_)) | (k_here; (with_reducible show wpAny _ _ (subscriptTail _ _ (Value.ref _) (Value.int 0 _)) _ _ _); (refine tup_at (i := 0) (s := ⟨_, _, _, _, _⟩) (by k_asm) (by walk_at "MY mem") (by decide) (by exact rfl) ?_)) | (k_here; (with_reducible show wpAny _ _ (subscriptTail _ _ (Value.ref _) (Value.int 0 _)) _ _ _); (refine item_first (s := ⟨_, _, _, _, _⟩) (by k_asm) (by walk_at "MY mem") (by assumption) ?_); intro _) | ((with_reducible show wpAny _ _ (exec (Stmt.While _ _ _ _) _) _ _ _); k_here; k_dflt (refine' while_at ?k1 ?_; (case k1 => k_asm))) | (k_here; (with_reducible show wpAny _ _ (storeName (envOfC _ _ _ _ _) _ _) _ _ _); k_dflt (refine' cell_f ?k1 ?k2 ?k3 ?k4 ?k5 ?_ ?k6 ?k7; (case k1 => k_asm); (case k2 => k_asm); (case k6 => rfl); (case k7 => rfl); (case k3 => rfl); (case k4 => walk_at "MY mem"); (case k5 => assumption)); intro _ _ _ _ _) | (k_here; (with_reducible show wpAny _ _ (eval (Expr.List [] _) _) _ _ _); k_dflt (refine' list_nil ?k2 ?k3 ?_; (case k2 => k_asm); (case k3 => k_asm)); intro _ _ _ _ _; (try k_sweep)) | (k_here; (with_reducible show wpAny _ _ (subscriptTail _ _ (Value.ref _) (Value.int 4 _)) _ _ _); (refine tup_at (i := 4) (s := ⟨_, _, _, _, _⟩) (by k_asm) (by walk_at "MY mem") (by decide) (by exact rfl) ?_)) | (k_here; (with_reducible show wpAny _ _ (subscriptTail _ _ (Value.ref _) (Value.int 3 _)) _ _ _); (refine tup_at (i := 3) (s := ⟨_, _, _, _, _⟩) (by k_asm) (by walk_at "MY mem") (by decide) (by exact rfl) ?_)) | ((with_reducible show wpAny _ _ (call _ _) _ _ _); k_here; (try dsimp only); (with_reducible show wpAny _ _ (call (Value.ref 202) _) _ _ _); k_dflt (refine' Spec.callB (span_spec _ _ _ _ _ _ _ _ ?e0 ?e1 ?e2) ?k1 ?k2 ?k3 ?k4 ?k5 ?k6 ?k7 ?k8 ?k9 ?ka ?kb ?kc ?_; (case k1 => k_asm); (case k2 => k_asm); (case k3 => k_asm); (case k4 => k_asm); (case k5 => k_asm); (case k6 => first | assumption | exact rfl); (case k7 => first | assumption | exact rfl); (case k8 => k_asm); (case k9 => k_asm); (case ka => rfl); (case kb => rfl); (case kc => exact Nat.le_of_ble_eq_true rfl); (case e0 => assumption); (case e1 => assumption); (case e2 => assumption); k_whole; intro v9 nw9 h9 tk9 hr9 F9 N9; (obtain ⟨e9, T9, u9, u8, e8, hm9, lt9⟩ := hr9; subst e8); revert nw9 h9 tk9 F9 N9 e9 T9 u9 u8 hm9 lt9; intros; (try dsimp only); (try k_fold))) | walk1 | (dsimp only; walk1) | (leave1; try dsimp only) | fail "no step"))
                rename Fr _ _ _ _ => F14
                rename News _ _ _ _ => N14
                rename _ = Data.cell (some (Value.int ((a : Int) + 1) _)) => d9
                refine hPP3 _ _ <| WhileStep.intro F14 (led_less N14 (end_sub (Nat.ne_of_gt gcP) hB1 (fun p hp => ?_))) (Nat.lt_succ_self f) ⟨a + 1, _, fvals, fn, tl, x2, _, _, _, _, acc, rfl, rfl, d9, had2, hacc, hf, step1 hn, Nat.le_succ_of_le hvl, hlen2, htl⟩
                rcases List.mem_append.mp hp with hp | hp
                · exact htl1 p hp
                · exact hRcP p hp
              | some i =>
                have hi : i < rows.length := by
                  have := List.mem_of_head? htkr.symm
                  have := (List.mem_filter.mp this).1
                  rw [List.mem_range] at this
                  first | exact hvlen ▸ this | omega
                obtain ⟨r, hr⟩ : ∃ r, rows[i]? = some r := ⟨_, List.getElem?_eq_getElem hi⟩
                obtain ⟨vr, hvr, T0, k1, k2, k3, k4, k5, rfl, hT0⟩ := hv.get' hr
                have hT1 := hR2n _ hT0
                have hlen := (hok r (List.mem_of_getElem? hr)).len
                have hpos := (hok r (List.mem_of_getElem? hr)).pos
                have hne0 := Nat.ne_of_lt gcP
                have hne1 := hRfa _ hc3
                have hne2 := hRfa _ hc7
                have hne3 := hRfa _ hT1
                have hsz : sizeAt rows i = r.size := by unfold sizeAt; rw [hr]
                have hil : i < 100000 := Nat.lt_of_lt_of_le hi (Nat.le_trans hrl (Nat.le_of_ble_eq_true rfl))
                simp only [takI, hsz, ← hsts] at F12 hf
                rcases wv_cases r k2 with ⟨e, hs⟩ | ⟨e, hs, hnc⟩ <;> rw [e] at hT1
                · (repeat' (first | (k_unfold; (try dsimp only)) | (k_end; wrow_close) | ((with_reducible show wpAny _ _ (call (Value.builtin _) _) _ _ _); k_here; k_dflt (refine' app_f ?k1 ?k2 ?k3 ?k4 ?_; (case k1 => k_asm); (case k2 => k_asm); (case k3 => walk_at "MY mem"); (case k4 => first | assumption | omega)); intro _ _ _) | (k_here; (with_reducible show wpAny _ _ (subscriptTail _ _ (Value.ref _) (Value.int (Nat.cast _) _)) _ _ _); (refine item_at (s := ⟨_, _, _, _, _⟩) (by k_asm) (by walk_at "MY mem") (by first | assumption | omega) (by assumption) ?_)) | ((with_reducible show wpAny _ _ (call _ _) _ _ _); k_here; (try dsimp only); (with_reducible show wpAny _ _ (call (Value.ref 209) _) _ _ _); k_dflt (refine' Spec.callB (is_hit_at _ _ _ _ _ _ _ _ _ _ _ _ _ _ _ _ _ _ _ ?e0 ?e1 ?e2 ?e3 ?e4) ?k1 ?k2 ?k3 ?k4 ?k5 ?k6 ?k7 ?k8 ?k9 ?ka ?kb ?kc ?_; (case k1 => k_asm); (case k2 => k_asm); (case k3 => k_asm); (case k4 => k_asm); (case k5 => k_asm); (case k6 => first | assumption | exact rfl); (case k7 => first | assumption | exact rfl); (case k8 => k_asm); (case k9 => k_asm); (case ka => rfl); (case kb => rfl); (case kc => exact Nat.le_of_ble_eq_true rfl); (case e0 => walk_at "MY mem"); (case e1 => walk_at "MY mem"); (case e2 => walk_at "MY mem"); (case e3 => assumption); (case e4 => assumption); k_whole; intro v9 nw9 h9 tk9 hr9 F9 N9; (obtain ⟨e9, e8⟩ := hr9; subst e8; replace N9 := led_less N9 e9; clear e9); revert nw9 h9 tk9 F9 N9; intros; (try dsimp only); (try k_fold))) | (k_here; (with_reducible show wpAny _ _ (getMethod (Value.ref _) (PySem.Str.ofString "append") _) _ _ _); k_dflt (refine' listMethod_K ?N ?m PySem.F.slot_list_append PySem.F.type_list_append ?_; (case N => k_asm); (case m => walk_at "MY mem"))) | (k_here; (with_reducible show wpAny _ _ (subscriptTail _ _ (Value.ref _) (Value.int 1 _)) _ _ _); (refine tup_at (i := 1) (s := ⟨_, _, _, _, _⟩) (by k_asm) (by walk_at "MY mem") (by decide) (by exact rfl) ?_)) | (k_here; (with_reducible show wpAny _ _ (subscriptTail _ _ (Value.ref _) (Value.int 0 _)) _ _ _); (refine tup_at (i := 0) (s := ⟨_, _, _, _, _⟩) (by k_asm) (by walk_at "MY mem") (by decide) (by exact rfl) ?_)) | (k_here; (with_reducible show wpAny _ _ (subscriptTail _ _ (Value.ref _) (Value.int 0 _)) _ _ _); (refine item_first (s := ⟨_, _, _, _, _⟩) (by k_asm) (by walk_at "MY mem") (by assumption) ?_); intro _) | ((with_reducible show wpAny _ _ (exec (Stmt.While _ _ _ _) _) _ _ _); k_here; k_dflt (refine' while_at ?k1 ?_; (case k1 => k_asm))) | (k_here; (with_reducible show wpAny _ _ (storeName (envOfC _ _ _ _ _) _ _) _ _ _); k_dflt (refine' cell_f ?k1 ?k2 ?k3 ?k4 ?k5 ?_ ?k6 ?k7; (case k1 => k_asm); (case k2 => k_asm); (case k6 => rfl); (case k7 => rfl); (case k3 => rfl); (case k4 => walk_at "MY mem"); (case k5 => assumption)); intro _ _ _ _ _) | (k_here; (with_reducible show wpAny _ _ (eval (Expr.List [] _) _) _ _ _); k_dflt (refine' list_nil ?k2 ?k3 ?_; (case k2 => k_asm); (case k3 => k_asm)); intro _ _ _ _ _; (try k_sweep)) | (k_here; (with_reducible show wpAny _ _ (subscriptTail _ _ (Value.ref _) (Value.int 4 _)) _ _ _); (refine tup_at (i := 4) (s := ⟨_, _, _, _, _⟩) (by k_asm) (by walk_at "MY mem") (by decide) (by exact rfl) ?_)) | (k_here; (with_reducible show wpAny _ _ (subscriptTail _ _ (Value.ref _) (Value.int 3 _)) _ _ _); (refine tup_at (i := 3) (s := ⟨_, _, _, _, _⟩) (by k_asm) (by walk_at "MY mem") (by decide) (by exact rfl) ?_)) | ((with_reducible show wpAny _ _ (call _ _) _ _ _); k_here; (try dsimp only); (with_reducible show wpAny _ _ (call (Value.ref 202) _) _ _ _); k_dflt (refine' Spec.callB (span_spec _ _ _ _ _ _ _ _ ?e0 ?e1 ?e2) ?k1 ?k2 ?k3 ?k4 ?k5 ?k6 ?k7 ?k8 ?k9 ?ka ?kb ?kc ?_; (case k1 => k_asm); (case k2 => k_asm); (case k3 => k_asm); (case k4 => k_asm); (case k5 => k_asm); (case k6 => first | assumption | exact rfl); (case k7 => first | assumption | exact rfl); (case k8 => k_asm); (case k9 => k_asm); (case ka => rfl); (case kb => rfl); (case kc => exact Nat.le_of_ble_eq_true rfl); (case e0 => assumption); (case e1 => assumption); (case e2 => assumption); k_whole; intro v9 nw9 h9 tk9 hr9 F9 N9; (obtain ⟨e9, T9, u9, u8, e8, hm9, lt9⟩ := hr9; subst e8); revert nw9 h9 tk9 F9 N9 e9 T9 u9 u8 hm9 lt9; intros; (try dsimp only); (try k_fold))) | walk1 | (dsimp only; walk1) | (leave1; try dsimp only) | fail "no step"))
                  rename Fr _ _ _ _ => F14
                  rename News _ _ _ _ => N14
                  rename _ = Data.cell (some (Value.int ((a : Int) + _) _)) => d9
                  rw [show ((a : Int) + 1) = ((a + r.size : Nat) : Int) by rw [hs]; rfl] at d9
                  rename ∀ (p : Addr × Obj), p ∈ _ → p.1 < _ => lt9
                  refine hPP3 _ _ <| WhileStep.intro F14 (led_less N14 (end_sub2 (T := tl) (R := R2) (Nat.ne_of_gt gcP) hB1 htl1 hRcP hB2 htl2 hRfa (Nat.ne_of_gt (lt9 _ (.head _))) (Nat.ne_of_gt (lt9 _ (.tail _ (.head _)))))) (Nat.lt_succ_self f)
                    ⟨a + r.size, _, fvals ++ [_], fn + 1, _ :: tl, x2, _, _, _, _, acc ++ [(a, i)], rfl, rfl, d9, had2, PairsIn.snoc (q := (a, i)) ⟨_, ta, tt, rfl, .head _⟩ (PairsIn.mono (fun p hp => .tail _ hp) hacc), (by rw [List.append_assoc]; exact hf), (by first | exact far1 hn (by assumption) | omega), (by rw [List.length_append, List.length_singleton]; first | exact Nat.add_le_add hvl (by assumption) | omega), (fun x hx => Nat.le_trans (hlen2 x hx) (by first | exact Nat.add_le_add_left (by assumption) _ | omega)), fun p hp => ?_⟩
                  rcases List.mem_cons.mp hp with rfl | hp
                  · exact lt9 _ (.head _)
                  · exact htl p hp
                · have hpos := hpos hnc
                  (repeat' (first | (k_unfold; (try dsimp only)) | (k_end; wrow_close) | ((with_reducible show wpAny _ _ (call (Value.builtin _) _) _ _ _); k_here; k_dflt (refine' app_f ?k1 ?k2 ?k3 ?k4 ?_; (case k1 => k_asm); (case k2 => k_asm); (case k3 => walk_at "MY mem"); (case k4 => first | assumption | omega)); intro _ _ _) | (k_here; (with_reducible show wpAny _ _ (subscriptTail _ _ (Value.ref _) (Value.int (Nat.cast _) _)) _ _ _); (refine item_at (s := ⟨_, _, _, _, _⟩) (by k_asm) (by walk_at "MY mem") (by first | assumption | omega) (by assumption) ?_)) | ((with_reducible show wpAny _ _ (call _ _) _ _ _); k_here; (try dsimp only); (with_reducible show wpAny _ _ (call (Value.ref 209) _) _ _ _); k_dflt (refine' Spec.callB (is_hit_at _ _ _ _ _ _ _ _ _ _ _ _ _ _ _ _ _ _ _ ?e0 ?e1 ?e2 ?e3 ?e4) ?k1 ?k2 ?k3 ?k4 ?k5 ?k6 ?k7 ?k8 ?k9 ?ka ?kb ?kc ?_; (case k1 => k_asm); (case k2 => k_asm); (case k3 => k_asm); (case k4 => k_asm); (case k5 => k_asm); (case k6 => first | assumption | exact rfl); (case k7 => first | assumption | exact rfl); (case k8 => k_asm); (case k9 => k_asm); (case ka => rfl); (case kb => rfl); (case kc => exact Nat.le_of_ble_eq_true rfl); (case e0 => walk_at "MY mem"); (case e1 => walk_at "MY mem"); (case e2 => walk_at "MY mem"); (case e3 => assumption); (case e4 => assumption); k_whole; intro v9 nw9 h9 tk9 hr9 F9 N9; (obtain ⟨e9, e8⟩ := hr9; subst e8; replace N9 := led_less N9 e9; clear e9); revert nw9 h9 tk9 F9 N9; intros; (try dsimp only); (try k_fold))) | (k_here; (with_reducible show wpAny _ _ (getMethod (Value.ref _) (PySem.Str.ofString "append") _) _ _ _); k_dflt (refine' listMethod_K ?N ?m PySem.F.slot_list_append PySem.F.type_list_append ?_; (case N => k_asm); (case m => walk_at "MY mem"))) | (k_here; (with_reducible show wpAny _ _ (subscriptTail _ _ (Value.ref _) (Value.int 1 _)) _ _ _); (refine tup_at (i := 1) (s := ⟨_, _, _, _, _⟩) (by k_asm) (by walk_at "MY mem") (by decide) (by exact rfl) ?_)) | (k_here; (with_reducible show wpAny _ _ (subscriptTail _ _ (Value.ref _) (Value.int 0 _)) _ _ _); (refine tup_at (i := 0) (s := ⟨_, _, _, _, _⟩) (by k_asm) (by walk_at "MY mem") (by decide) (by exact rfl) ?_)) | (k_here; (with_reducible show wpAny _ _ (subscriptTail _ _ (Value.ref _) (Value.int 0 _)) _ _ _); (refine item_first (s := ⟨_, _, _, _, _⟩) (by k_asm) (by walk_at "MY mem") (by assumption) ?_); intro _) | ((with_reducible show wpAny _ _ (exec (Stmt.While _ _ _ _) _) _ _ _); k_here; k_dflt (refine' while_at ?k1 ?_; (case k1 => k_asm))) | (k_here; (with_reducible show wpAny _ _ (storeName (envOfC _ _ _ _ _) _ _) _ _ _); k_dflt (refine' cell_f ?k1 ?k2 ?k3 ?k4 ?k5 ?_ ?k6 ?k7; (case k1 => k_asm); (case k2 => k_asm); (case k6 => rfl); (case k7 => rfl); (case k3 => rfl); (case k4 => walk_at "MY mem"); (case k5 => assumption)); intro _ _ _ _ _) | (k_here; (with_reducible show wpAny _ _ (eval (Expr.List [] _) _) _ _ _); k_dflt (refine' list_nil ?k2 ?k3 ?_; (case k2 => k_asm); (case k3 => k_asm)); intro _ _ _ _ _; (try k_sweep)) | (k_here; (with_reducible show wpAny _ _ (subscriptTail _ _ (Value.ref _) (Value.int 4 _)) _ _ _); (refine tup_at (i := 4) (s := ⟨_, _, _, _, _⟩) (by k_asm) (by walk_at "MY mem") (by decide) (by exact rfl) ?_)) | (k_here; (with_reducible show wpAny _ _ (subscriptTail _ _ (Value.ref _) (Value.int 3 _)) _ _ _); (refine tup_at (i := 3) (s := ⟨_, _, _, _, _⟩) (by k_asm) (by walk_at "MY mem") (by decide) (by exact rfl) ?_)) | ((with_reducible show wpAny _ _ (call _ _) _ _ _); k_here; (try dsimp only); (with_reducible show wpAny _ _ (call (Value.ref 202) _) _ _ _); k_dflt (refine' Spec.callB (span_spec _ _ _ _ _ _ _ _ ?e0 ?e1 ?e2) ?k1 ?k2 ?k3 ?k4 ?k5 ?k6 ?k7 ?k8 ?k9 ?ka ?kb ?kc ?_; (case k1 => k_asm); (case k2 => k_asm); (case k3 => k_asm); (case k4 => k_asm); (case k5 => k_asm); (case k6 => first | assumption | exact rfl); (case k7 => first | assumption | exact rfl); (case k8 => k_asm); (case k9 => k_asm); (case ka => rfl); (case kb => rfl); (case kc => exact Nat.le_of_ble_eq_true rfl); (case e0 => assumption); (case e1 => assumption); (case e2 => assumption); k_whole; intro v9 nw9 h9 tk9 hr9 F9 N9; (obtain ⟨e9, T9, u9, u8, e8, hm9, lt9⟩ := hr9; subst e8); revert nw9 h9 tk9 F9 N9 e9 T9 u9 u8 hm9 lt9; intros; (try dsimp only); (try k_fold))) | walk1 | (dsimp only; walk1) | (leave1; try dsimp only) | fail "no step"))
                  rename Fr _ _ _ _ => F14
                  rename News _ _ _ _ => N14
                  rename _ = Data.cell (some (Value.int ((a : Int) + _) _)) => d9
                  rw [← Int.natCast_add, ← hs] at d9
                  rename ∀ (p : Addr × Obj), p ∈ _ → p.1 < _ => lt9
                  refine hPP3 _ _ <| WhileStep.intro F14 (led_less N14 (end_sub2 (T := tl) (R := R2) (Nat.ne_of_gt gcP) hB1 htl1 hRcP hB2 htl2 hRfa (Nat.ne_of_gt (lt9 _ (.head _))) (Nat.ne_of_gt (lt9 _ (.tail _ (.head _)))))) (Nat.lt_succ_self f)
                    ⟨a + r.size, _, fvals ++ [_], fn + 1, _ :: tl, x2, _, _, _, _, acc ++ [(a, i)], rfl, rfl, d9, had2, PairsIn.snoc (q := (a, i)) ⟨_, ta, tt, rfl, .head _⟩ (PairsIn.mono (fun p hp => .tail _ hp) hacc), (by rw [List.append_assoc]; exact hf), (by first | exact far1 hn (by assumption) | omega), (by rw [List.length_append, List.length_singleton]; first | exact Nat.add_le_add hvl (by assumption) | omega), (fun x hx => Nat.le_trans (hlen2 x hx) (by first | exact Nat.add_le_add_left (by assumption) _ | omega)), fun p hp => ?_⟩
                  rcases List.mem_cons.mp hp with rfl | hp
                  · exact lt9 _ (.head _)
                  · exact htl p hp
        · refine hPN3 _ ?_
          (repeat' (first | (k_unfold; (try dsimp only)) | (k_end; wrow_close) | ((with_reducible show wpAny _ _ (call (Value.builtin _) _) _ _ _); k_here; k_dflt (refine' app_f ?k1 ?k2 ?k3 ?k4 ?_; (case k1 => k_asm); (case k2 => k_asm); (case k3 => walk_at "MY mem"); (case k4 => first | assumption | omega)); intro _ _ _) | (k_here; (with_reducible show wpAny _ _ (subscriptTail _ _ (Value.ref _) (Value.int (Nat.cast _) _)) _ _ _); (refine item_at (s := ⟨_, _, _, _, _⟩) (by k_asm) (by walk_at "MY mem") (by first | assumption | omega) (by assumption) ?_)) | ((with_reducible show wpAny _ _ (call _ _) _ _ _); k_here; (try dsimp only); (with_reducible show wpAny _ _ (call (Value.ref 209) _) _ _ _); k_dflt (refine' Spec.callB (is_hit_at _ _ _ _ _ _ _ _ _ _ _ _ _ _ _ _ _ _ _ ?e0 ?e1 ?e2 ?e3 ?e4) ?k1 ?k2 ?k3 ?k4 ?k5 ?k6 ?k7 ?k8 ?k9 ?ka ?kb ?kc ?_; (case k1 => k_asm); (case k2 => k_asm); (case k3 => k_asm); (case k4 => k_asm); (case k5 => k_asm); (case k6 => first | assumption | exact rfl); (case k7 => first | assumption | exact rfl); (case k8 => k_asm); (case k9 => k_asm); (case ka => rfl); (case kb => rfl); (case kc => exact Nat.le_of_ble_eq_true rfl); (case e0 => walk_at "MY mem"); (case e1 => walk_at "MY mem"); (case e2 => walk_at "MY mem"); (case e3 => assumption); (case e4 => assumption); k_whole; intro v9 nw9 h9 tk9 hr9 F9 N9; (obtain ⟨e9, e8⟩ := hr9; subst e8; replace N9 := led_less N9 e9; clear e9); revert nw9 h9 tk9 F9 N9; intros; (try dsimp only); (try k_fold))) | (k_here; (with_reducible show wpAny _ _ (getMethod (Value.ref _) (PySem.Str.ofString "append") _) _ _ _); k_dflt (refine' listMethod_K ?N ?m PySem.F.slot_list_append PySem.F.type_list_append ?_; (case N => k_asm); (case m => walk_at "MY mem"))) | (k_here; (with_reducible show wpAny _ _ (subscriptTail _ _ (Value.ref _) (Value.int 1 _)) _ _ _); (refine tup_at (i := 1) (s := ⟨_, _, _, _, _⟩) (by k_asm) (by walk_at "MY mem") (by decide) (by exact rfl) ?_)) | (k_here; (with_reducible show wpAny _ _ (subscriptTail _ _ (Value.ref _) (Value.int 0 _)) _ _ _); (refine tup_at (i := 0) (s := ⟨_, _, _, _, _⟩) (by k_asm) (by walk_at "MY mem") (by decide) (by exact rfl) ?_)) | (k_here; (with_reducible show wpAny _ _ (subscriptTail _ _ (Value.ref _) (Value.int 0 _)) _ _ _); (refine item_first (s := ⟨_, _, _, _, _⟩) (by k_asm) (by walk_at "MY mem") (by assumption) ?_); intro _) | ((with_reducible show wpAny _ _ (exec (Stmt.While _ _ _ _) _) _ _ _); k_here; k_dflt (refine' while_at ?k1 ?_; (case k1 => k_asm))) | (k_here; (with_reducible show wpAny _ _ (storeName (envOfC _ _ _ _ _) _ _) _ _ _); k_dflt (refine' cell_f ?k1 ?k2 ?k3 ?k4 ?k5 ?_ ?k6 ?k7; (case k1 => k_asm); (case k2 => k_asm); (case k6 => rfl); (case k7 => rfl); (case k3 => rfl); (case k4 => walk_at "MY mem"); (case k5 => assumption)); intro _ _ _ _ _) | (k_here; (with_reducible show wpAny _ _ (eval (Expr.List [] _) _) _ _ _); k_dflt (refine' list_nil ?k2 ?k3 ?_; (case k2 => k_asm); (case k3 => k_asm)); intro _ _ _ _ _; (try k_sweep)) | (k_here; (with_reducible show wpAny _ _ (subscriptTail _ _ (Value.ref _) (Value.int 4 _)) _ _ _); (refine tup_at (i := 4) (s := ⟨_, _, _, _, _⟩) (by k_asm) (by walk_at "MY mem") (by decide) (by exact rfl) ?_)) | (k_here; (with_reducible show wpAny _ _ (subscriptTail _ _ (Value.ref _) (Value.int 3 _)) _ _ _); (refine tup_at (i := 3) (s := ⟨_, _, _, _, _⟩) (by k_asm) (by walk_at "MY mem") (by decide) (by exact rfl) ?_)) | ((with_reducible show wpAny _ _ (call _ _) _ _ _); k_here; (try dsimp only); (with_reducible show wpAny _ _ (call (Value.ref 202) _) _ _ _); k_dflt (refine' Spec.callB (span_spec _ _ _ _ _ _ _ _ ?e0 ?e1 ?e2) ?k1 ?k2 ?k3 ?k4 ?k5 ?k6 ?k7 ?k8 ?k9 ?ka ?kb ?kc ?_; (case k1 => k_asm); (case k2 => k_asm); (case k3 => k_asm); (case k4 => k_asm); (case k5 => k_asm); (case k6 => first | assumption | exact rfl); (case k7 => first | assumption | exact rfl); (case k8 => k_asm); (case k9 => k_asm); (case ka => rfl); (case kb => rfl); (case kc => exact Nat.le_of_ble_eq_true rfl); (case e0 => assumption); (case e1 => assumption); (case e2 => assumption); k_whole; intro v9 nw9 h9 tk9 hr9 F9 N9; (obtain ⟨e9, T9, u9, u8, e8, hm9, lt9⟩ := hr9; subst e8); revert nw9 h9 tk9 F9 N9 e9 T9 u9 u8 hm9 lt9; intros; (try dsimp only); (try k_fold))) | walk1 | (dsimp only; walk1) | (leave1; try dsimp only) | fail "no step"))
          rename Fr h₀ L _ _ => F7
          rename News h₀ L _ _ => N8
          rw [walkF_stop (by omega), List.append_nil] at hf
          rw [hf] at hacc
          exact hret _ ((fa, listOf fvals.toArray fn) :: (L1 + 1 + 1 + 1 + 1 + 1, oP') :: (ledB xs' ++ (tl ++ R2))) _ _ ⟨fun p hp => .tail _ (.tail _ (List.mem_append_right _ (List.mem_append_right _ (hR2n p hp)))), fa, fn, fvals, rfl, .head _, fun p hp => ltfa _ (.tail _ (List.mem_append_right _ (hR01 _ (hnw _ hp)))), PairsIn.mono (fun p hp => .tail _ (.tail _ (List.mem_append_right _ (List.mem_append_left _ hp)))) hacc⟩ F7 N8
end
section
theorem PairsIn.at {news : Led} {vs : List Value} {qs : List (Nat × Nat)} {i : Nat} {v : Value} (h : PairsIn news vs qs) (hv : vs[i]? = some v) : ∃ q, qs[i]? = some q ∧ PairIn news v q := PairsIn.get h hv
theorem walkF_len (o : List UInt8) (rows : List Row) : ∀ (n a : Nat) (sts : List (List Bool)), (walkF o rows n a sts).length ≤ n
  | 0, _, _ => Nat.le_refl _
  | n + 1, a, sts => by
    rw [walkF]
    split
    · split
      · exact Nat.le_succ_of_le (walkF_len o rows n _ _)
      · rw [List.length_cons]; exact Nat.succ_le_succ (walkF_len o rows n _ _)
    · exact Nat.zero_le _
theorem flt_pos {l : List Nat} {j i q : Nat} (h : l[j]? = some q) (hq : q = i) : nums ((l.take (j + 1)).filter (· == i)) = nums ((l.take j).filter (· == i)) ++ [(q : Int)] := by
  subst hq
  rw [take_snoc h, List.filter_append]
  unfold nums
  rw [List.map_append]
  simp
theorem flt_neg {l : List Nat} {j i q : Nat} (h : l[j]? = some q) (hq : ¬ q = i) : (l.take (j + 1)).filter (· == i) = (l.take j).filter (· == i) := by
  rw [take_snoc h, List.filter_append]
  simp [hq]
theorem nums_get {l : List Nat} {j : Nat} {z : Int} (h : (nums l)[j]? = some z) : ∃ q : Nat, l[j]? = some q ∧ z = (q : Int) := by
  unfold nums at h
  rw [List.getElem?_map] at h
  cases e : l[j]? with
  | none => rw [e] at h; cases h
  | some q => rw [e] at h; exact ⟨q, rfl, (Option.some.inj h).symm⟩
theorem counts_eq (n : Nat) (qs : List (Nat × Nat)) : countsOf n qs = (List.range n).map fun j => ((qs.map (·.2)).filter (· == j)).length := by
  unfold countsOf
  refine List.map_congr_left fun j _ => ?_
  rw [List.filter_map, List.length_map]
  rfl
theorem nums_snoc {l : List Nat} {i x : Nat} (h : l[i]? = some x) : nums (l.take (i + 1)) = nums (l.take i) ++ [(x : Int)] := by
  rw [take_snoc h]
  unfold nums
  rw [List.map_append]
  rfl
set_option maxRecDepth 100000 in
set_option maxHeartbeats 2000000 in
theorem law_counts_spec (w : World) (o : List UInt8) (rows : List Row) (to : Tok) (rl : Addr) (rn : Nat) (vals : List Value) (news : Led) (ho : o.length ≤ 1000) (hrl : rows.length ≤ 100) (hok : ∀ r ∈ rows, r.ok) (hm : (rl, listOf vals.toArray rn) ∈ news) (hv : AllIn (XRow news) vals rows) :
    Spec w 30 219 [.bytes o.toArray to, .ref rl] news (fun v news' => (∀ p ∈ news, p ∈ news') ∧ ∃ c cn cv, v = .ref c ∧ (c, listOf cv.toArray cn) ∈ news' ∧ AllIn IntV cv (countsOf rows.length (walkP o rows))) := by
  unfold Spec
  intro dp un gd env outer A₀ mean mg mb base h₀ L m s Q E B F X N T hf hk hdp hun hret
  ((have fill : (∀ w : World, (Mine.hdHeap w.params) = (Mine.hdHeap w.params)) ∧ PySem.Challenge.rw_og0077_01.Holds → True := by ((first | k_fill | skip); exact fun _ => trivial)); clear fill)
  have hE : Enter [(Str.ofString "octets", .bytes o.toArray to), (Str.ofString "rows", .ref rl)] (fun y => if y = Str.ofString "rows" then some (.ref rl) else if y = Str.ofString "octets" then some (.bytes o.toArray to) else none) := ⟨⟩
  (k_dflt (refine' enter_cellsN (by assumption) ?k1 ?k2 ?k3 ?k4 ?k5 ?kF ?kK ?k6 ?k7 ?k8 ?k9 ?kB ?kD ?km ?_ ?c2 ?c3 ?c4; (case kF => assumption); (case kK => assumption); (case k1 => k_asm); (case k2 => k_asm); (case k3 => k_asm); (case k4 => k_asm); (case k5 => k_asm); (case k6 => k_is); (case k7 => k_is); (case k8 => ktr_room); (case k9 => exact BindsTo.of_eq rfl); (case kB => exact rfl); (case kD => decide +kernel); (case km => intro _; exact rfl); (case c2 => exact rfl); (case c3 => exact rfl); (case c4 => exact rfl); k_whole; intro _ _ _ _ _ _ _ N' Y' _ _ _ _; k_cells Y'; (try simp only [List.cons_append, List.nil_append] at N'); (try dsimp only); (try k_fold)))
  rename Fr _ _ _ _ => F1
  rename News _ _ _ _ => N1
  rename_i g1 L1 h1 tk1 FG1 B1 X1 T1 lt1 oT dT
  replace dT : oT.data = .cell none := dT
  have hv1 : AllIn (XRow ((L1 + 1, oT) :: news)) vals rows := hv.mono fun v x h => h.mono fun p hp => .tail _ hp
  (repeat' (first | (k_unfold; (try dsimp only)) | (k_end; wrow_close) | ((with_reducible show wpAny _ _ (exec (Stmt.Assign _ (Expr.ListComp _ _ _ _) _) _) _ _ _); k_here; k_dflt (refine wpAny_Assign_Name ?_ (by rfl))) | ((with_reducible show wpAny _ _ (eval (Expr.ListComp _ _ _ _) _) _ _ _); k_here; k_dflt (refine comp_eval (by k_asm) (by with_unfolding_all rfl) (by decide) (by rfl) (by decide) ?_)) | ((with_reducible show wpAny _ _ (eval (Expr.ListComp _ _ _ _) _) _ _ _); k_here; k_dflt (refine comp_evalK (by k_asm) (by with_unfolding_all rfl) (fun _ => rfl) (fun _ => rfl) (by rfl) (by rfl) (fun _ _ => rfl) (by decide) ?_)) | (k_here; (with_reducible show wpAny _ _ (storeName (envOfC _ _ _ _ _) _ _) _ _ _); k_dflt (refine' cell_f ?k1 ?k2 ?k3 ?k4 ?k5 ?_ ?k6 ?k7; (case k1 => k_asm); (case k2 => k_asm); (case k6 => rfl); (case k7 => rfl); (case k3 => rfl); (case k4 => walk_at "MY mem"); (case k5 => assumption)); intro _ _ _ _ _) | ((with_reducible show wpAny _ _ (call _ _) _ _ _); k_here; (try dsimp only); (with_reducible show wpAny _ _ (call (Value.ref 214) _) _ _ _); k_dflt (refine' Spec.callB (walk_spec _ _ _ _ _ _ _ _ ?e0 ?e1 ?e2 ?e3 ?e4) ?k1 ?k2 ?k3 ?k4 ?k5 ?k6 ?k7 ?k8 ?k9 ?ka ?kb ?kc ?_; (case k1 => k_asm); (case k2 => k_asm); (case k3 => k_asm); (case k4 => k_asm); (case k5 => k_asm); (case k6 => first | assumption | exact rfl); (case k7 => first | assumption | exact rfl); (case k8 => k_asm); (case k9 => k_asm); (case ka => rfl); (case kb => rfl); (case kc => exact Nat.le_of_ble_eq_true rfl); (case e0 => assumption); (case e1 => assumption); (case e2 => assumption); (case e3 => walk_at "MY mem"); (case e4 => assumption); k_whole; intro v9 nw9 h9 tk9 hr9 F9 N9; (obtain ⟨e9, fa9, fn9, fvals9, e8, hfa9, hlt9, hp9⟩ := hr9; subst e8); revert nw9 h9 tk9 F9 N9 e9 fa9 fn9 fvals9 hfa9 hlt9 hp9; intros; (try dsimp only); (try k_fold))) | walk1 | (dsimp only; walk1) | (leave1; try dsimp only) | fail "no step"))
  rename Fr _ _ _ _ => F2
  rename News _ _ _ _ => N2
  rename_i nw2 h2 tk2 e2 fa fn fvals hfa hlt2 hp2
  have hpl := hp2.length
  have hcell : (L1 + 1, oT) ∈ nw2 := e2 _ (.head _)
  have hrl2 : (rl, listOf vals.toArray rn) ∈ nw2 := e2 _ (.tail _ hm)
  have hbnd : (walkP o rows).length ≤ 1001 := Nat.le_trans (walkF_len o rows _ _ _) (by omega)
  have hvlen := hv.1
  obtain ⟨tks, htks⟩ : ∃ l, l = (walkP o rows).map (·.2) := ⟨_, rfl⟩
  have htl : tks.length = fvals.length := by rw [htks, List.length_map, hpl]
  refine ⟨fvals.length, fun i v => fvals[i]? = some v, nw2, nw2, fun i ys nw => nw = nw2 ∧ IntsAre ys (nums (tks.take i)), fun i v m => ∃ q t, tks[i]? = some q ∧ m (Str.ofString "taker") = some (.int ((q : Nat) : Int) t), Src.list rfl N2 hfa, F2, N2, fun s₂ => ⟨?_, ?_, ?_, ?_, ?_⟩, ?_⟩
  · rintro i ys nw ⟨rfl, _⟩ p hp
    exact hp
  · exact ⟨rfl, IntsAre.nil⟩
  · rw [hpl]; exact Nat.le_trans hbnd (Nat.le_of_ble_eq_true rfl)
  · intro i v C s' m' Q' E' hi hP hn hkeep h
    obtain ⟨q, hq, T9, u1, u2, rfl, hT9⟩ := hp2.at hP
    refine binds_tuple [(_, _), (_, _)] rfl (by decide) rfl T9 _ C s' m' Q' E' ⟨_, hkeep _ hT9, rfl, _, rfl⟩ rfl hn (fun _ => rfl) (fun _ => rfl) fun h'' tk'' hn'' hk'' => ?_
    exact h h'' tk'' _ hn'' ⟨q.2, u2, by rw [htks, List.getElem?_map, hq]; rfl, rfl⟩ hk''
  · rintro i v ys nw I oI C oC D m₂ h tk E' hi hP ⟨rfl, hys⟩ hyl hC ⟨q, t9, hq, hb⟩ F3 N3 off ne
    refine opq_test fun PP1 PN1 hPP1 hPN1 => ?_
    refine wpAny_pure ?_
    simp only [if_true]
    (repeat' (first | (k_unfold; (try dsimp only)) | (k_end; wrow_close) | ((with_reducible show wpAny _ _ (exec (Stmt.Assign _ (Expr.ListComp _ _ _ _) _) _) _ _ _); k_here; k_dflt (refine wpAny_Assign_Name ?_ (by rfl))) | ((with_reducible show wpAny _ _ (eval (Expr.ListComp _ _ _ _) _) _ _ _); k_here; k_dflt (refine comp_eval (by k_asm) (by with_unfolding_all rfl) (by decide) (by rfl) (by decide) ?_)) | ((with_reducible show wpAny _ _ (eval (Expr.ListComp _ _ _ _) _) _ _ _); k_here; k_dflt (refine comp_evalK (by k_asm) (by with_unfolding_all rfl) (fun _ => rfl) (fun _ => rfl) (by rfl) (by rfl) (fun _ _ => rfl) (by decide) ?_)) | (k_here; (with_reducible show wpAny _ _ (storeName (envOfC _ _ _ _ _) _ _) _ _ _); k_dflt (refine' cell_f ?k1 ?k2 ?k3 ?k4 ?k5 ?_ ?k6 ?k7; (case k1 => k_asm); (case k2 => k_asm); (case k6 => rfl); (case k7 => rfl); (case k3 => rfl); (case k4 => walk_at "MY mem"); (case k5 => assumption)); intro _ _ _ _ _) | ((with_reducible show wpAny _ _ (call _ _) _ _ _); k_here; (try dsimp only); (with_reducible show wpAny _ _ (call (Value.ref 214) _) _ _ _); k_dflt (refine' Spec.callB (walk_spec _ _ _ _ _ _ _ _ ?e0 ?e1 ?e2 ?e3 ?e4) ?k1 ?k2 ?k3 ?k4 ?k5 ?k6 ?k7 ?k8 ?k9 ?ka ?kb ?kc ?_; (case k1 => k_asm); (case k2 => k_asm); (case k3 => k_asm); (case k4 => k_asm); (case k5 => k_asm); (case k6 => first | assumption | exact rfl); (case k7 => first | assumption | exact rfl); (case k8 => k_asm); (case k9 => k_asm); (case ka => rfl); (case kb => rfl); (case kc => exact Nat.le_of_ble_eq_true rfl); (case e0 => assumption); (case e1 => assumption); (case e2 => assumption); (case e3 => walk_at "MY mem"); (case e4 => assumption); k_whole; intro v9 nw9 h9 tk9 hr9 F9 N9; (obtain ⟨e9, fa9, fn9, fvals9, e8, hfa9, hlt9, hp9⟩ := hr9; subst e8); revert nw9 h9 tk9 F9 N9 e9 fa9 fn9 fvals9 hfa9 hlt9 hp9; intros; (try dsimp only); (try k_fold))) | walk1 | (dsimp only; walk1) | (leave1; try dsimp only) | fail "no step"))
    rename Fr _ _ _ _ => F9
    rename News _ _ _ _ => N9
    refine hPP1 _ _ <| CEnd.intro nw F9 N9 (fun p hp => hp) off ⟨rfl, ?_⟩
    rw [nums_snoc hq]
    exact IntsAre.append hys (IntsAre.cons _ _ IntsAre.nil)
  · rintro D h tk ys nw ⟨rfl, hys⟩ F3 N3 offD ltD
    rw [← htl, List.take_length] at hys
    have N4 : News g1 L1 h ((D, listOf ys.toArray ys.length) :: nw) := N3
    clear N3
    have hyz : ys.length ≤ 1001 := by
      have := hys.length
      unfold nums at this
      rw [List.length_map] at this
      omega
    have hDc : D ≠ L1 + 1 := Ne.symm (offD _ hcell)
    have hrc : rl ≠ L1 + 1 := Nat.ne_of_lt (Nat.lt_succ_of_lt (lt1 _ hm))
    (repeat' (first | (k_unfold; (try dsimp only)) | (k_end; wrow_close) | ((with_reducible show wpAny _ _ (exec (Stmt.Assign _ (Expr.ListComp _ _ _ _) _) _) _ _ _); k_here; k_dflt (refine wpAny_Assign_Name ?_ (by rfl))) | ((with_reducible show wpAny _ _ (eval (Expr.ListComp _ _ _ _) _) _ _ _); k_here; k_dflt (refine comp_eval (by k_asm) (by with_unfolding_all rfl) (by decide) (by rfl) (by decide) ?_)) | ((with_reducible show wpAny _ _ (eval (Expr.ListComp _ _ _ _) _) _ _ _); k_here; k_dflt (refine comp_evalK (by k_asm) (by with_unfolding_all rfl) (fun _ => rfl) (fun _ => rfl) (by rfl) (by rfl) (fun _ _ => rfl) (by decide) ?_)) | (k_here; (with_reducible show wpAny _ _ (storeName (envOfC _ _ _ _ _) _ _) _ _ _); k_dflt (refine' cell_f ?k1 ?k2 ?k3 ?k4 ?k5 ?_ ?k6 ?k7; (case k1 => k_asm); (case k2 => k_asm); (case k6 => rfl); (case k7 => rfl); (case k3 => rfl); (case k4 => walk_at "MY mem"); (case k5 => assumption)); intro _ _ _ _ _) | ((with_reducible show wpAny _ _ (call _ _) _ _ _); k_here; (try dsimp only); (with_reducible show wpAny _ _ (call (Value.ref 214) _) _ _ _); k_dflt (refine' Spec.callB (walk_spec _ _ _ _ _ _ _ _ ?e0 ?e1 ?e2 ?e3 ?e4) ?k1 ?k2 ?k3 ?k4 ?k5 ?k6 ?k7 ?k8 ?k9 ?ka ?kb ?kc ?_; (case k1 => k_asm); (case k2 => k_asm); (case k3 => k_asm); (case k4 => k_asm); (case k5 => k_asm); (case k6 => first | assumption | exact rfl); (case k7 => first | assumption | exact rfl); (case k8 => k_asm); (case k9 => k_asm); (case ka => rfl); (case kb => rfl); (case kc => exact Nat.le_of_ble_eq_true rfl); (case e0 => assumption); (case e1 => assumption); (case e2 => assumption); (case e3 => walk_at "MY mem"); (case e4 => assumption); k_whole; intro v9 nw9 h9 tk9 hr9 F9 N9; (obtain ⟨e9, fa9, fn9, fvals9, e8, hfa9, hlt9, hp9⟩ := hr9; subst e8); revert nw9 h9 tk9 F9 N9 e9 fa9 fn9 fvals9 hfa9 hlt9 hp9; intros; (try dsimp only); (try k_fold))) | walk1 | (dsimp only; walk1) | (leave1; try dsimp only) | fail "no step"))
    rename Fr _ _ _ _ => F5
    rename News _ _ _ _ => N5
    rename_i h5 o5 F4' N4' d5 h6 tk6 u1 u2 u3 hrng hext
    obtain ⟨NW, hNW⟩ : ∃ R : Led, R = (L1 + 1, o5) :: wo (L1 + 1) ((D, listOf ys.toArray ys.length) :: nw) := ⟨_, rfl⟩
    rw [← hNW] at N5
    have hDN : (D, listOf ys.toArray ys.length) ∈ NW := by rw [hNW]; exact .tail _ (mem_wo.mpr ⟨.head _, hDc⟩)
    have hCN : (L1 + 1, o5) ∈ NW := by rw [hNW]; exact .head _
    have hnN : ∀ p ∈ news, p ∈ NW := fun p hp => by
      rw [hNW]
      exact .tail _ (mem_wo.mpr ⟨.tail _ (e2 _ (.tail _ hp)), Nat.ne_of_lt (Nat.lt_succ_of_lt (lt1 _ hp))⟩)
    refine ⟨vals.length, fun i v => ∃ t, v = .int ((i : Nat) : Int) t, [], NW, fun i ys3 nw3 => nw3 = NW ∧ AllIn IntV ys3 ((List.range i).map fun j => (tks.filter (· == j)).length), Src.rangeN rfl hrng (by omega), F5, N5, fun s₂ => ⟨?_, ?_, ?_, ?_⟩, ?_⟩
    · rintro i ys3 nw3 _ p hp
      cases hp
    · exact ⟨rfl, AllIn.nil⟩
    · rw [hvlen]; exact Nat.le_trans hrl (Nat.le_of_ble_eq_true rfl)
    · rintro i v ys3 nw3 I oI C oC D3 K oK h tk E' hi ⟨t, rfl⟩ ⟨rfl, hys3⟩ hyl hK F6 N6 off ne
      refine opq_test fun PP2 PN2 hPP2 hPN2 => ?_
      refine wpAny_pure ?_
      simp only [if_true]
      (repeat' (first | (k_unfold; (try dsimp only)) | (k_end; wrow_close) | ((with_reducible show wpAny _ _ (exec (Stmt.Assign _ (Expr.ListComp _ _ _ _) _) _) _ _ _); k_here; k_dflt (refine wpAny_Assign_Name ?_ (by rfl))) | ((with_reducible show wpAny _ _ (eval (Expr.ListComp _ _ _ _) _) _ _ _); k_here; k_dflt (refine comp_eval (by k_asm) (by with_unfolding_all rfl) (by decide) (by rfl) (by decide) ?_)) | ((with_reducible show wpAny _ _ (eval (Expr.ListComp _ _ _ _) _) _ _ _); k_here; k_dflt (refine comp_evalK (by k_asm) (by with_unfolding_all rfl) (fun _ => rfl) (fun _ => rfl) (by rfl) (by rfl) (fun _ _ => rfl) (by decide) ?_)) | (k_here; (with_reducible show wpAny _ _ (storeName (envOfC _ _ _ _ _) _ _) _ _ _); k_dflt (refine' cell_f ?k1 ?k2 ?k3 ?k4 ?k5 ?_ ?k6 ?k7; (case k1 => k_asm); (case k2 => k_asm); (case k6 => rfl); (case k7 => rfl); (case k3 => rfl); (case k4 => walk_at "MY mem"); (case k5 => assumption)); intro _ _ _ _ _) | ((with_reducible show wpAny _ _ (call _ _) _ _ _); k_here; (try dsimp only); (with_reducible show wpAny _ _ (call (Value.ref 214) _) _ _ _); k_dflt (refine' Spec.callB (walk_spec _ _ _ _ _ _ _ _ ?e0 ?e1 ?e2 ?e3 ?e4) ?k1 ?k2 ?k3 ?k4 ?k5 ?k6 ?k7 ?k8 ?k9 ?ka ?kb ?kc ?_; (case k1 => k_asm); (case k2 => k_asm); (case k3 => k_asm); (case k4 => k_asm); (case k5 => k_asm); (case k6 => first | assumption | exact rfl); (case k7 => first | assumption | exact rfl); (case k8 => k_asm); (case k9 => k_asm); (case ka => rfl); (case kb => rfl); (case kc => exact Nat.le_of_ble_eq_true rfl); (case e0 => assumption); (case e1 => assumption); (case e2 => assumption); (case e3 => walk_at "MY mem"); (case e4 => assumption); k_whole; intro v9 nw9 h9 tk9 hr9 F9 N9; (obtain ⟨e9, fa9, fn9, fvals9, e8, hfa9, hlt9, hp9⟩ := hr9; subst e8); revert nw9 h9 tk9 F9 N9 e9 fa9 fn9 fvals9 hfa9 hlt9 hp9; intros; (try dsimp only); (try k_fold))) | walk1 | (dsimp only; walk1) | (leave1; try dsimp only) | fail "no step"))
      refine ⟨ys.length, fun j v => ys[j]? = some v, _, _, fun j ys4 nw4 => nw4 = (I, oI) :: (C, oC) :: (D3, lst ys3) :: (K, oK) :: nw3 ∧ IntsAre ys4 (nums ((tks.take j).filter (· == i))), fun j v m => m (Str.ofString "one") = some v, Src.list rfl N6 (.tail _ (.tail _ (.tail _ (.tail _ hDN)))), F6, N6, fun s₂ => ⟨?_, ?_, ?_, ?_, ?_⟩, ?_⟩
      · rintro j ys4 nw4 ⟨rfl, _⟩ p hp
        exact hp
      · exact ⟨rfl, IntsAre.nil⟩
      · exact Nat.le_trans hyz (Nat.le_of_ble_eq_true rfl)
      · intro i v C s' m' Q' E' hi hP hn hkeep h
        exact binds_name rfl (by decide) v C s' m' Q' E' hn (fun h'' tk'' m'' hn'' e'' hk'' => h h'' tk'' m'' hn'' e'' hk'')
      · rintro j v ys4 nw4 I4 oI4 C4 oC4 D4 m₄ h4 tk4 E4 hj hP4 ⟨rfl, hys4⟩ hyl4 hC4 hb4 F7 N7 off4 ne4
        refine opq_test fun PP3 PN3 hPP3 hPN3 => ?_
        obtain ⟨z, tz, rfl, hz⟩ := hys.at j v hP4
        obtain ⟨q, hq, rfl⟩ := nums_get hz
        (repeat' (first | (k_unfold; (try dsimp only)) | (k_end; wrow_close) | ((with_reducible show wpAny _ _ (exec (Stmt.Assign _ (Expr.ListComp _ _ _ _) _) _) _ _ _); k_here; k_dflt (refine wpAny_Assign_Name ?_ (by rfl))) | ((with_reducible show wpAny _ _ (eval (Expr.ListComp _ _ _ _) _) _ _ _); k_here; k_dflt (refine comp_eval (by k_asm) (by with_unfolding_all rfl) (by decide) (by rfl) (by decide) ?_)) | ((with_reducible show wpAny _ _ (eval (Expr.ListComp _ _ _ _) _) _ _ _); k_here; k_dflt (refine comp_evalK (by k_asm) (by with_unfolding_all rfl) (fun _ => rfl) (fun _ => rfl) (by rfl) (by rfl) (fun _ _ => rfl) (by decide) ?_)) | (k_here; (with_reducible show wpAny _ _ (storeName (envOfC _ _ _ _ _) _ _) _ _ _); k_dflt (refine' cell_f ?k1 ?k2 ?k3 ?k4 ?k5 ?_ ?k6 ?k7; (case k1 => k_asm); (case k2 => k_asm); (case k6 => rfl); (case k7 => rfl); (case k3 => rfl); (case k4 => walk_at "MY mem"); (case k5 => assumption)); intro _ _ _ _ _) | ((with_reducible show wpAny _ _ (call _ _) _ _ _); k_here; (try dsimp only); (with_reducible show wpAny _ _ (call (Value.ref 214) _) _ _ _); k_dflt (refine' Spec.callB (walk_spec _ _ _ _ _ _ _ _ ?e0 ?e1 ?e2 ?e3 ?e4) ?k1 ?k2 ?k3 ?k4 ?k5 ?k6 ?k7 ?k8 ?k9 ?ka ?kb ?kc ?_; (case k1 => k_asm); (case k2 => k_asm); (case k3 => k_asm); (case k4 => k_asm); (case k5 => k_asm); (case k6 => first | assumption | exact rfl); (case k7 => first | assumption | exact rfl); (case k8 => k_asm); (case k9 => k_asm); (case ka => rfl); (case kb => rfl); (case kc => exact Nat.le_of_ble_eq_true rfl); (case e0 => assumption); (case e1 => assumption); (case e2 => assumption); (case e3 => walk_at "MY mem"); (case e4 => assumption); k_whole; intro v9 nw9 h9 tk9 hr9 F9 N9; (obtain ⟨e9, fa9, fn9, fvals9, e8, hfa9, hlt9, hp9⟩ := hr9; subst e8); revert nw9 h9 tk9 F9 N9 e9 fa9 fn9 fvals9 hfa9 hlt9 hp9; intros; (try dsimp only); (try k_fold))) | walk1 | (dsimp only; walk1) | (leave1; try dsimp only) | fail "no step"))
        all_goals (rename Fr _ _ _ _ => F9; rename News _ _ _ _ => N9)
        · refine hPP3 _ _ <| CEnd.intro _ F9 N9 (fun p hp => hp) off4 ⟨rfl, ?_⟩
          rw [flt_pos hq (by first | omega | (simp_all; done))]
          exact IntsAre.append hys4 (IntsAre.cons _ _ IntsAre.nil)
        · refine hPN3 _ <| CEnd.intro _ F9 N9 (fun p hp => hp) off4 ⟨rfl, ?_⟩
          rw [flt_neg hq (by first | omega | (simp_all; done))]
          exact hys4
      · rintro D4 h4 tk4 ys4 nw4 ⟨rfl, hys4⟩ F7 N7 offD4 ltD4
        have N8 : News g1 L1 h4 ((D4, listOf ys4.toArray ys4.length) :: (I, oI) :: (C, oC) :: (D3, lst ys3) :: (K, oK) :: nw3) := N7
        clear N7
        have htk : tks.take ys.length = tks := by
          refine List.take_of_length_le ?_
          have := hys.length
          unfold nums at this
          rw [List.length_map] at this
          omega
        rw [htk] at hys4
        have hl4 : ys4.length = (tks.filter (· == i)).length := by
          have := hys4.length
          unfold nums at this
          rwa [List.length_map] at this
        have hl5 : ys4.length ≤ 100000 := by
          have := List.length_filter_le (· == i) tks
          omega
        (repeat' (first | (k_unfold; (try dsimp only)) | (k_end; wrow_close) | ((with_reducible show wpAny _ _ (exec (Stmt.Assign _ (Expr.ListComp _ _ _ _) _) _) _ _ _); k_here; k_dflt (refine wpAny_Assign_Name ?_ (by rfl))) | ((with_reducible show wpAny _ _ (eval (Expr.ListComp _ _ _ _) _) _ _ _); k_here; k_dflt (refine comp_eval (by k_asm) (by with_unfolding_all rfl) (by decide) (by rfl) (by decide) ?_)) | ((with_reducible show wpAny _ _ (eval (Expr.ListComp _ _ _ _) _) _ _ _); k_here; k_dflt (refine comp_evalK (by k_asm) (by with_unfolding_all rfl) (fun _ => rfl) (fun _ => rfl) (by rfl) (by rfl) (fun _ _ => rfl) (by decide) ?_)) | (k_here; (with_reducible show wpAny _ _ (storeName (envOfC _ _ _ _ _) _ _) _ _ _); k_dflt (refine' cell_f ?k1 ?k2 ?k3 ?k4 ?k5 ?_ ?k6 ?k7; (case k1 => k_asm); (case k2 => k_asm); (case k6 => rfl); (case k7 => rfl); (case k3 => rfl); (case k4 => walk_at "MY mem"); (case k5 => assumption)); intro _ _ _ _ _) | ((with_reducible show wpAny _ _ (call _ _) _ _ _); k_here; (try dsimp only); (with_reducible show wpAny _ _ (call (Value.ref 214) _) _ _ _); k_dflt (refine' Spec.callB (walk_spec _ _ _ _ _ _ _ _ ?e0 ?e1 ?e2 ?e3 ?e4) ?k1 ?k2 ?k3 ?k4 ?k5 ?k6 ?k7 ?k8 ?k9 ?ka ?kb ?kc ?_; (case k1 => k_asm); (case k2 => k_asm); (case k3 => k_asm); (case k4 => k_asm); (case k5 => k_asm); (case k6 => first | assumption | exact rfl); (case k7 => first | assumption | exact rfl); (case k8 => k_asm); (case k9 => k_asm); (case ka => rfl); (case kb => rfl); (case kc => exact Nat.le_of_ble_eq_true rfl); (case e0 => assumption); (case e1 => assumption); (case e2 => assumption); (case e3 => walk_at "MY mem"); (case e4 => assumption); k_whole; intro v9 nw9 h9 tk9 hr9 F9 N9; (obtain ⟨e9, fa9, fn9, fvals9, e8, hfa9, hlt9, hp9⟩ := hr9; subst e8); revert nw9 h9 tk9 F9 N9 e9 fa9 fn9 fvals9 hfa9 hlt9 hp9; intros; (try dsimp only); (try k_fold))) | walk1 | (dsimp only; walk1) | (leave1; try dsimp only) | fail "no step"))
        rename Fr _ _ _ _ => F9
        rename News _ _ _ _ => N9
        refine hPP2 _ _ <| CEnd.intro ((K, oK) :: nw3) F9 N9 (fun p hp => .tail _ hp) (fun p hp => ?_) ⟨nw3, rfl, fun p hp => (off p hp).2.2.2, rfl, ?_⟩
        · rcases List.mem_cons.mp hp with rfl | hp
          · exact ⟨ne.2.2.2.1, ne.2.2.2.2.1, ne.2.2.2.2.2⟩
          · exact ⟨(off p hp).1, (off p hp).2.1, (off p hp).2.2.1⟩
        · rw [List.range_succ, List.map_append]
          exact hys3.snoc ⟨_, by rw [hl4]⟩
    · rintro D3 h3 tk3 ys3 nw3 ⟨rfl, hys3⟩ F6 N6 offD3 ltD3
      (repeat' (first | (k_unfold; (try dsimp only)) | (k_end; wrow_close) | ((with_reducible show wpAny _ _ (exec (Stmt.Assign _ (Expr.ListComp _ _ _ _) _) _) _ _ _); k_here; k_dflt (refine wpAny_Assign_Name ?_ (by rfl))) | ((with_reducible show wpAny _ _ (eval (Expr.ListComp _ _ _ _) _) _ _ _); k_here; k_dflt (refine comp_eval (by k_asm) (by with_unfolding_all rfl) (by decide) (by rfl) (by decide) ?_)) | ((with_reducible show wpAny _ _ (eval (Expr.ListComp _ _ _ _) _) _ _ _); k_here; k_dflt (refine comp_evalK (by k_asm) (by with_unfolding_all rfl) (fun _ => rfl) (fun _ => rfl) (by rfl) (by rfl) (fun _ _ => rfl) (by decide) ?_)) | (k_here; (with_reducible show wpAny _ _ (storeName (envOfC _ _ _ _ _) _ _) _ _ _); k_dflt (refine' cell_f ?k1 ?k2 ?k3 ?k4 ?k5 ?_ ?k6 ?k7; (case k1 => k_asm); (case k2 => k_asm); (case k6 => rfl); (case k7 => rfl); (case k3 => rfl); (case k4 => walk_at "MY mem"); (case k5 => assumption)); intro _ _ _ _ _) | ((with_reducible show wpAny _ _ (call _ _) _ _ _); k_here; (try dsimp only); (with_reducible show wpAny _ _ (call (Value.ref 214) _) _ _ _); k_dflt (refine' Spec.callB (walk_spec _ _ _ _ _ _ _ _ ?e0 ?e1 ?e2 ?e3 ?e4) ?k1 ?k2 ?k3 ?k4 ?k5 ?k6 ?k7 ?k8 ?k9 ?ka ?kb ?kc ?_; (case k1 => k_asm); (case k2 => k_asm); (case k3 => k_asm); (case k4 => k_asm); (case k5 => k_asm); (case k6 => first | assumption | exact rfl); (case k7 => first | assumption | exact rfl); (case k8 => k_asm); (case k9 => k_asm); (case ka => rfl); (case kb => rfl); (case kc => exact Nat.le_of_ble_eq_true rfl); (case e0 => assumption); (case e1 => assumption); (case e2 => assumption); (case e3 => walk_at "MY mem"); (case e4 => assumption); k_whole; intro v9 nw9 h9 tk9 hr9 F9 N9; (obtain ⟨e9, fa9, fn9, fvals9, e8, hfa9, hlt9, hp9⟩ := hr9; subst e8); revert nw9 h9 tk9 F9 N9 e9 fa9 fn9 fvals9 hfa9 hlt9 hp9; intros; (try dsimp only); (try k_fold))) | walk1 | (dsimp only; walk1) | (leave1; try dsimp only) | fail "no step"))
      rename Fr h₀ L _ _ => F9
      rename News h₀ L _ _ => N9
      rw [hvlen, htks, ← counts_eq] at hys3
      exact hret _ _ _ _ ⟨fun p hp => .tail _ (hnN p hp), D3, ys3.length, ys3, rfl, .head _, hys3⟩ F9 N9
end
section
theorem size_width (o : List UInt8) (r : Row) : (r.fresh o).width = r.size := by
  unfold Row.fresh AS.fresh AS.width Row.size
  cases r.kind <;> rfl
theorem walkF_room (o : List UInt8) (rows : List Row) : ∀ (n a : Nat) (sts : List (List Bool)), ∀ q ∈ walkF o rows n a sts, ∃ r, rows[q.2]? = some r ∧ q.1 + r.size ≤ o.length
  | 0, _, _ => fun _ h => nomatch h
  | n + 1, a, sts => by
    intro q hq
    rw [walkF] at hq
    split at hq
    · split at hq
      · exact walkF_room o rows n _ _ q hq
      · rename_i i hi
        rcases List.mem_cons.mp hq with rfl | hq
        · have h1 := (List.mem_filter.mp (List.mem_of_head? hi)).2
          unfold hitB at h1
          split at h1
          · rename_i r st hr hst
            refine ⟨r, hr, ?_⟩
            unfold hitS at h1
            split at h1
            · cases h1
            · rename_i hn
              have : a + r.size ≤ (spanR o r).2 := by
                rcases Nat.lt_or_ge (spanR o r).2 (a + r.size) with h | h
                · exact absurd (.inr (.inl h)) hn
                · exact h
              exact Nat.le_trans this (endS_le o r.before)
          · cases h1
        · exact walkF_room o rows n _ _ q hq
    · cases hq
theorem ints_set : ∀ {vs : List Value} {ns : List Int} (i : Nat) (z : Int) (t : Tok), IntsAre vs ns → IntsAre (vs.set i (.int z t)) (ns.set i z)
  | _, _, _, _, _, .nil => IntsAre.nil
  | _, _, 0, z, t, .cons _ _ h => IntsAre.cons _ _ h
  | _, _, i + 1, z, t, .cons _ _ h => IntsAre.cons _ _ (ints_set i z t h)
/-- s octets of g are put in at a -/
def putS (b g : List UInt8) (a s : Nat) : List UInt8 := b.take a ++ g.take s ++ b.drop (a + s)
theorem putS_zero (b g : List UInt8) (a : Nat) : putS b g a 0 = b := by
  unfold putS
  rw [List.take_zero, List.append_nil, Nat.add_zero, List.take_append_drop]
theorem putS_len {b g : List UInt8} {a s : Nat} (hs : s ≤ g.length) (ha : a + g.length ≤ b.length) : (putS b g a s).length = b.length := by
  unfold putS
  simp only [List.length_append, List.length_take, List.length_drop]
  omega
theorem putS_succ {b g : List UInt8} {a s : Nat} (hs : s < g.length) (ha : a + g.length ≤ b.length) : (putS b g a s).set (a + s) (g.getD s 0) = putS b g a (s + 1) := by
  unfold putS
  have h1 : (b.take a ++ g.take s).length = a + s := by
    simp only [List.length_append, List.length_take]
    omega
  rw [List.set_append_right _ _ (by rw [h1]; exact Nat.le_refl _), h1, Nat.sub_self]
  have h2 : a + s < b.length := by omega
  rw [List.drop_eq_getElem_cons h2, List.set_cons_zero, List.take_succ_eq_append_getElem hs, ← Nat.add_assoc, List.getD_eq_getElem?_getD, List.getElem?_eq_getElem hs]
  simp only [Option.getD_some, List.append_assoc, List.cons_append, List.nil_append]
theorem tup_ne_list {vs : List Value} {a : Array Value} {n : Nat} : tupOf vs ≠ listOf a n := fun h => absurd (Value.type.inj (congrArg Obj.cls h)) (by decide)
theorem PairsIn.wo {l : Led} {d : Addr} (h : ∀ (T : Addr) (vs : List Value), (T, tupOf vs) ∈ l → T ≠ d) : ∀ {vs : List Value} {qs : List (Nat × Nat)}, PairsIn l vs qs → PairsIn (wo d l) vs qs
  | [], [], _ => trivial
  | _ :: _, _ :: _, ⟨⟨T, t1, t2, e, hm⟩, r⟩ => ⟨⟨T, t1, t2, e, mem_wo.mpr ⟨hm, h _ _ hm⟩⟩, PairsIn.wo h r⟩
  | [], _ :: _, h => h.elim
  | _ :: _, [], h => h.elim
abbrev natsB (b : List UInt8) : List Int := b.map fun c => (c.toNat : Int)
theorem sub_found {fnd : Addr} {of of' : Obj} {a b : Addr × Obj} {R : Led} (ha : a.1 ≠ fnd) (hb : b.1 ≠ fnd) (hR : ∀ p ∈ R, p.1 ≠ fnd) : ∀ p ∈ a :: b :: (fnd, of') :: R, p ∈ (fnd, of') :: wo fnd (a :: b :: (fnd, of) :: R) := by
  intro p hp
  rcases List.mem_cons.mp hp with rfl | hp
  · exact .tail _ (mem_wo.mpr ⟨.head _, ha⟩)
  rcases List.mem_cons.mp hp with rfl | hp
  · exact .tail _ (mem_wo.mpr ⟨.tail _ (.head _), hb⟩)
  rcases List.mem_cons.mp hp with rfl | hp
  · exact .head _
  · exact .tail _ (mem_wo.mpr ⟨.tail _ (.tail _ (.tail _ hp)), hR p hp⟩)
/-- the fors of _law_exchanged -/
inductive PutJ (o : List UInt8) (to : Tok) (rows : List Row) (fnd rl : Addr) (R : Led) (i : Nat) (m : Ns) (nw : Led) : Prop
  | intro (bv : List Value) (cn : Nat) (u1 u2 u3 : Option Value)
    (em : m = ov [(Str.ofString "place", u1), (Str.ofString "taker", u2), (Str.ofString "step", u3)] (fun y => if y = Str.ofString "found" then some (.ref fnd) else List.lookup y [(Str.ofString "rows", .ref rl), (Str.ofString "octets", .bytes o.toArray to)]))
    (en : nw = (fnd, listOf (List.toArray bv) cn) :: R) (hi : IntsAre bv (natsB (exchL o rows ((walkP o rows).take i)))) (hl : (exchL o rows ((walkP o rows).take i)).length = o.length) : PutJ o to rows fnd rl R i m nw
inductive PutK (o : List UInt8) (to : Tok) (fnd rl : Addr) (I : Addr × Obj) (R : Led) (q1 q2 : Nat) (t1 t2 : Tok) (b g : List UInt8) (s : Nat) (m : Ns) (nw : Led) : Prop
  | intro (bv2 : List Value) (cn2 : Nat) (u4 : Option Value)
    (em : m = ov [(Str.ofString "place", some (.int (q1 : Int) t1)), (Str.ofString "taker", some (.int (q2 : Int) t2)), (Str.ofString "step", u4)] (fun y => if y = Str.ofString "found" then some (.ref fnd) else List.lookup y [(Str.ofString "rows", .ref rl), (Str.ofString "octets", .bytes o.toArray to)]))
    (en : nw = I :: (fnd, listOf (List.toArray bv2) cn2) :: R) (hi : IntsAre bv2 (natsB (putS b g q1 s))) : PutK o to fnd rl I R q1 q2 t1 t2 b g s m nw
set_option maxRecDepth 100000 in
set_option maxHeartbeats 2000000 in
theorem exchanged_spec (w : World) (o : List UInt8) (rows : List Row) (to : Tok) (rl : Addr) (rn : Nat) (vals : List Value) (news : Led) (ho : o.length ≤ 1000) (hrl : rows.length ≤ 100) (hok : ∀ r ∈ rows, r.ok) (hm : (rl, listOf vals.toArray rn) ∈ news) (hv : AllIn (XRow news) vals rows) (hg : ∀ r ∈ rows, r.given.length = (r.fresh o).width) :
    Spec w 30 226 [.bytes o.toArray to, .ref rl] news (fun v news' => (∀ p ∈ news, p ∈ news') ∧ ∃ t, v = .bytes (exchL o rows (walkP o rows)).toArray t) := by
  unfold Spec
  intro dp un gd env outer A₀ mean mg mb base h₀ L m s Q E B F X N T hf hk hdp hun hret
  ((have fill : (∀ w : World, (Mine.hdHeap w.params) = (Mine.hdHeap w.params)) ∧ PySem.Challenge.rw_og0077_01.Holds → True := by ((first | k_fill | skip); exact fun _ => trivial)); clear fill)
  have hE : Enter [(Str.ofString "octets", .bytes o.toArray to), (Str.ofString "rows", .ref rl)] (fun y => List.lookup y [(Str.ofString "rows", .ref rl), (Str.ofString "octets", .bytes o.toArray to)]) := ⟨⟩
  (k_dflt (refine' enter_plainN (by assumption) ?k1 ?k2 ?k3 ?k4 ?k5 ?kF ?kK ?k6 ?k7 ?k8 ?k9 ?kB ?km ?_ ?c2 ?c3 ?c4 ?c5; (case kF => assumption); (case kK => assumption); (case k1 => k_asm); (case k2 => k_asm); (case k3 => k_asm); (case k4 => k_asm); (case k5 => k_asm); (case k6 => k_is); (case k7 => k_is); (case k8 => ktr_room); (case k9 => exact BindsTo.of_eq rfl); (case km => exact rfl); (case c5 => decide); (case kB => exact locs rfl); (case c2 => exact rfl); (case c3 => exact rfl); (case c4 => exact rfl); k_whole; intro _ _ _ _ _ _ _ _ _ _; (try dsimp only); (try k_fold)))
  rename_i g1 L1 h1 FG1 F1 N1 B1 X1 T1 lt1
  have hv1 : ∀ (D : Addr × Obj), AllIn (XRow (D :: news)) vals rows := fun D => hv.mono fun v x h => h.mono fun p hp => .tail _ hp
  (repeat' (first | (k_unfold; (try dsimp only)) | (k_end; wrow_close) | (k_here; (with_reducible show wpAny _ _ (subscriptTail _ _ (Value.ref _) (Value.int 2 _)) _ _ _); (refine tup_at (i := 2) (s := ⟨_, _, _, _, _⟩) (by k_asm) (by walk_at "MY mem") (by decide) (by exact rfl) ?_)) | (k_here; (with_reducible show wpAny _ _ (subscriptTail _ _ (Value.ref _) (Value.int (Nat.cast _) _)) _ _ _); (refine item_at (s := ⟨_, _, _, _, _⟩) (by k_asm) (by walk_at "MY mem") (by first | assumption | omega) (by assumption) ?_)) | (k_here; (with_reducible show wpAny _ _ (setItem (Value.ref _) (Value.int _ _) _) _ _ _); k_dflt (refine' set_z ?k0 ?k1 ?k2 ?k3 ?k4 ?k5 ?_; (case k1 => k_asm); (case k2 => k_asm); (case k0 => exact (Int.natCast_add _ _).symm); (case k3 => walk_at "MY mem"); (case k4 => first | assumption | omega); (case k5 => first | assumption | omega)); intro _ _ _) | ((with_reducible show wpAny _ _ (call (Value.type _) _) _ _ _); k_here; k_dflt (refine' mk_bytes ?k1 ?k2 ?k3 ?k4 ?k5 ?k6 ?_; (case k1 => k_asm); (case k2 => k_asm); (case k3 => walk_at "MY mem"); (case k4 => assumption); (case k5 => omega); (case k6 => rfl)); intro _ _ _ _ _) | (k_here; (with_reducible show wpAny _ _ (call (Value.type "list") [Value.bytes (List.toArray _) _]) _ _ _); k_dflt (refine' list_b ?k1 ?k2 ?k3 ?k4 ?_; (case k1 => rfl); (case k2 => k_asm); (case k3 => k_asm); (case k4 => assumption)); intro _ _ _ _ _ _ _ _ _; (try k_sweep)) | ((with_reducible show wpAny _ _ (exec (Stmt.For (Expr.Tuple _ _ _) (Expr.Call _ _ _ _) _ _ _) _) _ _ _); k_here; k_dflt (refine' for_src ?k1 ?_; (case k1 => k_asm))) | ((with_reducible show wpAny _ _ (call _ _) _ _ _); k_here; (try dsimp only); (with_reducible show wpAny _ _ (call (Value.ref 214) _) _ _ _); k_dflt (refine' Spec.callB (walk_spec _ _ _ _ _ _ _ _ ?e0 ?e1 ?e2 ?e3 ?e4) ?k1 ?k2 ?k3 ?k4 ?k5 ?k6 ?k7 ?k8 ?k9 ?ka ?kb ?kc ?_; (case k1 => k_asm); (case k2 => k_asm); (case k3 => k_asm); (case k4 => k_asm); (case k5 => k_asm); (case k6 => first | assumption | exact rfl); (case k7 => first | assumption | exact rfl); (case k8 => k_asm); (case k9 => k_asm); (case ka => rfl); (case kb => rfl); (case kc => exact Nat.le_of_ble_eq_true rfl); (case e0 => assumption); (case e1 => assumption); (case e2 => assumption); (case e3 => walk_at "MY mem"); (case e4 => first | assumption | apply_assumption); k_whole; intro v9 nw9 h9 tk9 hr9 F9 N9; (obtain ⟨e9, fa9, fn9, fvals9, e8, hfa9, hlt9, hp9⟩ := hr9; subst e8); revert nw9 h9 tk9 F9 N9 e9 fa9 fn9 fvals9 hfa9 hlt9 hp9; intros; (try dsimp only); (try k_fold))) | walk1 | (dsimp only; walk1) | (leave1; try dsimp only) | fail "no step"))
  rename Fr _ _ _ _ => F2
  rename News _ _ _ _ => N2
  rename_i fnd c1 h2 tk2 bv0 ltD hi0 h3 F3 N3 nw9 h9 tk9 e9 fa fn fvals hfa hltfa hp
  obtain ⟨R, hR⟩ : ∃ R : Led, R = wo fnd nw9 := ⟨_, rfl⟩
  have N5 : News g1 L1 h9 ((fnd, listOf bv0.toArray c1) :: R) := by rw [hR]; exact News.pull N2 (e9 _ (.head _))
  have hfaR : (fa, listOf fvals.toArray fn) ∈ R := by rw [hR]; exact mem_wo.mpr ⟨hfa, Nat.ne_of_gt (hltfa _ (.head _))⟩
  have hnR : ∀ p ∈ news, p ∈ R := fun p hp => by rw [hR]; exact mem_wo.mpr ⟨e9 _ (.tail _ hp), Nat.ne_of_lt (ltD p hp)⟩
  have hpR : PairsIn R fvals (walkP o rows) := by
    rw [hR]
    exact PairsIn.wo (fun T vs hm => Mine.News.fun N2 hm (e9 _ (.head _)) tup_ne_list) hp
  have hRf : ∀ p ∈ R, p.1 ≠ fnd := by rw [hR]; exact wo_off
  have hpl := hp.length
  have hmR := hnR _ hm
  clear hp hfa e9 N2
  refine ⟨fvals.length, fun i v => fvals[i]? = some v, R, _, _, PutJ o to rows fnd rl R, Src.list rfl (fun p hp => N5 p (.tail _ hp)) hfaR, F2, N5, ?_, ?_, ?_, ?_⟩
  · rintro i m nw ⟨bv, cn, u1, u2, u3, _, rfl, _⟩ p hp
    exact .tail _ hp
  · exact ⟨bv0, c1, none, none, none, ov_start (ov_start (ov_start ov_nil)), rfl, hi0, rfl⟩
  · rintro i v I oI m1 nw1 h1 tk1 hi hv2 hJ hI off F6 N6
    refine opq_turn fun PP1 hPP1 => ?_
    obtain ⟨bv, cn, u1, u2, u3, eJ, eK, hbv, hbl⟩ := hJ
    subst m1
    subst nw1
    obtain ⟨q, hq, T9, t1, t2, rfl, hT9⟩ := hpR.get hv2
    obtain ⟨r, hr, hroom⟩ := walkF_room o rows _ _ _ q (List.mem_of_getElem? hq)
    obtain ⟨vr, hvr, T0, k1, k2, k3, k4, k5, rfl, hT0⟩ := hv.get' hr
    have hT1 := hnR _ hT0
    have hT : IsTup h1 T9 #[.int (q.1 : Int) t1, .int (q.2 : Int) t2] := ⟨_, (N6 _ (.tail _ (.tail _ hT9))).1, rfl, _, rfl⟩
    have hgw : r.given.length = r.size := by rw [hg r (List.mem_of_getElem? hr), size_width]
    have hgl : r.given.length ≤ 1000 := by rw [hgw]; exact Nat.le_trans (Nat.le_trans (Nat.le_add_left _ _) hroom) ho
    have hq2 : q.2 < 100000 := by
      have := (List.getElem?_eq_some_iff.mp hr).1
      exact Nat.lt_of_lt_of_le this (Nat.le_trans hrl (Nat.le_of_ble_eq_true rfl))
    have hIf : I ≠ fnd := Ne.symm (off _ (.head _))
    obtain ⟨b, hb⟩ : ∃ b, b = exchL o rows ((walkP o rows).take i) := ⟨_, rfl⟩
    rw [← hb] at hbv hbl
    have hrg : q.1 + r.given.length ≤ b.length := by rw [hbl, hgw]; exact hroom
    (repeat' (first | (k_unfold; (try dsimp only)) | (k_end; wrow_close) | (k_here; (with_reducible show wpAny _ _ (subscriptTail _ _ (Value.ref _) (Value.int 2 _)) _ _ _); (refine tup_at (i := 2) (s := ⟨_, _, _, _, _⟩) (by k_asm) (by walk_at "MY mem") (by decide) (by exact rfl) ?_)) | (k_here; (with_reducible show wpAny _ _ (subscriptTail _ _ (Value.ref _) (Value.int (Nat.cast _) _)) _ _ _); (refine item_at (s := ⟨_, _, _, _, _⟩) (by k_asm) (by walk_at "MY mem") (by first | assumption | omega) (by assumption) ?_)) | (k_here; (with_reducible show wpAny _ _ (setItem (Value.ref _) (Value.int _ _) _) _ _ _); k_dflt (refine' set_z ?k0 ?k1 ?k2 ?k3 ?k4 ?k5 ?_; (case k1 => k_asm); (case k2 => k_asm); (case k0 => exact (Int.natCast_add _ _).symm); (case k3 => walk_at "MY mem"); (case k4 => first | assumption | omega); (case k5 => first | assumption | omega)); intro _ _ _) | ((with_reducible show wpAny _ _ (call (Value.type _) _) _ _ _); k_here; k_dflt (refine' mk_bytes ?k1 ?k2 ?k3 ?k4 ?k5 ?k6 ?_; (case k1 => k_asm); (case k2 => k_asm); (case k3 => walk_at "MY mem"); (case k4 => assumption); (case k5 => omega); (case k6 => rfl)); intro _ _ _ _ _) | (k_here; (with_reducible show wpAny _ _ (call (Value.type "list") [Value.bytes (List.toArray _) _]) _ _ _); k_dflt (refine' list_b ?k1 ?k2 ?k3 ?k4 ?_; (case k1 => rfl); (case k2 => k_asm); (case k3 => k_asm); (case k4 => assumption)); intro _ _ _ _ _ _ _ _ _; (try k_sweep)) | ((with_reducible show wpAny _ _ (exec (Stmt.For (Expr.Tuple _ _ _) (Expr.Call _ _ _ _) _ _ _) _) _ _ _); k_here; k_dflt (refine' for_src ?k1 ?_; (case k1 => k_asm))) | ((with_reducible show wpAny _ _ (call _ _) _ _ _); k_here; (try dsimp only); (with_reducible show wpAny _ _ (call (Value.ref 214) _) _ _ _); k_dflt (refine' Spec.callB (walk_spec _ _ _ _ _ _ _ _ ?e0 ?e1 ?e2 ?e3 ?e4) ?k1 ?k2 ?k3 ?k4 ?k5 ?k6 ?k7 ?k8 ?k9 ?ka ?kb ?kc ?_; (case k1 => k_asm); (case k2 => k_asm); (case k3 => k_asm); (case k4 => k_asm); (case k5 => k_asm); (case k6 => first | assumption | exact rfl); (case k7 => first | assumption | exact rfl); (case k8 => k_asm); (case k9 => k_asm); (case ka => rfl); (case kb => rfl); (case kc => exact Nat.le_of_ble_eq_true rfl); (case e0 => assumption); (case e1 => assumption); (case e2 => assumption); (case e3 => walk_at "MY mem"); (case e4 => first | assumption | apply_assumption); k_whole; intro v9 nw9 h9 tk9 hr9 F9 N9; (obtain ⟨e9, fa9, fn9, fvals9, e8, hfa9, hlt9, hp9⟩ := hr9; subst e8); revert nw9 h9 tk9 F9 N9 e9 fa9 fn9 fvals9 hfa9 hlt9 hp9; intros; (try dsimp only); (try k_fold))) | walk1 | (dsimp only; walk1) | (leave1; try dsimp only) | fail "no step"))
    rename Fr _ _ _ _ => F7
    rename News _ _ _ _ => N7
    refine ⟨r.given.length, fun s v => ∃ t, v = .int ((s : Nat) : Int) t, [], _, _, PutK o to fnd rl ((I, oI) : Addr × Obj) R q.1 q.2 t1 t2 b r.given, Src.rangeN rfl (by assumption) (Nat.le_trans hgl (Nat.le_of_ble_eq_true rfl)), F7, N7, ?_, ?_, ?_, ?_⟩
    · rintro s m nw _ p hp
      cases hp
    · exact ⟨bv, cn, u3, by simp only [ov_pt]; rfl, rfl, by rw [putS_zero]; exact hbv⟩
    · rintro s v I2 oI2 m2 nw2 h2 tk2 hs ⟨t, rfl⟩ hJ hI2 off2 F8 N8
      refine opq_turn fun PP2 hPP2 => ?_
      obtain ⟨bv2, cn2, u4, eJ, eK, hbv2⟩ := hJ
      subst m2
      subst nw2
      have hbl2 : bv2.length = o.length := by
        rw [hbv2.length, List.length_map, putS_len (Nat.le_of_lt hs) hrg, hbl]
      have hlt2 : q.1 + s < bv2.length := by rw [hbl2, ← hbl]; exact Nat.lt_of_lt_of_le (Nat.add_lt_add_left hs _) hrg
      have hlt3 : q.1 + s < 100000 := Nat.lt_of_lt_of_le hlt2 (by rw [hbl2]; exact Nat.le_trans ho (Nat.le_of_ble_eq_true rfl))
      (repeat' (first | (k_unfold; (try dsimp only)) | (k_end; wrow_close) | (k_here; (with_reducible show wpAny _ _ (subscriptTail _ _ (Value.ref _) (Value.int 2 _)) _ _ _); (refine tup_at (i := 2) (s := ⟨_, _, _, _, _⟩) (by k_asm) (by walk_at "MY mem") (by decide) (by exact rfl) ?_)) | (k_here; (with_reducible show wpAny _ _ (subscriptTail _ _ (Value.ref _) (Value.int (Nat.cast _) _)) _ _ _); (refine item_at (s := ⟨_, _, _, _, _⟩) (by k_asm) (by walk_at "MY mem") (by first | assumption | omega) (by assumption) ?_)) | (k_here; (with_reducible show wpAny _ _ (setItem (Value.ref _) (Value.int _ _) _) _ _ _); k_dflt (refine' set_z ?k0 ?k1 ?k2 ?k3 ?k4 ?k5 ?_; (case k1 => k_asm); (case k2 => k_asm); (case k0 => exact (Int.natCast_add _ _).symm); (case k3 => walk_at "MY mem"); (case k4 => first | assumption | omega); (case k5 => first | assumption | omega)); intro _ _ _) | ((with_reducible show wpAny _ _ (call (Value.type _) _) _ _ _); k_here; k_dflt (refine' mk_bytes ?k1 ?k2 ?k3 ?k4 ?k5 ?k6 ?_; (case k1 => k_asm); (case k2 => k_asm); (case k3 => walk_at "MY mem"); (case k4 => assumption); (case k5 => omega); (case k6 => rfl)); intro _ _ _ _ _) | (k_here; (with_reducible show wpAny _ _ (call (Value.type "list") [Value.bytes (List.toArray _) _]) _ _ _); k_dflt (refine' list_b ?k1 ?k2 ?k3 ?k4 ?_; (case k1 => rfl); (case k2 => k_asm); (case k3 => k_asm); (case k4 => assumption)); intro _ _ _ _ _ _ _ _ _; (try k_sweep)) | ((with_reducible show wpAny _ _ (exec (Stmt.For (Expr.Tuple _ _ _) (Expr.Call _ _ _ _) _ _ _) _) _ _ _); k_here; k_dflt (refine' for_src ?k1 ?_; (case k1 => k_asm))) | ((with_reducible show wpAny _ _ (call _ _) _ _ _); k_here; (try dsimp only); (with_reducible show wpAny _ _ (call (Value.ref 214) _) _ _ _); k_dflt (refine' Spec.callB (walk_spec _ _ _ _ _ _ _ _ ?e0 ?e1 ?e2 ?e3 ?e4) ?k1 ?k2 ?k3 ?k4 ?k5 ?k6 ?k7 ?k8 ?k9 ?ka ?kb ?kc ?_; (case k1 => k_asm); (case k2 => k_asm); (case k3 => k_asm); (case k4 => k_asm); (case k5 => k_asm); (case k6 => first | assumption | exact rfl); (case k7 => first | assumption | exact rfl); (case k8 => k_asm); (case k9 => k_asm); (case ka => rfl); (case kb => rfl); (case kc => exact Nat.le_of_ble_eq_true rfl); (case e0 => assumption); (case e1 => assumption); (case e2 => assumption); (case e3 => walk_at "MY mem"); (case e4 => first | assumption | apply_assumption); k_whole; intro v9 nw9 h9 tk9 hr9 F9 N9; (obtain ⟨e9, fa9, fn9, fvals9, e8, hfa9, hlt9, hp9⟩ := hr9; subst e8); revert nw9 h9 tk9 F9 N9 e9 fa9 fn9 fvals9 hfa9 hlt9 hp9; intros; (try dsimp only); (try k_fold))) | walk1 | (dsimp only; walk1) | (leave1; try dsimp only) | fail "no step"))
      rename Fr _ _ _ _ => F9
      rename News _ _ _ _ => N9
      rw [Int.toNat_natCast] at N9
      simp only [ov_pt] at F9
      refine hPP2 _ _ <| TEnd.next ((I, oI) :: (fnd, listOf (bv2.set (q.1 + s) (Value.int _ _)).toArray cn2) :: R) F9 N9 (sub_found (Ne.symm (off2 _ (.tail _ (.head _)))) hIf hRf) (fun p hp => ?_) ⟨_, cn2, _, rfl, rfl, ?_⟩
      · rcases List.mem_cons.mp hp with rfl | hp
        · exact off2 _ (.head _)
        rcases List.mem_cons.mp hp with rfl | hp
        · exact off2 (fnd, listOf (List.toArray bv2) cn2) (.tail _ (.head _))
        · exact off2 p (.tail _ (.tail _ hp))
      · rw [← putS_succ hs hrg]
        unfold natsB
        rw [List.map_set]
        exact ints_set _ _ _ hbv2
    · rintro m2 nw2 h2 tk2 hJ F8 N8
      obtain ⟨bv2, cn2, u4, eJ, eK, hbv2⟩ := hJ
      subst m2
      subst nw2
      dsimp only
      (repeat' (first | (k_unfold; (try dsimp only)) | (k_end; wrow_close) | (k_here; (with_reducible show wpAny _ _ (subscriptTail _ _ (Value.ref _) (Value.int 2 _)) _ _ _); (refine tup_at (i := 2) (s := ⟨_, _, _, _, _⟩) (by k_asm) (by walk_at "MY mem") (by decide) (by exact rfl) ?_)) | (k_here; (with_reducible show wpAny _ _ (subscriptTail _ _ (Value.ref _) (Value.int (Nat.cast _) _)) _ _ _); (refine item_at (s := ⟨_, _, _, _, _⟩) (by k_asm) (by walk_at "MY mem") (by first | assumption | omega) (by assumption) ?_)) | (k_here; (with_reducible show wpAny _ _ (setItem (Value.ref _) (Value.int _ _) _) _ _ _); k_dflt (refine' set_z ?k0 ?k1 ?k2 ?k3 ?k4 ?k5 ?_; (case k1 => k_asm); (case k2 => k_asm); (case k0 => exact (Int.natCast_add _ _).symm); (case k3 => walk_at "MY mem"); (case k4 => first | assumption | omega); (case k5 => first | assumption | omega)); intro _ _ _) | ((with_reducible show wpAny _ _ (call (Value.type _) _) _ _ _); k_here; k_dflt (refine' mk_bytes ?k1 ?k2 ?k3 ?k4 ?k5 ?k6 ?_; (case k1 => k_asm); (case k2 => k_asm); (case k3 => walk_at "MY mem"); (case k4 => assumption); (case k5 => omega); (case k6 => rfl)); intro _ _ _ _ _) | (k_here; (with_reducible show wpAny _ _ (call (Value.type "list") [Value.bytes (List.toArray _) _]) _ _ _); k_dflt (refine' list_b ?k1 ?k2 ?k3 ?k4 ?_; (case k1 => rfl); (case k2 => k_asm); (case k3 => k_asm); (case k4 => assumption)); intro _ _ _ _ _ _ _ _ _; (try k_sweep)) | ((with_reducible show wpAny _ _ (exec (Stmt.For (Expr.Tuple _ _ _) (Expr.Call _ _ _ _) _ _ _) _) _ _ _); k_here; k_dflt (refine' for_src ?k1 ?_; (case k1 => k_asm))) | ((with_reducible show wpAny _ _ (call _ _) _ _ _); k_here; (try dsimp only); (with_reducible show wpAny _ _ (call (Value.ref 214) _) _ _ _); k_dflt (refine' Spec.callB (walk_spec _ _ _ _ _ _ _ _ ?e0 ?e1 ?e2 ?e3 ?e4) ?k1 ?k2 ?k3 ?k4 ?k5 ?k6 ?k7 ?k8 ?k9 ?ka ?kb ?kc ?_; (case k1 => k_asm); (case k2 => k_asm); (case k3 => k_asm); (case k4 => k_asm); (case k5 => k_asm); (case k6 => first | assumption | exact rfl); (case k7 => first | assumption | exact rfl); (case k8 => k_asm); (case k9 => k_asm); (case ka => rfl); (case kb => rfl); (case kc => exact Nat.le_of_ble_eq_true rfl); (case e0 => assumption); (case e1 => assumption); (case e2 => assumption); (case e3 => walk_at "MY mem"); (case e4 => first | assumption | apply_assumption); k_whole; intro v9 nw9 h9 tk9 hr9 F9 N9; (obtain ⟨e9, fa9, fn9, fvals9, e8, hfa9, hlt9, hp9⟩ := hr9; subst e8); revert nw9 h9 tk9 F9 N9 e9 fa9 fn9 fvals9 hfa9 hlt9 hp9; intros; (try dsimp only); (try k_fold))) | walk1 | (dsimp only; walk1) | (leave1; try dsimp only) | fail "no step"))
      rename Fr _ _ _ _ => F9
      rename News _ _ _ _ => N9
      have he : exchL o rows ((walkP o rows).take (i + 1)) = putS b r.given q.1 r.given.length := by
        rw [take_snoc hq, exchL_snoc, hr, ← hb]
        unfold putS
        dsimp only
        rw [List.take_length, ← hg r (List.mem_of_getElem? hr)]
      refine hPP1 _ _ <| TEnd.next ((fnd, listOf (List.toArray bv2) cn2) :: R) F9 N9 (fun p hp => hp) (fun p hp => ?_) ⟨bv2, cn2, _, _, _, rfl, rfl, by rw [he]; exact hbv2, by rw [he, putS_len (Nat.le_refl _) hrg, hbl]⟩
      rcases List.mem_cons.mp hp with rfl | hp
      · exact Ne.symm hIf
      · exact off p (.tail _ hp)
  · rintro m1 nw1 h1 tk1 hJ F6 N6
    obtain ⟨bv, cn, u1, u2, u3, eJ, eK, hbv, hbl⟩ := hJ
    subst m1
    subst nw1
    rw [hpl, List.take_length] at hbv hbl
    have hbvl : bv.length ≤ 100000 := by
      rw [hbv.length, List.length_map, hbl]
      omega
    (repeat' (first | (k_unfold; (try dsimp only)) | (k_end; wrow_close) | (k_here; (with_reducible show wpAny _ _ (subscriptTail _ _ (Value.ref _) (Value.int 2 _)) _ _ _); (refine tup_at (i := 2) (s := ⟨_, _, _, _, _⟩) (by k_asm) (by walk_at "MY mem") (by decide) (by exact rfl) ?_)) | (k_here; (with_reducible show wpAny _ _ (subscriptTail _ _ (Value.ref _) (Value.int (Nat.cast _) _)) _ _ _); (refine item_at (s := ⟨_, _, _, _, _⟩) (by k_asm) (by walk_at "MY mem") (by first | assumption | omega) (by assumption) ?_)) | (k_here; (with_reducible show wpAny _ _ (setItem (Value.ref _) (Value.int _ _) _) _ _ _); k_dflt (refine' set_z ?k0 ?k1 ?k2 ?k3 ?k4 ?k5 ?_; (case k1 => k_asm); (case k2 => k_asm); (case k0 => exact (Int.natCast_add _ _).symm); (case k3 => walk_at "MY mem"); (case k4 => first | assumption | omega); (case k5 => first | assumption | omega)); intro _ _ _) | ((with_reducible show wpAny _ _ (call (Value.type _) _) _ _ _); k_here; k_dflt (refine' mk_bytes ?k1 ?k2 ?k3 ?k4 ?k5 ?k6 ?_; (case k1 => k_asm); (case k2 => k_asm); (case k3 => walk_at "MY mem"); (case k4 => assumption); (case k5 => omega); (case k6 => rfl)); intro _ _ _ _ _) | (k_here; (with_reducible show wpAny _ _ (call (Value.type "list") [Value.bytes (List.toArray _) _]) _ _ _); k_dflt (refine' list_b ?k1 ?k2 ?k3 ?k4 ?_; (case k1 => rfl); (case k2 => k_asm); (case k3 => k_asm); (case k4 => assumption)); intro _ _ _ _ _ _ _ _ _; (try k_sweep)) | ((with_reducible show wpAny _ _ (exec (Stmt.For (Expr.Tuple _ _ _) (Expr.Call _ _ _ _) _ _ _) _) _ _ _); k_here; k_dflt (refine' for_src ?k1 ?_; (case k1 => k_asm))) | ((with_reducible show wpAny _ _ (call _ _) _ _ _); k_here; (try dsimp only); (with_reducible show wpAny _ _ (call (Value.ref 214) _) _ _ _); k_dflt (refine' Spec.callB (walk_spec _ _ _ _ _ _ _ _ ?e0 ?e1 ?e2 ?e3 ?e4) ?k1 ?k2 ?k3 ?k4 ?k5 ?k6 ?k7 ?k8 ?k9 ?ka ?kb ?kc ?_; (case k1 => k_asm); (case k2 => k_asm); (case k3 => k_asm); (case k4 => k_asm); (case k5 => k_asm); (case k6 => first | assumption | exact rfl); (case k7 => first | assumption | exact rfl); (case k8 => k_asm); (case k9 => k_asm); (case ka => rfl); (case kb => rfl); (case kc => exact Nat.le_of_ble_eq_true rfl); (case e0 => assumption); (case e1 => assumption); (case e2 => assumption); (case e3 => walk_at "MY mem"); (case e4 => first | assumption | apply_assumption); k_whole; intro v9 nw9 h9 tk9 hr9 F9 N9; (obtain ⟨e9, fa9, fn9, fvals9, e8, hfa9, hlt9, hp9⟩ := hr9; subst e8); revert nw9 h9 tk9 F9 N9 e9 fa9 fn9 fvals9 hfa9 hlt9 hp9; intros; (try dsimp only); (try k_fold))) | walk1 | (dsimp only; walk1) | (leave1; try dsimp only) | fail "no step"))
    rename Fr h₀ L _ _ => F9
    rename News h₀ L _ _ => N9
    exact hret _ _ _ _ ⟨fun p hp => .tail _ (hnR p hp), _, rfl⟩ F9 N9
end
section
theorem take_snocG {α : Type} {l : List α} {i : Nat} {x : α} (h : l[i]? = some x) : l.take (i + 1) = l.take i ++ [x] := by
  obtain ⟨hi, rfl⟩ := List.getElem?_eq_some_iff.mp h
  rw [List.take_succ_eq_append_getElem hi]
set_option maxRecDepth 100000 in
set_option maxHeartbeats 2000000 in
theorem pen_call (w : World) {a : Addr} {vs : List Value} {ns : List Int} {dp un : Nat} {gd : Option (List Code)} {env : Env} {outer : List Env} {A₀ : Around} {mean : ExcName → Option Value} {mg mb : Ns} {base h₀ : Heap} {L : Addr} {m : Ns} {s : Shared} {Q E : Value → Shared → Prop} {news : Led}
    (B : Below A₀ base outer h₀) (F : Fr h₀ L s.heap m) (X : (hdHeap w.params).In h₀) (N : News h₀ L s.heap news) (T : TopC mean mg mb h₀) (hf : env.frame = some L) (hk : env.scope.kind = .function)
    (hdp : dp + 12 < recursionLimit) (hun : un + 10 * 12 + 10 < cLine) (hl : h₀.IsList a vs.toArray) (hi : IntsAre vs ns) (hn : ns.length ≤ 63)
    (hret : ∀ v news' h' tk', (∃ p c q rest, v = .ref p ∧ q.ok 0 ∧ Ink c rest ∧ (∀ x ∈ rest, x.1 ≠ p) ∧ (∀ x ∈ news, x ∈ rest) ∧ ∀ x ∈ (p, penO c q) :: rest, x ∈ news') → Fr h₀ L h' m → News h₀ L h' news' → Q v { s with heap := h', toks := tk' }) :
    wpAny (model PG w) (arnd dp un gd env outer) (call (.ref 168) [.ref a]) Q E s := by
  ((have fill : (∀ w : World, (Mine.hdHeap w.params) = (Mine.hdHeap w.params)) ∧ PySem.Challenge.rw_og0077_01.Holds → True := by ((first | k_fill | skip); exact fun _ => trivial)); clear fill)
  have hE : Enter [(Str.ofString "script", .ref a)] (fun y => List.lookup y [(Str.ofString "script", .ref a)]) := ⟨⟩
  (k_dflt (refine' enter_plainN (by assumption) ?k1 ?k2 ?k3 ?k4 ?k5 ?kF ?kK ?k6 ?k7 ?k8 ?k9 ?kB ?km ?_ ?c2 ?c3 ?c4 ?c5; (case kF => assumption); (case kK => assumption); (case k1 => k_asm); (case k2 => k_asm); (case k3 => k_asm); (case k4 => k_asm); (case k5 => k_asm); (case k6 => k_is); (case k7 => k_is); (case k8 => ktr_room); (case k9 => exact BindsTo.of_eq rfl); (case km => exact rfl); (case c5 => decide); (case kB => exact locs rfl); (case c2 => exact rfl); (case c3 => exact rfl); (case c4 => exact rfl); k_whole; intro _ _ _ _ _ _ _ _ _ _; (try dsimp only); (try k_fold)))
  rename_i g1 L1 h1 FG1 F1 N1 B1 X1 T1 lt1
  have hl1 : g1.IsList a vs.toArray := by
    obtain ⟨o, ho, r⟩ := hl
    exact ⟨o, FG1.keep _ _ ho, r⟩
  k_steps
  rename Fr _ _ _ _ => F2
  rename News _ _ _ _ => N2
  rename_i D1 ws h2 lt2 hiw hcw hlw
  have hwl : ws.length ≤ 63 := by
    rw [hiw.length]
    omega
  refine ⟨ws.length, fun i v => ws[i]? = some v, (D1, listOf ws.toArray 0) :: news, (D1, listOf ws.toArray 0) :: news, fun i ys nw => nw = (D1, listOf ws.toArray 0) :: news ∧ IntsAre ys ((ns.take 48).take i), fun i v m => m (Str.ofString "cell") = some v, Src.list rfl N2 (.head _), F2, N2, fun s₂ => ⟨?_, ?_, ?_, ?_, ?_⟩, ?_⟩
  · rintro i ys nw ⟨rfl, _⟩ p hp
    exact hp
  · exact ⟨rfl, IntsAre.nil⟩
  · exact Nat.le_trans hwl (Nat.le_of_ble_eq_true rfl)
  · intro i v C s' m' Q' E' hi hP hn hkeep h
    exact binds_name rfl (by decide) v C s' m' Q' E' hn (fun h'' tk'' m'' hn'' e'' hk'' => h h'' tk'' m'' hn'' e'' hk'')
  · rintro i v ys nw I oI C oC D m₂ h tk E' hi hP ⟨rfl, hys⟩ hyl hC hb F3 N3 off ne
    obtain ⟨z, t9, rfl, hz⟩ := hiw.at i v hP
    refine wpAny_pure ?_
    simp only [if_true]
    k_steps
    rename Fr _ _ _ _ => F9
    rename News _ _ _ _ => N9
    refine CEnd.intro _ F9 N9 (fun p hp => hp) off ⟨rfl, ?_⟩
    rw [take_snocG hz]
    exact IntsAre.append hys (IntsAre.cons _ _ IntsAre.nil)
  · rintro D h tk ys nw ⟨rfl, hys⟩ F3 N3 offD ltD
    k_steps
    rename Fr h₀ L _ _ => F9
    rename News h₀ L _ _ => N9
    rename ∀ (p : Addr × Obj), p ∈ _ → p.1 < _ => lt9
    rw [hiw.length, List.take_length] at hys
    exact hret _ _ _ _ ⟨_, D, ⟨0, 0, _, _, 0⟩, (D, lst ys) :: (D1, listOf ws.toArray 0) :: news, rfl, ⟨Nat.le_refl _, Int.le_refl _⟩, ⟨ys.length, ys, ns.take 48, .head _, hys, by omega⟩, fun x hx => Nat.ne_of_lt (lt9 x hx), fun x hx => .tail _ (.tail _ hx), fun x hx => hx⟩ F9 N9
end
section
theorem FaultO.up {h₀ g h : Heap} {L L' e : Addr} {m : Ns} {mA : Ns} (O : FaultO g h L' e mA) (F : Fr h₀ L g m) : FaultO h₀ h L e mA := by
  obtain ⟨oe, a0, h1, h2, h3, h4, h5, h6⟩ := O
  have key : ∀ b : Addr, g.get? b = none → b ≠ L ∧ h₀.get? b = none := fun b hb => by
    refine ⟨fun z => ?_, ?_⟩
    · obtain ⟨o, _, _, ho, _⟩ := F.ns
      rw [z, ho] at hb; cases hb
    · cases q : h₀.get? b with
      | none => rfl
      | some o => have := F.keep b o q; rw [hb] at this; cases this
  refine ⟨oe, a0, h1, h2, h3, (key e h5).1, (key e h5).2, ?_⟩
  rcases h6 with h6 | ⟨d, d1, d2, d3, d4, d5⟩
  · exact .inl h6
  · exact .inr ⟨d, d1, d2, d3, (key d d5).1, (key d d5).2⟩
theorem meta_exc : typeOf (.type "Exception") = pure (.type "type") := by kernel_rfl
set_option maxRecDepth 100000 in
set_option maxHeartbeats 2000000 in
theorem fault_call (w : World) (x : Str) (tx : Tok) {dp un : Nat} {gd : Option (List Code)} {env : Env} {outer : List Env} {A₀ : Around} {mean : ExcName → Option Value} {mg mb : Ns} {base h₀ : Heap} {L : Addr} {m : Ns} {s : Shared} {Q E : Value → Shared → Prop} {news : Led}
    (B : Below A₀ base outer h₀) (F : Fr h₀ L s.heap m) (X : (hdHeap w.params).In h₀) (N : News h₀ L s.heap news) (T : TopC mean mg mb h₀) (hf : env.frame = some L) (hk : env.scope.kind = .function)
    (hdp : dp + 12 < recursionLimit) (hun : un + 10 * 12 + 10 < cLine)
    (hret : ∀ e h' tk' mA, Fr h₀ L h' m → News h₀ L h' news → FaultO h₀ h' L e mA → (∀ p ∈ news, p.1 < e) → Q (.ref e) { s with heap := h', toks := tk' }) :
    wpAny (model PG w) (arnd dp un gd env outer) (call (.ref 60) [.str x tx]) Q E s := by
  ((have fill : (∀ w : World, (Mine.hdHeap w.params) = (Mine.hdHeap w.params)) ∧ PySem.Challenge.rw_og0077_01.Holds → True := by ((first | k_fill | skip); exact fun _ => trivial)); clear fill)
  obtain ⟨h, g, d, tk, os⟩ := s
  refine wpAny_call (fault_core (X.keeps F.keep) (Nat.le_of_ble_eq_true rfl) ?_)
  dsimp only at F N
  have F1 := (F.push (argO [.str x tx])).push (excO h.objs.size)
  have N1 : News h₀ L ((h.push (argO [.str x tx])).push (excO h.objs.size)) ((h.objs.size + 1, excO h.objs.size) :: (h.objs.size, argO [.str x tx]) :: news) := by
    have := (N.push F (argO [.str x tx])).push (F.push _) (excO h.objs.size)
    rwa [Heap.size_push] at this
  have hlt0 : ∀ p ∈ news, p.1 < h.objs.size := fun p hp => Heap.lt_size (N p hp).1
  generalize (h.push (argO [.str x tx])).push (excO h.objs.size) = h1 at F1 N1 ⊢
  obtain ⟨e, he⟩ : ∃ e : Addr, e = h.objs.size + 1 := ⟨_, rfl⟩
  obtain ⟨t, ht⟩ : ∃ t : Addr, t = h.objs.size := ⟨_, rfl⟩
  have hte : t < e := by rw [he, ht]; exact Nat.lt_succ_self _
  rw [← he, ← ht] at N1
  rw [← he]
  rw [← ht] at hlt0
  refine' code_def ?k1 ?k2 ?k3 ?k4 ?k5 ?kA ?kF ?kK ?k6 ?k7 ?k8 ?k9 ?kB ?_ ?c2 ?c3 ?c4 ?c5
  (case kA => exact rfl)
  (case kF => first | exact rfl | assumption)
  (case kK => first | exact rfl | assumption)
  (case k1 => k_asm)
  (case k2 => k_asm)
  (case k3 => k_asm)
  (case k4 => k_asm)
  (case k5 => k_asm)
  (case k6 => k_is)
  (case k7 => k_is)
  (case k8 => ktr_room)
  (case k9 => first | exact BindsTo.of_eq rfl | exact binds_K (by k_in) rfl (by k_is) rfl rfl rfl)
  (case c5 => decide)
  (case kB => exact locs rfl)
  (case c2 => exact rfl)
  (case c3 => exact rfl)
  (case c4 => exact rfl)
  k_whole
  intro g' L' h' FG' F' N' B' X' T'
  (try dsimp only)
  (try k_fold)
  have hsub : ∀ p ∈ news, p ∈ (e, excO t) :: (t, argO [.str x tx]) :: news ∧ p.1 < e := fun p hp => ⟨.tail _ (.tail _ hp), Nat.lt_trans (hlt0 p hp) hte⟩
  have hlt1 : ∀ p ∈ news, p.1 < e := fun p hp => Nat.lt_trans (hlt0 p hp) hte
  (repeat' (first | (k_unfold; (try dsimp only)) | (k_end; wrow_close) | ((with_reducible show wpAny _ _ (setAttr _ _ _) _ _ _); k_here; k_dflt (refine' set_fault_F ?k1 ?k2 ?k3 ?k4 ?k5 ?k6 ?k7 ?k8 ?_; (case k1 => k_asm); (case k2 => k_asm); (case k3 => k_asm); (case k4 => assumption); (case k5 => assumption); (case k6 => first | exact find_what _ | exact find_at _); (case k7 => first | exact Within.nil | exact Within.cons _ _ Within.nil); (case k8 => exact Nat.le_of_ble_eq_true rfl)); intro _ _ _ _ _) | ((with_reducible show wpAny _ _ (call (Value.builtin _) _) _ _ _); k_here; k_dflt (refine' base_init_F ?k1 ?k2 ?k3 ?k4 ?k5 ?_; (case k1 => k_asm); (case k2 => k_asm); (case k3 => k_asm); (case k4 => walk_at "MY mem"); (case k5 => assumption)); intro _ _ _ _) | ((with_reducible show wpAny _ _ (getMethod _ _ _) _ _ _); k_here; k_dflt (refine' method_type ?F ?X ?m (by decide +kernel) ?e ?h ?_; (case F => k_asm); (case X => k_asm); (case m => exact meta_exc); (case e => k_is); (case h => k_handed))) | walk1 | (dsimp only; walk1) | (leave1; try dsimp only) | fail "no step"))
  rename Fr h₀ L _ _ => F9
  rename News h₀ L _ _ => N9
  rename FaultO _ _ _ _ _ => O9
  exact hret _ _ _ _ F9 N9 (O9.up FG') hlt1
end
section
/-- a call that raises the text's own fault -/
def SpecE (w : World) (c : Nat) (f : Addr) (vs : List Value) (news : Led) : Prop :=
  ∀ (dp un : Nat) (gd : Option (List Code)) (env : Env) (outer : List Env) (A₀ : Around) (mean : ExcName → Option Value) (mg mb : Ns) (base h₀ : Heap) (L : Addr) (m : Ns) (s : Shared) (Q E : Value → Shared → Prop),
    Below A₀ base outer h₀ → Fr h₀ L s.heap m → (hdHeap w.params).In h₀ → News h₀ L s.heap news → TopC mean mg mb h₀ → env.frame = some L → env.scope.kind = .function →
    dp + c < recursionLimit → un + 10 * c + 10 < cLine →
    (∀ e G h' tk', Fr h₀ L G m → RaisedT base G (env :: outer) e news h' → G.UpToSlots h' → E (.ref e) { s with heap := h', toks := tk' }) →
    wpAny (model PG w) (arnd dp un gd env outer) (call (.ref f) vs) Q E s
theorem SpecE.call {w : World} {c : Nat} {f : Addr} {vs : List Value} {news : Led} (S : SpecE w c f vs news) {dp un : Nat} {gd : Option (List Code)} {env : Env} {outer : List Env} {A₀ : Around} {mean : ExcName → Option Value} {mg mb : Ns} {base h₀ : Heap} {L : Addr} {m : Ns} {s : Shared} {Q E : Value → Shared → Prop}
    (B : Below A₀ base outer h₀) (F : Fr h₀ L s.heap m) (X : (hdHeap w.params).In h₀) (N : News h₀ L s.heap news) (T : TopC mean mg mb h₀) (hf : env.frame = some L) (hk : env.scope.kind = .function)
    (hdp : dp + c < recursionLimit) (hun : un + 10 * c + 10 < cLine)
    (h : ∀ e G h' tk', Fr h₀ L G m → RaisedT base G (env :: outer) e news h' → G.UpToSlots h' → E (.ref e) { s with heap := h', toks := tk' }) :
    wpAny (model PG w) (arnd dp un gd env outer) (call (.ref f) vs) Q E s := S dp un gd env outer A₀ mean mg mb base h₀ L m s Q E B F X N T hf hk hdp hun h
theorem raise_post {w : World} {E : Value → Shared → Prop} {s : Shared} {g : Heap} {L e : Addr} {m mA : Ns} (F : Fr g L s.heap m) (X : (hdHeap w.params).In g) (O : FaultO g s.heap L e mA) (h : E (.ref e) s) : RaisePost E (.ref e) s := by
  obtain ⟨oe, a0, h1, h2, h3, _⟩ := O
  exact ⟨e, oe, a0, rfl, fault_at (X.keeps F.keep), h1, h2, h3, h⟩
set_option maxRecDepth 100000 in
set_option maxHeartbeats 2000000 in
theorem seeker_empty_spec (w : World) (o : List UInt8) (kind : Kind) (hkc : kind ≠ .chars) (t1 t2 t3 : Tok) (v4 v5 : Value) (news : Led) (ho : o.length ≤ 1000) :
    SpecE w 16 146 [.bytes o.toArray t1, .str kind.str t2, .bytes #[] t3, v4, v5] news := by
  unfold SpecE
  intro dp un gd env outer A₀ mean mg mb base h₀ L m s Q E B F X N T hf hk hdp hun hret
  ((have fill : (∀ w : World, (Mine.hdHeap w.params) = (Mine.hdHeap w.params)) ∧ PySem.Challenge.rw_og0077_01.Holds → True := by ((first | k_fill | skip); exact fun _ => trivial)); clear fill)
  have hE : Enter [(Str.ofString "octets", .bytes o.toArray t1), (Str.ofString "kind", .str kind.str t2), (Str.ofString "wanted", .bytes #[] t3), (Str.ofString "before", v4), (Str.ofString "after", v5)] (fun y => List.lookup y [(Str.ofString "after", v5), (Str.ofString "before", v4), (Str.ofString "wanted", .bytes #[] t3), (Str.ofString "kind", .str kind.str t2), (Str.ofString "octets", .bytes o.toArray t1)]) := ⟨⟩
  cases kind <;> dsimp only [Kind.str] at hE ⊢
  · (k_dflt (refine' enter_plain (by assumption) ?k1 ?k2 ?k3 ?k4 ?k5 ?kF ?kK ?k6 ?k7 ?k8 ?k9 ?kB ?km ?_ ?c2 ?c3 ?c4 ?c5; (case kF => assumption); (case kK => assumption); (case k1 => k_asm); (case k2 => k_asm); (case k3 => k_asm); (case k4 => k_asm); (case k5 => k_asm); (case k6 => k_is); (case k7 => k_is); (case k8 => ktr_room); (case k9 => exact BindsTo.of_eq rfl); (case km => exact rfl); (case c5 => decide); (case kB => exact locs rfl); (case c2 => exact rfl); (case c3 => exact rfl); (case c4 => exact rfl); k_whole; intro _ _ _ _ _ _ _ _ _ _; (try dsimp only); (try k_fold)))
    rename_i g1 L1 h1 FG1 F1 N1 B1 X1 T1 lt1
    (repeat' (first | (k_unfold; (try dsimp only)) | (k_end; wrow_close) | ((with_reducible show wpAny _ _ (call _ _) _ _ _); k_here; (try dsimp only); (with_reducible show wpAny _ _ (call (Value.ref 60) _) _ _ _); k_dflt (refine' fault_call _ _ _ ?k1 ?k2 ?k3 ?k4 ?k5 ?k6 ?k7 ?k8 ?k9 ?_; (case k1 => k_asm); (case k2 => k_asm); (case k3 => k_asm); (case k4 => k_asm); (case k5 => k_asm); (case k6 => first | assumption | exact rfl); (case k7 => first | assumption | exact rfl); (case k8 => ktr_room); (case k9 => ktr_units)); intro _ _ _ _ _ _ _ _) | ((with_reducible show wpAny _ _ (exec (Stmt.Raise _ _ _) _) _ _ _); k_here; refine raise_fault rfl ?_) | (k_here; (with_reducible show wpAny _ _ (call (Value.ref 135) _) _ _ _); k_dflt (refine' call_cls ?k1 ?k2 ?k3 ?k4 ?k5 ?k6 ?_; (case k1 => k_asm); (case k2 => k_asm); (case k3 => k_asm); (case k4 => k_is); (case k5 => k_is); (case k6 => k_is); k_whole; intro _ _ _ _ _ l1 l2; (try k_lt l1); (try k_lt2 l2); (try k_sweep); refine' code_def ?k1 ?k2 ?k3 ?k4 ?k5 ?kA ?kF ?kK ?k6 ?k7 ?k8 ?k9 ?kB ?_ ?c2 ?c3 ?c4 ?c5; (case kA => exact rfl); (case kF => exact rfl); (case kK => first | exact rfl | assumption); (case k1 => k_asm); (case k2 => k_asm); (case k3 => k_asm); (case k4 => k_asm); (case k5 => k_asm); (case k6 => k_is); (case k7 => k_is); (case k8 => ktr_room); (case k9 => exact BindsTo.of_eq rfl); (case c5 => decide); (case kB => exact locs rfl); (case c2 => exact rfl); (case c3 => exact rfl); (case c4 => exact rfl); k_whole; intro _ _ _ _ _ _ _ _ _; (try dsimp only); (try k_fold))) | walk1 | (dsimp only; walk1) | (leave1; try dsimp only) | fail "no step"))
    rename Fr _ _ _ _ => F9
    rename News _ _ _ _ => N9
    rename FaultO _ _ _ _ _ => O9
    rename ∀ (p : Addr × Obj), p ∈ _ → p.1 < _ => lt9
    refine raise_post F9 X1 O9 ?_
    exact leave_raiseT B1 F9 (led_less N9 (fun p hp => .tail _ hp)) O9 (fun p hp => lt9 p (.tail _ hp)) rfl rfl fun h' R U => hret _ _ _ _ FG1 R U
  · (k_dflt (refine' enter_plain (by assumption) ?k1 ?k2 ?k3 ?k4 ?k5 ?kF ?kK ?k6 ?k7 ?k8 ?k9 ?kB ?km ?_ ?c2 ?c3 ?c4 ?c5; (case kF => assumption); (case kK => assumption); (case k1 => k_asm); (case k2 => k_asm); (case k3 => k_asm); (case k4 => k_asm); (case k5 => k_asm); (case k6 => k_is); (case k7 => k_is); (case k8 => ktr_room); (case k9 => exact BindsTo.of_eq rfl); (case km => exact rfl); (case c5 => decide); (case kB => exact locs rfl); (case c2 => exact rfl); (case c3 => exact rfl); (case c4 => exact rfl); k_whole; intro _ _ _ _ _ _ _ _ _ _; (try dsimp only); (try k_fold)))
    rename_i g1 L1 h1 FG1 F1 N1 B1 X1 T1 lt1
    (repeat' (first | (k_unfold; (try dsimp only)) | (k_end; wrow_close) | ((with_reducible show wpAny _ _ (call _ _) _ _ _); k_here; (try dsimp only); (with_reducible show wpAny _ _ (call (Value.ref 60) _) _ _ _); k_dflt (refine' fault_call _ _ _ ?k1 ?k2 ?k3 ?k4 ?k5 ?k6 ?k7 ?k8 ?k9 ?_; (case k1 => k_asm); (case k2 => k_asm); (case k3 => k_asm); (case k4 => k_asm); (case k5 => k_asm); (case k6 => first | assumption | exact rfl); (case k7 => first | assumption | exact rfl); (case k8 => ktr_room); (case k9 => ktr_units)); intro _ _ _ _ _ _ _ _) | ((with_reducible show wpAny _ _ (exec (Stmt.Raise _ _ _) _) _ _ _); k_here; refine raise_fault rfl ?_) | (k_here; (with_reducible show wpAny _ _ (call (Value.ref 135) _) _ _ _); k_dflt (refine' call_cls ?k1 ?k2 ?k3 ?k4 ?k5 ?k6 ?_; (case k1 => k_asm); (case k2 => k_asm); (case k3 => k_asm); (case k4 => k_is); (case k5 => k_is); (case k6 => k_is); k_whole; intro _ _ _ _ _ l1 l2; (try k_lt l1); (try k_lt2 l2); (try k_sweep); refine' code_def ?k1 ?k2 ?k3 ?k4 ?k5 ?kA ?kF ?kK ?k6 ?k7 ?k8 ?k9 ?kB ?_ ?c2 ?c3 ?c4 ?c5; (case kA => exact rfl); (case kF => exact rfl); (case kK => first | exact rfl | assumption); (case k1 => k_asm); (case k2 => k_asm); (case k3 => k_asm); (case k4 => k_asm); (case k5 => k_asm); (case k6 => k_is); (case k7 => k_is); (case k8 => ktr_room); (case k9 => exact BindsTo.of_eq rfl); (case c5 => decide); (case kB => exact locs rfl); (case c2 => exact rfl); (case c3 => exact rfl); (case c4 => exact rfl); k_whole; intro _ _ _ _ _ _ _ _ _; (try dsimp only); (try k_fold))) | walk1 | (dsimp only; walk1) | (leave1; try dsimp only) | fail "no step"))
    rename Fr _ _ _ _ => F9
    rename News _ _ _ _ => N9
    rename FaultO _ _ _ _ _ => O9
    rename ∀ (p : Addr × Obj), p ∈ _ → p.1 < _ => lt9
    refine raise_post F9 X1 O9 ?_
    exact leave_raiseT B1 F9 (led_less N9 (fun p hp => .tail _ hp)) O9 (fun p hp => lt9 p (.tail _ hp)) rfl rfl fun h' R U => hret _ _ _ _ FG1 R U
  · (k_dflt (refine' enter_plain (by assumption) ?k1 ?k2 ?k3 ?k4 ?k5 ?kF ?kK ?k6 ?k7 ?k8 ?k9 ?kB ?km ?_ ?c2 ?c3 ?c4 ?c5; (case kF => assumption); (case kK => assumption); (case k1 => k_asm); (case k2 => k_asm); (case k3 => k_asm); (case k4 => k_asm); (case k5 => k_asm); (case k6 => k_is); (case k7 => k_is); (case k8 => ktr_room); (case k9 => exact BindsTo.of_eq rfl); (case km => exact rfl); (case c5 => decide); (case kB => exact locs rfl); (case c2 => exact rfl); (case c3 => exact rfl); (case c4 => exact rfl); k_whole; intro _ _ _ _ _ _ _ _ _ _; (try dsimp only); (try k_fold)))
    rename_i g1 L1 h1 FG1 F1 N1 B1 X1 T1 lt1
    (repeat' (first | (k_unfold; (try dsimp only)) | (k_end; wrow_close) | ((with_reducible show wpAny _ _ (call _ _) _ _ _); k_here; (try dsimp only); (with_reducible show wpAny _ _ (call (Value.ref 60) _) _ _ _); k_dflt (refine' fault_call _ _ _ ?k1 ?k2 ?k3 ?k4 ?k5 ?k6 ?k7 ?k8 ?k9 ?_; (case k1 => k_asm); (case k2 => k_asm); (case k3 => k_asm); (case k4 => k_asm); (case k5 => k_asm); (case k6 => first | assumption | exact rfl); (case k7 => first | assumption | exact rfl); (case k8 => ktr_room); (case k9 => ktr_units)); intro _ _ _ _ _ _ _ _) | ((with_reducible show wpAny _ _ (exec (Stmt.Raise _ _ _) _) _ _ _); k_here; refine raise_fault rfl ?_) | (k_here; (with_reducible show wpAny _ _ (call (Value.ref 135) _) _ _ _); k_dflt (refine' call_cls ?k1 ?k2 ?k3 ?k4 ?k5 ?k6 ?_; (case k1 => k_asm); (case k2 => k_asm); (case k3 => k_asm); (case k4 => k_is); (case k5 => k_is); (case k6 => k_is); k_whole; intro _ _ _ _ _ l1 l2; (try k_lt l1); (try k_lt2 l2); (try k_sweep); refine' code_def ?k1 ?k2 ?k3 ?k4 ?k5 ?kA ?kF ?kK ?k6 ?k7 ?k8 ?k9 ?kB ?_ ?c2 ?c3 ?c4 ?c5; (case kA => exact rfl); (case kF => exact rfl); (case kK => first | exact rfl | assumption); (case k1 => k_asm); (case k2 => k_asm); (case k3 => k_asm); (case k4 => k_asm); (case k5 => k_asm); (case k6 => k_is); (case k7 => k_is); (case k8 => ktr_room); (case k9 => exact BindsTo.of_eq rfl); (case c5 => decide); (case kB => exact locs rfl); (case c2 => exact rfl); (case c3 => exact rfl); (case c4 => exact rfl); k_whole; intro _ _ _ _ _ _ _ _ _; (try dsimp only); (try k_fold))) | walk1 | (dsimp only; walk1) | (leave1; try dsimp only) | fail "no step"))
    rename Fr _ _ _ _ => F9
    rename News _ _ _ _ => N9
    rename FaultO _ _ _ _ _ => O9
    rename ∀ (p : Addr × Obj), p ∈ _ → p.1 < _ => lt9
    refine raise_post F9 X1 O9 ?_
    exact leave_raiseT B1 F9 (led_less N9 (fun p hp => .tail _ hp)) O9 (fun p hp => lt9 p (.tail _ hp)) rfl rfl fun h' R U => hret _ _ _ _ FG1 R U
  · exact absurd rfl hkc
set_option maxRecDepth 100000 in
set_option maxHeartbeats 2000000 in
theorem seeker_some_spec (w : World) (o : List UInt8) (t1 t2 : Tok) (v3 v4 v5 : Value) (news : Led) (ho : o.length ≤ 1000) :
    SpecE w 16 146 [.bytes o.toArray t1, .str (Str.ofString "SOME") t2, v3, v4, v5] news := by
  unfold SpecE
  intro dp un gd env outer A₀ mean mg mb base h₀ L m s Q E B F X N T hf hk hdp hun hret
  ((have fill : (∀ w : World, (Mine.hdHeap w.params) = (Mine.hdHeap w.params)) ∧ PySem.Challenge.rw_og0077_01.Holds → True := by ((first | k_fill | skip); exact fun _ => trivial)); clear fill)
  have hE : Enter [(Str.ofString "octets", .bytes o.toArray t1), (Str.ofString "kind", .str (Str.ofString "SOME") t2), (Str.ofString "wanted", v3), (Str.ofString "before", v4), (Str.ofString "after", v5)] (fun y => List.lookup y [(Str.ofString "after", v5), (Str.ofString "before", v4), (Str.ofString "wanted", v3), (Str.ofString "kind", .str (Str.ofString "SOME") t2), (Str.ofString "octets", .bytes o.toArray t1)]) := ⟨⟩
  (k_dflt (refine' enter_plain (by assumption) ?k1 ?k2 ?k3 ?k4 ?k5 ?kF ?kK ?k6 ?k7 ?k8 ?k9 ?kB ?km ?_ ?c2 ?c3 ?c4 ?c5; (case kF => assumption); (case kK => assumption); (case k1 => k_asm); (case k2 => k_asm); (case k3 => k_asm); (case k4 => k_asm); (case k5 => k_asm); (case k6 => k_is); (case k7 => k_is); (case k8 => ktr_room); (case k9 => exact BindsTo.of_eq rfl); (case km => exact rfl); (case c5 => decide); (case kB => exact locs rfl); (case c2 => exact rfl); (case c3 => exact rfl); (case c4 => exact rfl); k_whole; intro _ _ _ _ _ _ _ _ _ _; (try dsimp only); (try k_fold)))
  rename_i g1 L1 h1 FG1 F1 N1 B1 X1 T1 lt1
  (repeat' (first | (k_unfold; (try dsimp only)) | (k_end; wrow_close) | ((with_reducible show wpAny _ _ (call _ _) _ _ _); k_here; (try dsimp only); (with_reducible show wpAny _ _ (call (Value.ref 60) _) _ _ _); k_dflt (refine' fault_call _ _ _ ?k1 ?k2 ?k3 ?k4 ?k5 ?k6 ?k7 ?k8 ?k9 ?_; (case k1 => k_asm); (case k2 => k_asm); (case k3 => k_asm); (case k4 => k_asm); (case k5 => k_asm); (case k6 => first | assumption | exact rfl); (case k7 => first | assumption | exact rfl); (case k8 => ktr_room); (case k9 => ktr_units)); intro _ _ _ _ _ _ _ _) | ((with_reducible show wpAny _ _ (exec (Stmt.Raise _ _ _) _) _ _ _); k_here; refine raise_fault rfl ?_) | (k_here; (with_reducible show wpAny _ _ (call (Value.ref 135) _) _ _ _); k_dflt (refine' call_cls ?k1 ?k2 ?k3 ?k4 ?k5 ?k6 ?_; (case k1 => k_asm); (case k2 => k_asm); (case k3 => k_asm); (case k4 => k_is); (case k5 => k_is); (case k6 => k_is); k_whole; intro _ _ _ _ _ l1 l2; (try k_lt l1); (try k_lt2 l2); (try k_sweep); refine' code_def ?k1 ?k2 ?k3 ?k4 ?k5 ?kA ?kF ?kK ?k6 ?k7 ?k8 ?k9 ?kB ?_ ?c2 ?c3 ?c4 ?c5; (case kA => exact rfl); (case kF => exact rfl); (case kK => first | exact rfl | assumption); (case k1 => k_asm); (case k2 => k_asm); (case k3 => k_asm); (case k4 => k_asm); (case k5 => k_asm); (case k6 => k_is); (case k7 => k_is); (case k8 => ktr_room); (case k9 => exact BindsTo.of_eq rfl); (case c5 => decide); (case kB => exact locs rfl); (case c2 => exact rfl); (case c3 => exact rfl); (case c4 => exact rfl); k_whole; intro _ _ _ _ _ _ _ _ _; (try dsimp only); (try k_fold))) | walk1 | (dsimp only; walk1) | (leave1; try dsimp only) | fail "no step"))
  rename Fr _ _ _ _ => F9
  rename News _ _ _ _ => N9
  rename FaultO _ _ _ _ _ => O9
  rename ∀ (p : Addr × Obj), p ∈ _ → p.1 < _ => lt9
  refine raise_post F9 X1 O9 ?_
  exact leave_raiseT B1 F9 (led_less N9 (fun p hp => .tail _ hp)) O9 (fun p hp => lt9 p (.tail _ hp)) rfl rfl fun h' R U => hret _ _ _ _ FG1 R U
end
section
set_option maxRecDepth 100000 in
set_option maxHeartbeats 2000000 in
theorem tallied_bad (w : World) (o : List UInt8) (to t1 : Tok) (ks : Str) (v3 v4 v5 : Value) (rl T1 : Addr) (rn : Nat) (news : Led) (hS : ∀ nw, SpecE w 16 146 [.bytes o.toArray to, .str ks t1, v3, v4, v5] nw) (hm : (rl, listOf #[.ref T1] rn) ∈ news) (hT : (T1, tupOf [.str ks t1, v3, v4, v5]) ∈ news) :
    SpecE w 20 158 [.bytes o.toArray to, .ref rl] news := by
  unfold SpecE
  intro dp un gd env outer A₀ mean mg mb base h₀ L m s Q E B F X N T hf hk hdp hun hret
  ((have fill : (∀ w : World, (Mine.hdHeap w.params) = (Mine.hdHeap w.params)) ∧ PySem.Challenge.rw_og0077_01.Holds → True := by ((first | k_fill | skip); exact fun _ => trivial)); clear fill)
  have hE : Enter [(Str.ofString "octets", .bytes o.toArray to), (Str.ofString "rows", .ref rl)] (fun y => if y = Str.ofString "rows" then some (.ref rl) else none) := ⟨⟩
  (k_dflt (refine' enter_cells (by assumption) ?k1 ?k2 ?k3 ?k4 ?k5 ?kF ?kK ?k6 ?k7 ?k8 ?k9 ?kB ?kD ?km ?_ ?c2 ?c3 ?c4; (case kF => assumption); (case kK => assumption); (case k1 => k_asm); (case k2 => k_asm); (case k3 => k_asm); (case k4 => k_asm); (case k5 => k_asm); (case k6 => k_is); (case k7 => k_is); (case k8 => ktr_room); (case k9 => exact BindsTo.of_eq rfl); (case kB => exact rfl); (case kD => decide +kernel); (case km => intro _; exact rfl); (case c2 => exact rfl); (case c3 => exact rfl); (case c4 => exact rfl); k_whole; intro _ _ _ _ _ _ _ N' Y' _ _ _ _; k_cells Y'; (try simp only [List.cons_append, List.nil_append] at N'); (try dsimp only); (try k_fold)))
  (repeat' (first | (k_unfold; (try dsimp only)) | (k_end; wrow_close) | ((with_reducible show wpAny _ _ (exec (Stmt.Assign _ (Expr.ListComp _ _ _ _) _) _) _ _ _); k_here; k_dflt (refine comp_assign_raise (by k_asm) (by k_asm) (by with_unfolding_all rfl) (by with_unfolding_all rfl) (by decide) (by rfl) (by decide) (by rfl) (by rfl) ?_)) | walk1 | (dsimp only; walk1) | (leave1; try dsimp only) | fail "no step"))
  rename Fr _ _ _ _ => F1
  rename News _ _ _ _ => N1
  rename_i g1 L1 h1 tk1 FG1 B1 X1 T1' lt1 o1 d1
  replace d1 : o1.data = .cell (some (.bytes o.toArray to)) := d1
  have hm1 : (rl, listOf (List.toArray [.ref T1]) rn) ∈ (L1 + 1, o1) :: news := .tail _ hm
  refine ⟨_, fun i v => [Value.ref T1][i]? = some v, _, (L1 + 1, o1) :: news,
    fun v m => m (Str.ofString "kind") = some (.str ks t1) ∧ m (Str.ofString "wanted") = some v3 ∧ m (Str.ofString "before") = some v4 ∧ m (Str.ofString "after") = some v5,
    Src.list rfl N1 hm1, F1, N1, fun s₂ => ⟨fun p hp => hp, Nat.zero_lt_one, ?_, ?_⟩, ?_⟩
  · intro v C s' m' Q' E' hP hn hkeep h
    have hv : v = .ref T1 := (Option.some.inj hP).symm
    subst hv
    refine binds_tuple [(_, _), (_, _), (_, _), (_, _)] rfl (by decide) rfl T1 _ C s' m' Q' E' ⟨_, hkeep _ (.tail _ hT), rfl, _, rfl⟩ rfl hn (fun _ => rfl) (fun _ => rfl) fun h'' tk'' hn'' hk'' => ?_
    exact h h'' tk'' _ hn'' ⟨rfl, rfl, rfl, rfl⟩ hk''
  · rintro v I oI C oC D m₂ h tk Q' E' hP hC ⟨b1, b2, b3, b4⟩ F2 N2 off ne hE'
    (repeat' (first | (k_unfold; (try dsimp only)) | (k_end; wrow_close) | ((with_reducible show wpAny _ _ (exec (Stmt.Assign _ (Expr.ListComp _ _ _ _) _) _) _ _ _); k_here; k_dflt (refine comp_assign_raise (by k_asm) (by k_asm) (by with_unfolding_all rfl) (by with_unfolding_all rfl) (by decide) (by rfl) (by decide) (by rfl) (by rfl) ?_)) | walk1 | (dsimp only; walk1) | (leave1; try dsimp only) | fail "no step"))
    rename Fr _ _ _ _ => F9
    rename News _ _ _ _ => N9
    exact SpecE.call (hS _) (by k_asm) F9 (by k_asm) N9 (by k_asm) rfl rfl (by ktr_room) (by ktr_units) fun e G h' tk' FG R U => hE' e G h' tk' FG R U
  · intro e G h' tk' FG H U
    exact leave_heldT B1 FG (H.less fun p hp => .tail _ hp) U rfl fun h' R U => hret _ _ _ _ FG1 R U
set_option maxRecDepth 100000 in
set_option maxHeartbeats 2000000 in
theorem replaced_bad (w : World) (o : List UInt8) (to t1 : Tok) (ks : Str) (v3 v4 v5 v6 : Value) (rl T1 : Addr) (rn : Nat) (news : Led) (hS : ∀ nw, SpecE w 16 146 [.bytes o.toArray to, .str ks t1, v3, v4, v5] nw) (hm : (rl, listOf #[.ref T1] rn) ∈ news) (hT : (T1, tupOf [.str ks t1, v3, v6, v4, v5]) ∈ news) :
    SpecE w 20 163 [.bytes o.toArray to, .ref rl] news := by
  unfold SpecE
  intro dp un gd env outer A₀ mean mg mb base h₀ L m s Q E B F X N T hf hk hdp hun hret
  ((have fill : (∀ w : World, (Mine.hdHeap w.params) = (Mine.hdHeap w.params)) ∧ PySem.Challenge.rw_og0077_01.Holds → True := by ((first | k_fill | skip); exact fun _ => trivial)); clear fill)
  have hE : Enter [(Str.ofString "octets", .bytes o.toArray to), (Str.ofString "rows", .ref rl)] (fun y => if y = Str.ofString "rows" then some (.ref rl) else none) := ⟨⟩
  (k_dflt (refine' enter_cells (by assumption) ?k1 ?k2 ?k3 ?k4 ?k5 ?kF ?kK ?k6 ?k7 ?k8 ?k9 ?kB ?kD ?km ?_ ?c2 ?c3 ?c4; (case kF => assumption); (case kK => assumption); (case k1 => k_asm); (case k2 => k_asm); (case k3 => k_asm); (case k4 => k_asm); (case k5 => k_asm); (case k6 => k_is); (case k7 => k_is); (case k8 => ktr_room); (case k9 => exact BindsTo.of_eq rfl); (case kB => exact rfl); (case kD => decide +kernel); (case km => intro _; exact rfl); (case c2 => exact rfl); (case c3 => exact rfl); (case c4 => exact rfl); k_whole; intro _ _ _ _ _ _ _ N' Y' _ _ _ _; k_cells Y'; (try simp only [List.cons_append, List.nil_append] at N'); (try dsimp only); (try k_fold)))
  (repeat' (first | (k_unfold; (try dsimp only)) | (k_end; wrow_close) | ((with_reducible show wpAny _ _ (exec (Stmt.Assign _ (Expr.ListComp _ _ _ _) _) _) _ _ _); k_here; k_dflt (refine comp_assign_raise (by k_asm) (by k_asm) (by with_unfolding_all rfl) (by with_unfolding_all rfl) (by decide) (by rfl) (by decide) (by rfl) (by rfl) ?_)) | walk1 | (dsimp only; walk1) | (leave1; try dsimp only) | fail "no step"))
  rename Fr _ _ _ _ => F1
  rename News _ _ _ _ => N1
  rename_i g1 L1 h1 tk1 FG1 B1 X1 T1' lt1 o1 d1
  replace d1 : o1.data = .cell (some (.bytes o.toArray to)) := d1
  have hm1 : (rl, listOf (List.toArray [.ref T1]) rn) ∈ (L1 + 1, o1) :: news := .tail _ hm
  refine ⟨_, fun i v => [Value.ref T1][i]? = some v, _, (L1 + 1, o1) :: news,
    fun v m => m (Str.ofString "kind") = some (.str ks t1) ∧ m (Str.ofString "wanted") = some v3 ∧ m (Str.ofString "before") = some v4 ∧ m (Str.ofString "after") = some v5,
    Src.list rfl N1 hm1, F1, N1, fun s₂ => ⟨fun p hp => hp, Nat.zero_lt_one, ?_, ?_⟩, ?_⟩
  · intro v C s' m' Q' E' hP hn hkeep h
    have hv : v = .ref T1 := (Option.some.inj hP).symm
    subst hv
    refine binds_tuple [(_, _), (_, _), (_, _), (_, _), (_, _)] rfl (by decide) rfl T1 _ C s' m' Q' E' ⟨_, hkeep _ (.tail _ hT), rfl, _, rfl⟩ rfl hn (fun _ => rfl) (fun _ => rfl) fun h'' tk'' hn'' hk'' => ?_
    exact h h'' tk'' _ hn'' ⟨rfl, rfl, rfl, rfl⟩ hk''
  · rintro v I oI C oC D m₂ h tk Q' E' hP hC ⟨b1, b2, b3, b4⟩ F2 N2 off ne hE'
    (repeat' (first | (k_unfold; (try dsimp only)) | (k_end; wrow_close) | ((with_reducible show wpAny _ _ (exec (Stmt.Assign _ (Expr.ListComp _ _ _ _) _) _) _ _ _); k_here; k_dflt (refine comp_assign_raise (by k_asm) (by k_asm) (by with_unfolding_all rfl) (by with_unfolding_all rfl) (by decide) (by rfl) (by decide) (by rfl) (by rfl) ?_)) | walk1 | (dsimp only; walk1) | (leave1; try dsimp only) | fail "no step"))
    rename Fr _ _ _ _ => F9
    rename News _ _ _ _ => N9
    exact SpecE.call (hS _) (by k_asm) F9 (by k_asm) N9 (by k_asm) rfl rfl (by ktr_room) (by ktr_units) fun e G h' tk' FG R U => hE' e G h' tk' FG R U
  · intro e G h' tk' FG H U
    exact leave_heldT B1 FG (H.less fun p hp => .tail _ hp) U rfl fun h' R U => hret _ _ _ _ FG1 R U
end
section
set_option maxRecDepth 100000 in
set_option maxHeartbeats 4000000 in
theorem replaced_len (w : World) (o : List UInt8) (rows : List Row) (to : Tok) (rl : Addr) (rn : Nat) (vals : List Value) (news : Led) (ho : o.length ≤ 1000) (hrl : rows.length ≤ 100) (hrp : 0 < rows.length) (hok : ∀ r ∈ rows, r.ok) (hm : (rl, listOf vals.toArray rn) ∈ news) (hv : AllIn (XRow news) vals rows) (hb : ∀ r ∈ rows, r.given.length ≠ (r.fresh o).width) (hgl0 : ∀ r ∈ rows, r.given.length ≤ 1000) :
    SpecE w 20 163 [.bytes o.toArray to, .ref rl] news := by
  unfold SpecE
  intro dp un gd env outer A₀ mean mg mb base h₀ L m s Q E B F X N T hf hk hdp hun hret
  ((have fill : (∀ w : World, (Mine.hdHeap w.params) = (Mine.hdHeap w.params)) ∧ PySem.Challenge.rw_og0077_01.Holds → True := by ((first | k_fill | skip); exact fun _ => trivial)); clear fill)
  have hE : Enter [(Str.ofString "octets", .bytes o.toArray to), (Str.ofString "rows", .ref rl)] (fun y => if y = Str.ofString "rows" then some (.ref rl) else none) := ⟨⟩
  (k_dflt (refine' enter_cells (by assumption) ?k1 ?k2 ?k3 ?k4 ?k5 ?kF ?kK ?k6 ?k7 ?k8 ?k9 ?kB ?kD ?km ?_ ?c2 ?c3 ?c4; (case kF => assumption); (case kK => assumption); (case k1 => k_asm); (case k2 => k_asm); (case k3 => k_asm); (case k4 => k_asm); (case k5 => k_asm); (case k6 => k_is); (case k7 => k_is); (case k8 => ktr_room); (case k9 => exact BindsTo.of_eq rfl); (case kB => exact rfl); (case kD => decide +kernel); (case km => intro _; exact rfl); (case c2 => exact rfl); (case c3 => exact rfl); (case c4 => exact rfl); k_whole; intro _ _ _ _ _ _ _ N' Y' _ _ _ _; k_cells Y'; (try simp only [List.cons_append, List.nil_append] at N'); (try dsimp only); (try k_fold)))
  (repeat' (first | (k_unfold; (try dsimp only)) | (k_end; wrow_close) | ((with_reducible show wpAny _ _ (call _ _) _ _ _); k_here; (try dsimp only); (with_reducible show wpAny _ _ (call (Value.ref 60) _) _ _ _); k_dflt (refine' fault_call _ _ _ ?k1 ?k2 ?k3 ?k4 ?k5 ?k6 ?k7 ?k8 ?k9 ?_; (case k1 => k_asm); (case k2 => k_asm); (case k3 => k_asm); (case k4 => k_asm); (case k5 => k_asm); (case k6 => first | assumption | exact rfl); (case k7 => first | assumption | exact rfl); (case k8 => ktr_room); (case k9 => ktr_units)); intro _ _ _ _ _ _ _ _) | ((with_reducible show wpAny _ _ (exec (Stmt.Raise _ _ _) _) _ _ _); k_here; refine raise_fault rfl ?_) | ((with_reducible show wpAny _ _ (call _ _) _ _ _); k_here; (try dsimp only); (with_reducible show wpAny _ _ (call (Value.ref 146) _) _ _ _); k_dflt (refine' Spec.callB (seeker_of_spec _ _ _ _ _ _ _ _ _ _ _ _ ?e0 ?e1 ?e2 ?e3 ?e4) ?k1 ?k2 ?k3 ?k4 ?k5 ?k6 ?k7 ?k8 ?k9 ?ka ?kb ?kc ?_; (case k1 => k_asm); (case k2 => k_asm); (case k3 => k_asm); (case k4 => k_asm); (case k5 => k_asm); (case k6 => first | assumption | exact rfl); (case k7 => first | assumption | exact rfl); (case k8 => k_asm); (case k9 => k_asm); (case ka => rfl); (case kb => rfl); (case kc => exact Nat.le_of_ble_eq_true rfl); (case e0 => assumption); (case e1 => assumption); (case e2 => assumption); (case e3 => assumption); (case e4 => assumption); k_whole; intro _ _ _ _ _ _ _; (try dsimp only); (try k_fold))) | ((with_reducible show wpAny _ _ (call _ _) _ _ _); k_here; (try dsimp only); (with_reducible show wpAny _ _ (call (Value.ref 111) _) _ _ _); k_dflt (refine' Spec.callB (width_at _ _ _ _ ?e0 ?e1) ?k1 ?k2 ?k3 ?k4 ?k5 ?k6 ?k7 ?k8 ?k9 ?ka ?kb ?kc ?_; (case k1 => k_asm); (case k2 => k_asm); (case k3 => k_asm); (case k4 => k_asm); (case k5 => k_asm); (case k6 => first | assumption | exact rfl); (case k7 => first | assumption | exact rfl); (case k8 => k_asm); (case k9 => k_asm); (case ka => rfl); (case kb => rfl); (case kc => exact Nat.le_of_ble_eq_true rfl); (case e0 => first | exact rfl | assumption); (case e1 => assumption); k_whole; intro v9 nw9 h9 tk9 hr9 F9 N9; (obtain ⟨e9, t8, e8⟩ := hr9; subst e8; replace N9 := cb_drop N9 e9; clear e9); revert nw9 h9 tk9 F9 N9 t8; intros; (try dsimp only); (try k_fold))) | (k_here; (with_reducible show wpAny _ _ (call (Value.type "enumerate") [Value.ref _]) _ _ _); refine enum_call ?_) | (k_here; (with_reducible show wpAny _ _ (exec (Stmt.For _ (Expr.Call (Expr.Name (Str.ofString "enumerate") _) _ _ _) _ _ _) _) _ _ _); k_dflt (refine' for_turns ?k1 ?_; (case k1 => k_asm))) | ((with_reducible show wpAny _ _ (exec (Stmt.For (Expr.Tuple _ _ _) (Expr.Call _ _ _ _) _ _ _) _) _ _ _); k_here; k_dflt (refine' for_src ?k1 ?_; (case k1 => k_asm))) | ((with_reducible show wpAny _ _ (binaryOp Operator.Add (Value.bytes _ _) (Value.bytes _ _)) _ _ _); k_here; (refine add_b (by first | assumption | (simp only [List.length_append, List.length_take, List.length_drop]; omega)) (by first | assumption | (simp only [List.length_append, List.length_take, List.length_drop]; omega)) ?_); intro _ _) | (k_here; (with_reducible show wpAny _ _ (subscriptTail _ (Expr.Slice _ none none _) (Value.bytes (List.toArray _) _) (Value.ref _)) _ _ _); (refine cut_from (s := ⟨_, _, _, _, _⟩) (by k_asm) (by k_asm) (by first | assumption | omega) (by omega) ?_); intro _ _ _ _ _) | (k_here; (with_reducible show wpAny _ _ (subscriptTail _ (Expr.Slice none _ none _) (Value.bytes (List.toArray _) _) (Value.ref _)) _ _ _); (refine cut_to (s := ⟨_, _, _, _, _⟩) (by k_asm) (by k_asm) (by first | assumption | omega) ?_); intro _ _ _ _ _) | (k_here; (with_reducible show wpAny _ _ (subscriptTail _ _ (Value.ref _) (Value.int 2 _)) _ _ _); (refine tup_at (i := 2) (s := ⟨_, _, _, _, _⟩) (by k_asm) (by walk_at "MY mem") (by decide) (by exact rfl) ?_)) | (k_here; (with_reducible show wpAny _ _ (subscriptTail _ _ (Value.ref _) (Value.int (Nat.cast _) _)) _ _ _); (refine item_at (s := ⟨_, _, _, _, _⟩) (by k_asm) (by walk_at "MY mem") (by first | assumption | omega) (by assumption) ?_)) | walk1 | (dsimp only; walk1) | (leave1; try dsimp only) | fail "no step"))
  rename Fr _ _ _ _ => F1
  rename News _ _ _ _ => N1
  rename_i g1 L1 h1 tk1 FG1 B1 X1 T1 lt1 o1 d1
  replace d1 : o1.data = .cell (some (.bytes o.toArray to)) := d1
  have hm1 : (rl, listOf vals.toArray rn) ∈ (L1 + 1, o1) :: news := .tail _ hm
  have hof := fun p (hp : p ∈ (L1 + 1, o1) :: news) => Heap.lt_size (N1 p hp).1
  refine ⟨vals.length, fun i v => vals[i]? = some v, _, _, fun i ys nw => ∃ ks : List SK, nw = ledAll w ks ++ ((L1 + 1, o1) :: news) ∧ ys = ks.map (fun k => Value.ref k.x) ∧ ks.map SK.abs = (rows.take i).map (Row.fresh o) ∧ Sep (ks.map SK.ad) ((L1 + 1, o1) :: news) ∧ ∀ a ∈ ks.map SK.ad, L1 + 1 < a.1 ∧ L1 + 1 < a.2,
    fun i v m => ∃ r t1 t2 t3 t4, rows[i]? = some r ∧ m (Str.ofString "kind") = some (.str r.kind.str t1) ∧ m (Str.ofString "wanted") = some (wvOf r.kind r.wanted t2) ∧ m (Str.ofString "before") = some (vOpt r.before t3) ∧ m (Str.ofString "after") = some (vOpt r.after t4),
    Src.list rfl N1 hm1, F1, N1, fun s₂ => ⟨?_, ?_, ?_, ?_, ?_⟩, ?_⟩
  · rintro i ys nw ⟨ks, rfl, _⟩ p hp
    exact List.mem_append_right _ hp
  · exact ⟨[], rfl, rfl, rfl, Sep.nil, fun a ha => by simp at ha⟩
  · rw [hv.1]; exact Nat.le_trans hrl (Nat.le_of_ble_eq_true rfl)
  · intro i v C s' m' Q' E' hi hP hn hkeep h
    obtain ⟨r, hr, T1, t1, t2, t3, t4, t5, rfl, hT⟩ := hv.get hP
    refine binds_tuple [(_, _), (_, _), (_, _), (_, _), (_, _)] rfl (by decide) rfl T1 _ C s' m' Q' E' ⟨_, hkeep _ (.tail _ hT), rfl, _, rfl⟩ rfl hn (fun _ => rfl) (fun _ => rfl) fun h'' tk'' hn'' hk'' => ?_
    exact h h'' tk'' _ hn'' ⟨r, t1, t2, t4, t5, hr, rfl, rfl, rfl, rfl⟩ hk''
  · rintro i v ys nw I oI C oC D m₂ h tk E' hi hP ⟨ks, rfl, rfl, habs, hS, hL⟩ hyl hC hB F2 N2 off ne
    refine ex5 hB fun r t1 t2 t3 t4 hB => ?_
    refine and5 hB fun hr b1 b2 b3 b4 => ?_
    clear hB
    clear hB
    obtain ⟨ok1, ok2, ok3, ok4⟩ := hok r (List.mem_of_getElem? hr)
    refine wpAny_pure ?_
    simp only [if_true]
    (repeat' (first | (k_unfold; (try dsimp only)) | (k_end; wrow_close) | ((with_reducible show wpAny _ _ (call _ _) _ _ _); k_here; (try dsimp only); (with_reducible show wpAny _ _ (call (Value.ref 60) _) _ _ _); k_dflt (refine' fault_call _ _ _ ?k1 ?k2 ?k3 ?k4 ?k5 ?k6 ?k7 ?k8 ?k9 ?_; (case k1 => k_asm); (case k2 => k_asm); (case k3 => k_asm); (case k4 => k_asm); (case k5 => k_asm); (case k6 => first | assumption | exact rfl); (case k7 => first | assumption | exact rfl); (case k8 => ktr_room); (case k9 => ktr_units)); intro _ _ _ _ _ _ _ _) | ((with_reducible show wpAny _ _ (exec (Stmt.Raise _ _ _) _) _ _ _); k_here; refine raise_fault rfl ?_) | ((with_reducible show wpAny _ _ (call _ _) _ _ _); k_here; (try dsimp only); (with_reducible show wpAny _ _ (call (Value.ref 146) _) _ _ _); k_dflt (refine' Spec.callB (seeker_of_spec _ _ _ _ _ _ _ _ _ _ _ _ ?e0 ?e1 ?e2 ?e3 ?e4) ?k1 ?k2 ?k3 ?k4 ?k5 ?k6 ?k7 ?k8 ?k9 ?ka ?kb ?kc ?_; (case k1 => k_asm); (case k2 => k_asm); (case k3 => k_asm); (case k4 => k_asm); (case k5 => k_asm); (case k6 => first | assumption | exact rfl); (case k7 => first | assumption | exact rfl); (case k8 => k_asm); (case k9 => k_asm); (case ka => rfl); (case kb => rfl); (case kc => exact Nat.le_of_ble_eq_true rfl); (case e0 => assumption); (case e1 => assumption); (case e2 => assumption); (case e3 => assumption); (case e4 => assumption); k_whole; intro _ _ _ _ _ _ _; (try dsimp only); (try k_fold))) | ((with_reducible show wpAny _ _ (call _ _) _ _ _); k_here; (try dsimp only); (with_reducible show wpAny _ _ (call (Value.ref 111) _) _ _ _); k_dflt (refine' Spec.callB (width_at _ _ _ _ ?e0 ?e1) ?k1 ?k2 ?k3 ?k4 ?k5 ?k6 ?k7 ?k8 ?k9 ?ka ?kb ?kc ?_; (case k1 => k_asm); (case k2 => k_asm); (case k3 => k_asm); (case k4 => k_asm); (case k5 => k_asm); (case k6 => first | assumption | exact rfl); (case k7 => first | assumption | exact rfl); (case k8 => k_asm); (case k9 => k_asm); (case ka => rfl); (case kb => rfl); (case kc => exact Nat.le_of_ble_eq_true rfl); (case e0 => first | exact rfl | assumption); (case e1 => assumption); k_whole; intro v9 nw9 h9 tk9 hr9 F9 N9; (obtain ⟨e9, t8, e8⟩ := hr9; subst e8; replace N9 := cb_drop N9 e9; clear e9); revert nw9 h9 tk9 F9 N9 t8; intros; (try dsimp only); (try k_fold))) | (k_here; (with_reducible show wpAny _ _ (call (Value.type "enumerate") [Value.ref _]) _ _ _); refine enum_call ?_) | (k_here; (with_reducible show wpAny _ _ (exec (Stmt.For _ (Expr.Call (Expr.Name (Str.ofString "enumerate") _) _ _ _) _ _ _) _) _ _ _); k_dflt (refine' for_turns ?k1 ?_; (case k1 => k_asm))) | ((with_reducible show wpAny _ _ (exec (Stmt.For (Expr.Tuple _ _ _) (Expr.Call _ _ _ _) _ _ _) _) _ _ _); k_here; k_dflt (refine' for_src ?k1 ?_; (case k1 => k_asm))) | ((with_reducible show wpAny _ _ (binaryOp Operator.Add (Value.bytes _ _) (Value.bytes _ _)) _ _ _); k_here; (refine add_b (by first | assumption | (simp only [List.length_append, List.length_take, List.length_drop]; omega)) (by first | assumption | (simp only [List.length_append, List.length_take, List.length_drop]; omega)) ?_); intro _ _) | (k_here; (with_reducible show wpAny _ _ (subscriptTail _ (Expr.Slice _ none none _) (Value.bytes (List.toArray _) _) (Value.ref _)) _ _ _); (refine cut_from (s := ⟨_, _, _, _, _⟩) (by k_asm) (by k_asm) (by first | assumption | omega) (by omega) ?_); intro _ _ _ _ _) | (k_here; (with_reducible show wpAny _ _ (subscriptTail _ (Expr.Slice none _ none _) (Value.bytes (List.toArray _) _) (Value.ref _)) _ _ _); (refine cut_to (s := ⟨_, _, _, _, _⟩) (by k_asm) (by k_asm) (by first | assumption | omega) ?_); intro _ _ _ _ _) | (k_here; (with_reducible show wpAny _ _ (subscriptTail _ _ (Value.ref _) (Value.int 2 _)) _ _ _); (refine tup_at (i := 2) (s := ⟨_, _, _, _, _⟩) (by k_asm) (by walk_at "MY mem") (by decide) (by exact rfl) ?_)) | (k_here; (with_reducible show wpAny _ _ (subscriptTail _ _ (Value.ref _) (Value.int (Nat.cast _) _)) _ _ _); (refine item_at (s := ⟨_, _, _, _, _⟩) (by k_asm) (by walk_at "MY mem") (by first | assumption | omega) (by assumption) ?_)) | walk1 | (dsimp only; walk1) | (leave1; try dsimp only) | fail "no step"))
    rename Fr _ _ _ _ => F9
    rename News _ _ _ _ => N9
    rename ∃ k : SK, _ => hr9
    obtain ⟨k, hk1, rfl, hk2, hk3, hk4⟩ := hr9
    refine CEnd.intro (ledAll w (ks ++ [k]) ++ ((L1 + 1, o1) :: news)) F9 N9 (fun p hp => hk2 p (sub_comp p hp)) (fun p hp => ?_) ⟨ks ++ [k], rfl, by simp, ?_, Sep.snoc hS (fun p hp => hk3 p (.tail _ (.tail _ (.tail _ hp)))) hk4, ?_⟩
    · exact off_comp off (hk3 _ (.head _)) (hk3 _ (.tail _ (.head _))) (hk3 _ (.tail _ (.tail _ (.head _)))) hk4 p hp
    · rw [List.map_append, habs, take_snoc hr, List.map_append, List.map_singleton, List.map_singleton, hk1]; rfl
    · intro a ha
      rw [List.map_append] at ha
      rcases List.mem_append.mp ha with ha | ha
      · exact hL a ha
      · rw [List.mem_singleton.mp ha]
        have := hk3 (L1 + 1, o1) (.tail _ (.tail _ (.tail _ (List.mem_append_right _ (.head _)))))
        exact ⟨Nat.lt_trans this hk4, this⟩
  · rintro D h tk0 ys nw ⟨ks, rfl, rfl, habs, hS, hL⟩ F2 N2 offD ltD
    rw [hv.1, List.take_length] at habs
    have hvl := hv.1
    have hm2 : (rl, listOf vals.toArray rn) ∈ (L1 + 1, o1) :: news := .tail _ hm
    (repeat' (first | (k_unfold; (try dsimp only)) | (k_end; wrow_close) | ((with_reducible show wpAny _ _ (call _ _) _ _ _); k_here; (try dsimp only); (with_reducible show wpAny _ _ (call (Value.ref 60) _) _ _ _); k_dflt (refine' fault_call _ _ _ ?k1 ?k2 ?k3 ?k4 ?k5 ?k6 ?k7 ?k8 ?k9 ?_; (case k1 => k_asm); (case k2 => k_asm); (case k3 => k_asm); (case k4 => k_asm); (case k5 => k_asm); (case k6 => first | assumption | exact rfl); (case k7 => first | assumption | exact rfl); (case k8 => ktr_room); (case k9 => ktr_units)); intro _ _ _ _ _ _ _ _) | ((with_reducible show wpAny _ _ (exec (Stmt.Raise _ _ _) _) _ _ _); k_here; refine raise_fault rfl ?_) | ((with_reducible show wpAny _ _ (call _ _) _ _ _); k_here; (try dsimp only); (with_reducible show wpAny _ _ (call (Value.ref 146) _) _ _ _); k_dflt (refine' Spec.callB (seeker_of_spec _ _ _ _ _ _ _ _ _ _ _ _ ?e0 ?e1 ?e2 ?e3 ?e4) ?k1 ?k2 ?k3 ?k4 ?k5 ?k6 ?k7 ?k8 ?k9 ?ka ?kb ?kc ?_; (case k1 => k_asm); (case k2 => k_asm); (case k3 => k_asm); (case k4 => k_asm); (case k5 => k_asm); (case k6 => first | assumption | exact rfl); (case k7 => first | assumption | exact rfl); (case k8 => k_asm); (case k9 => k_asm); (case ka => rfl); (case kb => rfl); (case kc => exact Nat.le_of_ble_eq_true rfl); (case e0 => assumption); (case e1 => assumption); (case e2 => assumption); (case e3 => assumption); (case e4 => assumption); k_whole; intro _ _ _ _ _ _ _; (try dsimp only); (try k_fold))) | ((with_reducible show wpAny _ _ (call _ _) _ _ _); k_here; (try dsimp only); (with_reducible show wpAny _ _ (call (Value.ref 111) _) _ _ _); k_dflt (refine' Spec.callB (width_at _ _ _ _ ?e0 ?e1) ?k1 ?k2 ?k3 ?k4 ?k5 ?k6 ?k7 ?k8 ?k9 ?ka ?kb ?kc ?_; (case k1 => k_asm); (case k2 => k_asm); (case k3 => k_asm); (case k4 => k_asm); (case k5 => k_asm); (case k6 => first | assumption | exact rfl); (case k7 => first | assumption | exact rfl); (case k8 => k_asm); (case k9 => k_asm); (case ka => rfl); (case kb => rfl); (case kc => exact Nat.le_of_ble_eq_true rfl); (case e0 => first | exact rfl | assumption); (case e1 => assumption); k_whole; intro v9 nw9 h9 tk9 hr9 F9 N9; (obtain ⟨e9, t8, e8⟩ := hr9; subst e8; replace N9 := cb_drop N9 e9; clear e9); revert nw9 h9 tk9 F9 N9 t8; intros; (try dsimp only); (try k_fold))) | (k_here; (with_reducible show wpAny _ _ (call (Value.type "enumerate") [Value.ref _]) _ _ _); refine enum_call ?_) | (k_here; (with_reducible show wpAny _ _ (exec (Stmt.For _ (Expr.Call (Expr.Name (Str.ofString "enumerate") _) _ _ _) _ _ _) _) _ _ _); k_dflt (refine' for_turns ?k1 ?_; (case k1 => k_asm))) | ((with_reducible show wpAny _ _ (exec (Stmt.For (Expr.Tuple _ _ _) (Expr.Call _ _ _ _) _ _ _) _) _ _ _); k_here; k_dflt (refine' for_src ?k1 ?_; (case k1 => k_asm))) | ((with_reducible show wpAny _ _ (binaryOp Operator.Add (Value.bytes _ _) (Value.bytes _ _)) _ _ _); k_here; (refine add_b (by first | assumption | (simp only [List.length_append, List.length_take, List.length_drop]; omega)) (by first | assumption | (simp only [List.length_append, List.length_take, List.length_drop]; omega)) ?_); intro _ _) | (k_here; (with_reducible show wpAny _ _ (subscriptTail _ (Expr.Slice _ none none _) (Value.bytes (List.toArray _) _) (Value.ref _)) _ _ _); (refine cut_from (s := ⟨_, _, _, _, _⟩) (by k_asm) (by k_asm) (by first | assumption | omega) (by omega) ?_); intro _ _ _ _ _) | (k_here; (with_reducible show wpAny _ _ (subscriptTail _ (Expr.Slice none _ none _) (Value.bytes (List.toArray _) _) (Value.ref _)) _ _ _); (refine cut_to (s := ⟨_, _, _, _, _⟩) (by k_asm) (by k_asm) (by first | assumption | omega) ?_); intro _ _ _ _ _) | (k_here; (with_reducible show wpAny _ _ (subscriptTail _ _ (Value.ref _) (Value.int 2 _)) _ _ _); (refine tup_at (i := 2) (s := ⟨_, _, _, _, _⟩) (by k_asm) (by walk_at "MY mem") (by decide) (by exact rfl) ?_)) | (k_here; (with_reducible show wpAny _ _ (subscriptTail _ _ (Value.ref _) (Value.int (Nat.cast _) _)) _ _ _); (refine item_at (s := ⟨_, _, _, _, _⟩) (by k_asm) (by walk_at "MY mem") (by first | assumption | omega) (by assumption) ?_)) | walk1 | (dsimp only; walk1) | (leave1; try dsimp only) | fail "no step"))
    have hkl : ks.length = rows.length := by simpa using congrArg List.length habs
    have habi : ∀ {i : Nat} {r : Row} {k : SK} {pre post : List SK}, rows[i]? = some r → ks = pre ++ k :: post → pre.length = i → k.abs = r.fresh o := by
      intro i r k pre post h1 h2 h3
      have h4 : (ks.map SK.abs)[i]? = some k.abs := by rw [h2, List.map_append, List.getElem?_append_right (by simp [h3])]; simp [h3]
      rw [habs, List.getElem?_map, h1] at h4
      exact (Option.some.inj h4).symm
    have e0 : (fun y => if y = Str.ofString "seekers" then some (.ref D) else if y = Str.ofString "rows" then some (.ref rl) else none) = ov [(Str.ofString "number", none), (Str.ofString "seeker", none), (Str.ofString "at", none)] (fun y => if y = Str.ofString "seekers" then some (.ref D) else if y = Str.ofString "rows" then some (.ref rl) else none) := ov_start (ov_start (ov_start ov_nil))
    refine ⟨ks.map (fun k => Value.ref k.x), ks.length, _, _, fun i m2 nw2 => i = 0 ∧ ∃ v1 v2, m2 = ov [(Str.ofString "number", v1), (Str.ofString "seeker", v2), (Str.ofString "at", none)] (fun y => if y = Str.ofString "seekers" then some (.ref D) else if y = Str.ofString "rows" then some (.ref rl) else none) ∧ nw2 = (D, lst (ks.map fun k => Value.ref k.x)) :: (ledAll w ks ++ (L1 + 1, o1) :: news), F2, N2, ?_, ⟨rfl, none, none, e0, rfl⟩, rfl, ?_, ?_⟩
    · rintro i m2 nw2 ⟨_, v1, v2, _, rfl⟩
      have : lst (ks.map fun k => Value.ref k.x) = listOf (ks.map fun k => Value.ref k.x).toArray ks.length := by
        show listOf _ (ks.map fun k => Value.ref k.x).length = _
        rw [List.length_map]
      rw [← this]
      exact .head _
    · rintro i v I oE oI T9 t m2 nw2 h tk2 hvv ⟨hi0, v1, v2, rfl, rfl⟩ hI hoff hT F4 N4
      have hi : i < ks.length := by
        obtain ⟨h1, _⟩ := List.getElem?_eq_some_iff.mp hvv
        simpa using h1
      obtain ⟨pre, k, post, hsp, hpre⟩ := split_at ks i hi
      have hvk : v = .ref k.x := by
        rw [hsp, List.map_append, List.getElem?_append_right (by simp [hpre])] at hvv
        simpa [hpre] using hvv.symm
      subst hvk
      obtain ⟨r, hr⟩ : ∃ r, rows[i]? = some r := ⟨_, List.getElem?_eq_getElem (by omega)⟩
      have hk1 := habi hr hsp hpre
      have hrok := hok r (List.mem_of_getElem? hr)
      have hgw : r.given.length ≠ k.abs.width := by rw [hk1]; exact hb r (List.mem_of_getElem? hr)
      have hgl : r.given.length ≤ 1000 := hgl0 r (List.mem_of_getElem? hr)
      have hkw : k.abs.wanted.length ≤ 1000 := by rw [hk1]; exact hrok.len
      obtain ⟨vr, hvr, T1, t1, t2, t3, t4, t5, rfl, hT1⟩ := hv.get' hr
      have hil : i < 100000 := by omega
      have N5 := pull_at N4 hsp
      clear N4
      (repeat' (first | (k_unfold; (try dsimp only)) | (k_end; wrow_close) | ((with_reducible show wpAny _ _ (call _ _) _ _ _); k_here; (try dsimp only); (with_reducible show wpAny _ _ (call (Value.ref 60) _) _ _ _); k_dflt (refine' fault_call _ _ _ ?k1 ?k2 ?k3 ?k4 ?k5 ?k6 ?k7 ?k8 ?k9 ?_; (case k1 => k_asm); (case k2 => k_asm); (case k3 => k_asm); (case k4 => k_asm); (case k5 => k_asm); (case k6 => first | assumption | exact rfl); (case k7 => first | assumption | exact rfl); (case k8 => ktr_room); (case k9 => ktr_units)); intro _ _ _ _ _ _ _ _) | ((with_reducible show wpAny _ _ (exec (Stmt.Raise _ _ _) _) _ _ _); k_here; refine raise_fault rfl ?_) | ((with_reducible show wpAny _ _ (call _ _) _ _ _); k_here; (try dsimp only); (with_reducible show wpAny _ _ (call (Value.ref 146) _) _ _ _); k_dflt (refine' Spec.callB (seeker_of_spec _ _ _ _ _ _ _ _ _ _ _ _ ?e0 ?e1 ?e2 ?e3 ?e4) ?k1 ?k2 ?k3 ?k4 ?k5 ?k6 ?k7 ?k8 ?k9 ?ka ?kb ?kc ?_; (case k1 => k_asm); (case k2 => k_asm); (case k3 => k_asm); (case k4 => k_asm); (case k5 => k_asm); (case k6 => first | assumption | exact rfl); (case k7 => first | assumption | exact rfl); (case k8 => k_asm); (case k9 => k_asm); (case ka => rfl); (case kb => rfl); (case kc => exact Nat.le_of_ble_eq_true rfl); (case e0 => assumption); (case e1 => assumption); (case e2 => assumption); (case e3 => assumption); (case e4 => assumption); k_whole; intro _ _ _ _ _ _ _; (try dsimp only); (try k_fold))) | ((with_reducible show wpAny _ _ (call _ _) _ _ _); k_here; (try dsimp only); (with_reducible show wpAny _ _ (call (Value.ref 111) _) _ _ _); k_dflt (refine' Spec.callB (width_at _ _ _ _ ?e0 ?e1) ?k1 ?k2 ?k3 ?k4 ?k5 ?k6 ?k7 ?k8 ?k9 ?ka ?kb ?kc ?_; (case k1 => k_asm); (case k2 => k_asm); (case k3 => k_asm); (case k4 => k_asm); (case k5 => k_asm); (case k6 => first | assumption | exact rfl); (case k7 => first | assumption | exact rfl); (case k8 => k_asm); (case k9 => k_asm); (case ka => rfl); (case kb => rfl); (case kc => exact Nat.le_of_ble_eq_true rfl); (case e0 => first | exact rfl | assumption); (case e1 => assumption); k_whole; intro v9 nw9 h9 tk9 hr9 F9 N9; (obtain ⟨e9, t8, e8⟩ := hr9; subst e8; replace N9 := cb_drop N9 e9; clear e9); revert nw9 h9 tk9 F9 N9 t8; intros; (try dsimp only); (try k_fold))) | (k_here; (with_reducible show wpAny _ _ (call (Value.type "enumerate") [Value.ref _]) _ _ _); refine enum_call ?_) | (k_here; (with_reducible show wpAny _ _ (exec (Stmt.For _ (Expr.Call (Expr.Name (Str.ofString "enumerate") _) _ _ _) _ _ _) _) _ _ _); k_dflt (refine' for_turns ?k1 ?_; (case k1 => k_asm))) | ((with_reducible show wpAny _ _ (exec (Stmt.For (Expr.Tuple _ _ _) (Expr.Call _ _ _ _) _ _ _) _) _ _ _); k_here; k_dflt (refine' for_src ?k1 ?_; (case k1 => k_asm))) | ((with_reducible show wpAny _ _ (binaryOp Operator.Add (Value.bytes _ _) (Value.bytes _ _)) _ _ _); k_here; (refine add_b (by first | assumption | (simp only [List.length_append, List.length_take, List.length_drop]; omega)) (by first | assumption | (simp only [List.length_append, List.length_take, List.length_drop]; omega)) ?_); intro _ _) | (k_here; (with_reducible show wpAny _ _ (subscriptTail _ (Expr.Slice _ none none _) (Value.bytes (List.toArray _) _) (Value.ref _)) _ _ _); (refine cut_from (s := ⟨_, _, _, _, _⟩) (by k_asm) (by k_asm) (by first | assumption | omega) (by omega) ?_); intro _ _ _ _ _) | (k_here; (with_reducible show wpAny _ _ (subscriptTail _ (Expr.Slice none _ none _) (Value.bytes (List.toArray _) _) (Value.ref _)) _ _ _); (refine cut_to (s := ⟨_, _, _, _, _⟩) (by k_asm) (by k_asm) (by first | assumption | omega) ?_); intro _ _ _ _ _) | (k_here; (with_reducible show wpAny _ _ (subscriptTail _ _ (Value.ref _) (Value.int 2 _)) _ _ _); (refine tup_at (i := 2) (s := ⟨_, _, _, _, _⟩) (by k_asm) (by walk_at "MY mem") (by decide) (by exact rfl) ?_)) | (k_here; (with_reducible show wpAny _ _ (subscriptTail _ _ (Value.ref _) (Value.int (Nat.cast _) _)) _ _ _); (refine item_at (s := ⟨_, _, _, _, _⟩) (by k_asm) (by walk_at "MY mem") (by first | assumption | omega) (by assumption) ?_)) | walk1 | (dsimp only; walk1) | (leave1; try dsimp only) | fail "no step"))
      · rename Fr _ _ _ _ => F9
        rename News _ _ _ _ => N9
        rename FaultO _ _ _ _ _ => O9
        rename ∀ (p : Addr × Obj), p ∈ _ → p.1 < _ => lt9
        refine raise_post F9 X1 O9 ?_
        have hin : ∀ p ∈ news, p ∈ (D, lst (ks.map fun k => Value.ref k.x)) :: (ledAll w ks ++ (L1 + 1, o1) :: news) := fun p hp => .tail _ (List.mem_append_right _ (.tail _ hp))
        exact leave_raiseT B1 F9 (led_less N9 (fun p hp => push_at hsp p (.tail _ (.tail _ (hin p hp))))) O9 (fun p hp => lt9 p (push_at hsp p (.tail _ (.tail _ (hin p hp))))) rfl rfl fun h' R U => hret _ _ _ _ FG1 R U
      · exfalso; omega
    · rintro m2 nw2 h2 tk2 ⟨h0, _⟩ F4 N4
      rw [List.length_map] at h0
      omega
end
section
/-- a row at which replaced_in raises -/
def Bad (w : World) (o : List UInt8) (to : Tok) (v1 v2 v3 : Value) : Prop := ∀ (rl T1 : Addr) (rn : Nat) (nw : Led), (rl, listOf #[.ref T1] rn) ∈ nw → (T1, tupOf [v1, v2, v3, .none, .none]) ∈ nw → SpecE w 20 163 [.bytes o.toArray to, .ref rl] nw
theorem bad_row {w : World} {o : List UInt8} {to : Tok} {r : Row} {t1 t2 t3 : Tok} (ho : o.length ≤ 1000) (hok : r.ok) (hb : r.before = none) (ha : r.after = none) (hg : r.given.length ≠ (r.fresh o).width) (hgl : r.given.length ≤ 1000) :
    Bad w o to (.str r.kind.str t1) (wvOf r.kind r.wanted t2) (.bytes r.given.toArray t3) := by
  intro rl T1 rn nw hm hT
  refine replaced_len w o [r] to rl rn [.ref T1] nw ho (by simp) (by simp) (fun x hx => ?_) hm ⟨rfl, fun i v x h1 h2 => ?_⟩ (fun x hx => ?_) fun x hx => ?_
  · rw [List.mem_singleton.mp hx]; exact hok
  · cases i with
    | zero =>
      cases h1; cases h2
      refine ⟨T1, t1, t2, t3, t1, t1, rfl, ?_⟩
      rw [hb, ha]
      exact hT
    | succ i => simp at h1
  · rw [List.mem_singleton.mp hx]; exact hg
  · rw [List.mem_singleton.mp hx]; exact hgl
theorem bad_seek {w : World} {o : List UInt8} {to t1 : Tok} {ks : Str} {v2 v3 : Value} (hS : ∀ nw, SpecE w 16 146 [.bytes o.toArray to, .str ks t1, v2, .none, .none] nw) : Bad w o to (.str ks t1) v2 v3 :=
  fun rl T1 rn nw hm hT => replaced_bad w o to t1 ks v2 .none .none v3 rl T1 rn nw hS hm hT
def badRows : List Lit := [.tup [.str (Str.ofString "ALL"), .byt [], .byt []], .tup [.str (Str.ofString "ALL"), .byt [65, 66], .byt [120]], .tup [.str (Str.ofString "CHARACTERS"), .non, .byt [120, 121]], .tup [.str (Str.ofString "SOME"), .byt [65], .byt [120]], .tup [.str (Str.ofString "LEADING"), .byt [65], .byt []]]
theorem den3 {nw : Led} {a b c : Lit} {v : Value} (h : Den nw (.tup [a, b, c]) v) : ∃ T v1 v2 v3, v = .ref T ∧ (T, tupOf [v1, v2, v3]) ∈ nw ∧ Den nw a v1 ∧ Den nw b v2 ∧ Den nw c v3 := by
  obtain ⟨T, vs, rfl, hT, v1, r1, rfl, h1, v2, r2, rfl, h2, v3, r3, rfl, h3, h4⟩ := h
  have h4 : r3 = [] := h4
  subst h4
  exact ⟨T, v1, v2, v3, rfl, hT, h1, h2, h3⟩
theorem bad_den {w : World} {o : List UInt8} {to : Tok} {nw : Led} {vs : List Value} (ho : o.length ≤ 1000) (h : DenL nw badRows vs) (i : Nat) (v : Value) (hv : vs[i]? = some v) : ∃ T v1 v2 v3, v = .ref T ∧ (T, tupOf [v1, v2, v3]) ∈ nw ∧ Bad w o to v1 v2 v3 := by
  obtain ⟨a1, r1, rfl, h1, a2, r2, rfl, h2, a3, r3, rfl, h3, a4, r4, rfl, h4, a5, r5, rfl, h5, h6⟩ := h
  have h6 : r5 = [] := h6
  subst h6
  obtain ⟨T1, x1, y1, z1, rfl, m1, ⟨s1, rfl⟩, ⟨b1, rfl⟩, c1, rfl⟩ := den3 h1
  obtain ⟨T2, x2, y2, z2, rfl, m2, ⟨s2, rfl⟩, ⟨b2, rfl⟩, c2, rfl⟩ := den3 h2
  obtain ⟨T3, x3, y3, z3, rfl, m3, ⟨s3, rfl⟩, b3, c3, rfl⟩ := den3 h3
  have b3 : y3 = .none := b3
  subst b3
  obtain ⟨T4, x4, y4, z4, rfl, m4, ⟨s4, rfl⟩, ⟨b4, rfl⟩, c4, rfl⟩ := den3 h4
  obtain ⟨T5, x5, y5, z5, rfl, m5, ⟨s5, rfl⟩, ⟨b5, rfl⟩, c5, rfl⟩ := den3 h5
  have ok : ∀ (k : Kind) (wn g : List UInt8), wn.length ≤ 1000 → (k ≠ .chars → 0 < wn.length) → (Row.mk k wn g none none).ok := fun k wn g h1 h2 => ⟨h1, h2, trivial, trivial⟩
  match i, hv with
  | 0, hv =>
    cases hv
    exact ⟨T1, _, _, _, rfl, m1, bad_seek fun nw => seeker_empty_spec w o .all (by decide) _ _ _ _ _ nw ho⟩
  | 1, hv =>
    cases hv
    exact ⟨T2, _, _, _, rfl, m2, bad_row (r := ⟨.all, [65, 66], [120], none, none⟩) ho (ok _ _ _ (by decide) (by decide)) rfl rfl (show (1 : Nat) ≠ 2 by decide) (by decide)⟩
  | 2, hv =>
    cases hv
    exact ⟨T3, _, _, _, rfl, m3, bad_row (r := ⟨.chars, [], [120, 121], none, none⟩) (t2 := s1) ho (ok _ _ _ (by decide) (fun h => absurd rfl h)) rfl rfl (show (2 : Nat) ≠ 1 by decide) (by decide)⟩
  | 3, hv =>
    cases hv
    exact ⟨T4, _, _, _, rfl, m4, bad_seek fun nw => seeker_some_spec w o _ _ _ _ _ nw ho⟩
  | 4, hv =>
    cases hv
    exact ⟨T5, _, _, _, rfl, m5, bad_row (r := ⟨.leading, [65], [], none, none⟩) ho (ok _ _ _ (by decide) (by decide)) rfl rfl (show (0 : Nat) ≠ 1 by decide) (by decide)⟩
  | i + 5, hv => simp at hv
theorem TEndT.cont {s₁ : Shared} {L I : Addr} {oI : Obj} {J : Heap → Ns → Led → Prop} {Q : Flow → Shared → Prop} {g' h' : Heap} {tk' : Nat} {m' : Ns} {all : Led} (news' : Led) (F : Fr g' L h' m') (N : News g' L h' all) (sub : ∀ p ∈ (I, oI) :: news', p ∈ all) (off : ∀ p ∈ news', p.1 ≠ I) (hJ : J g' m' news') :
    TEndT L s₁ I oI J Q .cont { s₁ with heap := h', toks := tk' } := ⟨g', h', tk', m', news', rfl, F, fun p hp => N p (sub p hp), off, hJ⟩
set_option maxRecDepth 100000 in
set_option maxHeartbeats 4000000 in
theorem refused_spec (w : World) (o : List UInt8) (to : Tok) (news : Led) (ho : o.length ≤ 1000) (dp un : Nat) (gd : Option (List Code)) (env : Env) (A₀ : Around) (mean : ExcName → Option Value) (mg mb : Ns) (base h₀ : Heap) (L : Addr) (m : Ns) (s : Shared) (Q E : Value → Shared → Prop)
    (B : Below A₀ base [] h₀) (F : Fr h₀ L s.heap m) (X : (hdHeap w.params).In h₀) (N : News h₀ L s.heap news) (T : TopC mean mg mb h₀) (hf : env.frame = some L) (hk : env.scope.kind = .function) (XB : (hdHeap w.params).In base) (TB : TopC mean mg mb base)
    (hdp : dp + 24 < recursionLimit) (hun : un + 10 * 24 + 10 < cLine)
    (hret : ∀ h' tk', Fr h₀ L h' m → News h₀ L h' news → Q (.bool true) { s with heap := h', toks := tk' }) :
    wpAny (model PG w) (arnd dp un gd env []) (call (.ref 247) [.bytes o.toArray to]) Q E s := by
  ((have fill : (∀ w : World, (Mine.hdHeap w.params) = (Mine.hdHeap w.params)) ∧ PySem.Challenge.rw_og0077_01.Holds → True := by ((first | k_fill | skip); exact fun _ => trivial)); clear fill)
  have hE : Enter [(Str.ofString "octets", .bytes o.toArray to)] (fun y => List.lookup y [(Str.ofString "octets", .bytes o.toArray to)]) := ⟨⟩
  (k_dflt (refine' enter_T (by assumption) ?k1 ?k2 ?k3 ?k4 ?k5 ?kF ?kK ?k6 ?k7 ?k8 ?k9 ?kB ?km ?_ ?c2 ?c3 ?c4 ?c5; (case kF => assumption); (case kK => assumption); (case k1 => k_asm); (case k2 => k_asm); (case k3 => k_asm); (case k4 => k_asm); (case k5 => k_asm); (case k6 => k_is); (case k7 => k_is); (case k8 => ktr_room); (case k9 => exact BindsTo.of_eq rfl); (case km => exact rfl); (case c5 => decide); (case kB => exact locs rfl); (case c2 => exact rfl); (case c3 => exact rfl); (case c4 => exact rfl); k_whole; intro _ _ _ _ _ _ _ _ _ _; (try dsimp only); (try k_fold)))
  rename_i g1 L1 h1 FG1 F1 N1 B1 X1 T1 lt1
  iterate 2 (first | (k_unfold; (try dsimp only)) | walk1 | (dsimp only; walk1) | (leave1; try dsimp only))
  refine for_srcT ?_
  refine' lit_list (ds := badRows) ?k1 ?k4 ?k2 ?k3 ?_
  case k1 => (unfold badRows; walk_at "MY lits")
  case k4 => exact (by decide)
  case k2 => exact F1
  case k3 => exact N1
  intro l vs new h9 tk9 lt9 lt8 hd9 hn9 F9 N9
  have e0 : (fun y => List.lookup y [(Str.ofString "octets", .bytes o.toArray to)]) = ov [(Str.ofString "kind", none), (Str.ofString "wanted", none), (Str.ofString "given", none)] (fun y => List.lookup y [(Str.ofString "octets", .bytes o.toArray to)]) := ov_start (ov_start (ov_start ov_nil))
  refine ⟨_, fun i v => vs[i]? = some v, _, g1, _, _, fun i g m nw => KtsTurn ([env].filterMap (·.frame)) g1 g ∧ Below (arnd dp un gd env []) base [env] g ∧ (hdHeap w.params).In g ∧ TopC mean mg mb g ∧ (∃ u1 u2 u3, m = ov [(Str.ofString "kind", u1), (Str.ofString "wanted", u2), (Str.ofString "given", u3)] (fun y => List.lookup y [(Str.ofString "octets", .bytes o.toArray to)])) ∧ nw = (l, listOf (List.toArray vs) 0) :: (new ++ news),
    Src.list (L := L1) rfl (fun p hp => ⟨(N9 p hp).1, (N9 p hp).2.1, rfl⟩) (.head _), F9, N9, ?_, ⟨KtsTurn.refl, B1, X1, T1, ⟨_, _, _, e0⟩, rfl⟩, ?_, ?_⟩
  · rintro i g m nw ⟨_, _, _, _, _, rfl⟩ p hp
    exact hp
  · rintro i v I oI g2 m2 nw2 h2 tk2 hi hP ⟨KT, B2, X2, T2, ⟨u1, u2, u3, rfl⟩, rfl⟩ off F2 N2
    obtain ⟨T0, v1, v2, v3, rfl, hT0, hbad⟩ := bad_den (w := w) (to := to) ho hd9 i v hP
    have hT : IsTup h2 T0 #[v1, v2, v3] := ⟨_, (N2 _ (.tail _ (.tail _ (List.mem_append_left _ hT0)))).1, rfl, _, rfl⟩
    k_steps
    rename Fr _ _ _ _ => F3
    rename News _ _ _ _ => N3
    refine SpecE.call (hbad _ _ _ _ (by walk_at "MY mem") (by walk_at "MY mem")) (by k_asm) F3 (by k_asm) N3 (by k_asm) rfl rfl (by ktr_room) (by ktr_units) fun e G h4 tk4 FG R U => ?_
    refine caught_T R FG B2 U XB TB rfl (fun h5 g5 KT5 F5 N5 B5 X5 T5 => ?_)
    k_steps
    rename Fr _ _ _ _ => F6
    rename News _ _ _ _ => N6
    simp only [ov_pt] at F6
    refine TEndT.cont ((l, listOf (List.toArray vs) 0) :: (new ++ news)) F6 N6 (fun p hp => ?_) off ⟨KT.trans KT5, B5, X5, T5, ⟨_, _, _, rfl⟩, rfl⟩
    walk_at "MY mem"
  · rintro g2 m2 nw2 h2 tk2 ⟨KT, B2, X2, T2, ⟨u1, u2, u3, rfl⟩, rfl⟩ F2 N2
    k_steps
    rename Fr _ _ _ _ => F3
    rename News _ _ _ _ => N3
    refine SpecE.call (tallied_bad w o to _ (Str.ofString "FIRST") (.bytes #[] _) .none .none _ _ _ _ (fun nw => seeker_empty_spec w o .first (by decide) _ _ _ _ _ nw ho) (by walk_at "MY mem") (by walk_at "MY mem")) (by k_asm) F3 (by k_asm) N3 (by k_asm) rfl rfl (by ktr_room) (by ktr_units) fun e G h4 tk4 FG R U => ?_
    refine caught_T R FG B2 U XB TB rfl (fun h5 g5 KT5 F5 N5 B5 X5 T5 => ?_)
    k_steps
    rename Fr _ _ _ _ => F6
    rename News _ _ _ _ => N6
    refine ⟨g5, L1, _, _, KT.trans KT5, F6, N6, fun F7 N7 => hret _ _ F7 (led_less N7 fun p hp => ?_)⟩
    walk_at "MY mem"
end
section
/-- a seeker and the row's list of places stood at, before the walk stands at a -/
structure Rel (o : List UInt8) (a : Nat) (r : Row) (st : List Bool) (k : AS) : Prop where
  kind : k.kind = r.kind
  wanted : k.wanted = r.wanted
  bg : k.bg = (spanR o r).1
  en : k.en = (spanR o r).2
  done : k.done = true ↔ (r.kind = .first ∧ true ∈ st)
  inb : st ≠ [] → k.bg ≤ a
  l0 : r.kind = .leading → st = [] → k.lead = none
  l1 : r.kind = .leading → st ≠ [] → ¬ false ∈ st → ∃ l, k.lead = some l ∧ (l = a ∨ k.en ≤ a)
  l2 : r.kind = .leading → false ∈ st → ∃ l, k.lead = some l ∧ l < a
theorem Rel.width {o : List UInt8} {a : Nat} {r : Row} {st : List Bool} {k : AS} (R : Rel o a r st k) : k.width = r.size := by
  unfold AS.width Row.size
  rw [R.kind, R.wanted]
  all_goals (cases r.kind <;> rfl)
theorem reach_same (k : AS) (a : Nat) : (k.reach a).kind = k.kind ∧ (k.reach a).wanted = k.wanted ∧ (k.reach a).bg = k.bg ∧ (k.reach a).en = k.en ∧ (k.reach a).done = k.done ∧ (k.reach a).width = k.width := by
  unfold AS.reach AS.width
  split <;> exact ⟨rfl, rfl, rfl, rfl, rfl, rfl⟩
theorem reach_lead_none {k : AS} {a : Nat} (h : k.lead = none) (h1 : k.bg ≤ a) (h2 : a < k.en) : (k.reach a).lead = some a := by
  unfold AS.reach
  rw [if_pos ⟨h, h1, h2⟩]
theorem reach_lead_some {k : AS} {a l : Nat} (h : k.lead = some l) : (k.reach a).lead = some l := by
  unfold AS.reach
  rw [if_neg (fun x => by rw [h] at x; cases x.1)]
  exact h
theorem reach_lead_out {k : AS} {a : Nat} (h : ¬ (k.bg ≤ a ∧ a < k.en)) : (k.reach a).lead = k.lead := by
  unfold AS.reach
  rw [if_neg (fun x => h x.2)]
theorem Rel.fit {o : List UInt8} {a : Nat} {r : Row} {st : List Bool} {k : AS} (R : Rel o a r st k) (hs : 1 ≤ r.size) : fitS o (k.reach a) a = hitS o r (spanR o r) st a := by
  obtain ⟨e1, e2, e3, e4, e5, e6⟩ := reach_same k a
  unfold fitS hitS
  rw [e1, e2, e3, e4, e5, e6, R.width, R.kind, R.wanted, R.bg, R.en]
  by_cases hout : a < (spanR o r).1 ∨ a + r.size > (spanR o r).2
  · rw [if_pos (hout.elim (fun h => .inr (.inl (Nat.not_le.mpr h))) fun h => .inr (.inr h)), if_pos (hout.elim .inl fun h => .inr (.inl h))]
  · have h1 : (spanR o r).1 ≤ a := by omega
    have h2 : a + r.size ≤ (spanR o r).2 := by omega
    have h3 : a < (spanR o r).2 := by omega
    by_cases hd : k.done = true
    · obtain ⟨q1, q2⟩ := R.done.mp hd
      rw [if_pos (.inl hd), if_pos (.inr (.inr (.inr ⟨q1, q2⟩)))]
    · have nd : ¬ (r.kind = .first ∧ true ∈ st) := fun q => hd (R.done.mpr q)
      rw [if_neg (fun q => q.elim hd fun q => q.elim (fun q => q h1) fun q => absurd q (by omega))]
      by_cases hl : r.kind = .leading
      · have nc : ¬ r.kind = .chars := by rw [hl]; decide
        rw [if_neg nc]
        by_cases hf : false ∈ st
        · obtain ⟨l, q1, q2⟩ := R.l2 hl hf
          rw [if_pos ⟨hl, by rw [reach_lead_some q1]; intro q; have := Option.some.inj q; omega⟩, if_pos (.inr (.inr (.inl ⟨hl, hf⟩)))]
        · have hlead : (k.reach a).lead = some a := by
            by_cases hst : st = []
            · exact reach_lead_none (R.l0 hl hst) (by rw [R.bg]; exact h1) (by rw [R.en]; exact h3)
            · obtain ⟨l, q1, q2⟩ := R.l1 hl hst hf
              rw [reach_lead_some q1]
              rcases q2 with q2 | q2
              · rw [q2]
              · rw [R.en] at q2; omega
          rw [if_neg (fun q => q.2 hlead), if_neg (fun q => q.elim (by omega) fun q => q.elim (by omega) fun q => q.elim (fun q => hf q.2) nd)]
          simp [nc]
      · have hno : ¬ (a < (spanR o r).1 ∨ a + r.size > (spanR o r).2 ∨ (r.kind = .leading ∧ false ∈ st) ∨ (r.kind = .first ∧ true ∈ st)) := fun q => q.elim (by omega) fun q => q.elim (by omega) fun q => q.elim (fun q => hl q.1) nd
        by_cases hc : r.kind = .chars
        · rw [if_pos hc, if_neg hno]; simp [hc]
        · rw [if_neg hc, if_neg (fun q => hl q.1), if_neg hno]; simp [hc]
theorem Rel.skip {o : List UInt8} {a b : Nat} {r : Row} {st : List Bool} {k : AS} (R : Rel o a r st k) (hb : a < b) :
    Rel o b r (if (spanR o r).1 ≤ a ∧ a < (spanR o r).2 then st ++ [false] else st) (k.reach a) := by
  obtain ⟨e1, e2, e3, e4, e5, e6⟩ := reach_same k a
  by_cases hin : (spanR o r).1 ≤ a ∧ a < (spanR o r).2
  · rw [if_pos hin]
    refine ⟨e1.trans R.kind, e2.trans R.wanted, e3.trans R.bg, e4.trans R.en, ?_, fun _ => ?_, fun _ h => by simp at h, fun _ _ h => by simp at h, fun hl _ => ?_⟩
    · rw [e5, R.done]; simp
    · rw [e3, R.bg]; omega
    · by_cases hf : false ∈ st
      · obtain ⟨l, q1, q2⟩ := R.l2 hl hf
        exact ⟨l, reach_lead_some q1, by omega⟩
      · by_cases hst : st = []
        · exact ⟨a, reach_lead_none (R.l0 hl hst) (by rw [R.bg]; exact hin.1) (by rw [R.en]; exact hin.2), hb⟩
        · obtain ⟨l, q1, q2⟩ := R.l1 hl hst hf
          refine ⟨l, reach_lead_some q1, ?_⟩
          rcases q2 with q2 | q2
          · omega
          · rw [R.en] at q2; omega
  · rw [if_neg hin]
    have hin' : ¬ (k.bg ≤ a ∧ a < k.en) := by rw [R.bg, R.en]; exact hin
    refine ⟨e1.trans R.kind, e2.trans R.wanted, e3.trans R.bg, e4.trans R.en, by rw [e5]; exact R.done, fun h => ?_, fun hl h => ?_, fun hl h hf => ?_, fun hl h => ?_⟩
    · have := R.inb h; rw [e3]; omega
    · rw [reach_lead_out hin']; exact R.l0 hl h
    · obtain ⟨l, q1, q2⟩ := R.l1 hl h hf
      have := R.inb h
      rw [reach_lead_out hin', e4]
      exact ⟨l, q1, .inr (by omega)⟩
    · obtain ⟨l, q1, q2⟩ := R.l2 hl h
      exact ⟨l, reach_lead_some q1, by omega⟩
theorem Rel.took {o : List UInt8} {a : Nat} {r : Row} {st : List Bool} {k : AS} (R : Rel o a r st k) (hs : 1 ≤ r.size) (hit : hitS o r (spanR o r) st a = true) :
    Rel o (a + r.size) r (if (spanR o r).1 ≤ a ∧ a < (spanR o r).2 then st ++ [true] else st) ((k.reach a).took a) := by
  obtain ⟨e1, e2, e3, e4, e5, e6⟩ := reach_same k a
  have hno : ¬ (a < (spanR o r).1 ∨ a + r.size > (spanR o r).2 ∨ (r.kind = .leading ∧ false ∈ st) ∨ (r.kind = .first ∧ true ∈ st)) := fun q => by
    rw [hit_false q] at hit; cases hit
  have h1 : (spanR o r).1 ≤ a := Nat.not_lt.mp fun q => hno (.inl q)
  have h2 : a + r.size ≤ (spanR o r).2 := Nat.not_lt.mp fun q => hno (.inr (.inl q))
  rw [if_pos ⟨h1, by omega⟩]
  refine ⟨e1.trans R.kind, e2.trans R.wanted, e3.trans R.bg, e4.trans R.en, ?_, fun _ => ?_, fun _ h => by simp at h, fun _ _ _ => ⟨_, rfl, .inl (by rw [e6, R.width])⟩, fun hl h => ?_⟩
  · show decide ((k.reach a).kind = .first) = true ↔ _
    rw [e1, R.kind]; simp
  · show (k.reach a).bg ≤ _
    rw [e3, R.bg]; omega
  · rcases List.mem_append.mp h with h | h
    · exact absurd (.inr (.inr (.inl ⟨hl, h⟩))) hno
    · simp at h
/-- all the rows -/
structure Rels (o : List UInt8) (a : Nat) (rows : List Row) (sts : List (List Bool)) (ss : List AS) : Prop where
  len1 : sts.length = rows.length
  len2 : ss.length = rows.length
  at_ : ∀ (i : Nat) (r : Row) (st : List Bool) (k : AS), rows[i]? = some r → sts[i]? = some st → ss[i]? = some k → Rel o a r st k
theorem row_size {r : Row} (h : r.ok) : 1 ≤ r.size := by
  have hp := h.pos
  unfold Row.size
  cases e : r.kind <;> simp only [e] at hp ⊢ <;> first | exact hp (by simp) | exact Nat.le_refl _
theorem Rels.hit {o : List UInt8} {a : Nat} {rows : List Row} {sts : List (List Bool)} {ss : List AS} (R : Rels o a rows sts ss) (hok : ∀ r ∈ rows, r.ok) (i : Nat) (hi : i < (reachAll a ss).length) : fitS o (reachAll a ss)[i] a = hitB o rows sts a i := by
  have hl : (reachAll a ss).length = ss.length := List.length_map _
  have h2 : i < ss.length := by rw [← hl]; exact hi
  have h3 : i < rows.length := by rw [← R.len2]; exact h2
  have h4 : i < sts.length := by rw [R.len1]; exact h3
  have e1 : rows[i]? = some rows[i] := List.getElem?_eq_getElem h3
  have e2 : sts[i]? = some sts[i] := List.getElem?_eq_getElem h4
  have e3 : ss[i]? = some ss[i] := List.getElem?_eq_getElem h2
  unfold hitB
  rw [e1, e2]
  have e4 : (reachAll a ss)[i] = ss[i].reach a := List.getElem_map (fun s : AS => s.reach a)
  rw [e4]
  exact (R.at_ i _ _ _ e1 e2 e3).fit (row_size (hok _ (List.getElem_mem h3)))
theorem head_filter_range {p : Nat → Bool} {n : Nat} : ((List.range n).filter p).head? = (List.range n).find? p := List.head?_filter
theorem Rels.taker {o : List UInt8} {a : Nat} {rows : List Row} {sts : List (List Bool)} {ss : List AS} (R : Rels o a rows sts ss) (hok : ∀ r ∈ rows, r.ok) : takerIn o a (reachAll a ss) = (hitsL o rows sts a).head? := by
  have hl : (reachAll a ss).length = rows.length := (List.length_map _).trans R.len2
  unfold hitsL
  rw [head_filter_range]
  unfold takerIn
  cases e : (List.range rows.length).find? (hitB o rows sts a) with
  | none =>
    rw [List.findIdx?_eq_none_iff]
    intro x hx
    obtain ⟨i, hi, rfl⟩ := List.getElem_of_mem hx
    have := List.find?_eq_none.mp e i (List.mem_range.mpr (by rw [← hl]; exact hi))
    rw [R.hit hok i hi]
    simpa using this
  | some i =>
    rw [List.find?_range_eq_some] at e
    obtain ⟨h1, h2, h3⟩ := e
    have hi : i < (reachAll a ss).length := by rw [hl]; exact List.mem_range.mp h2
    rw [List.findIdx?_eq_some_iff_getElem]
    refine ⟨hi, by rw [R.hit hok i hi]; exact h1, fun j hj => ?_⟩
    have := h3 j hj
    rw [R.hit hok j (Nat.lt_trans hj hi)]
    simpa using this
theorem standL_get {o : List UInt8} {rows : List Row} {a : Nat} {tk : Option Nat} {sts : List (List Bool)} {i : Nat} {r : Row} {st' : List Bool} (hr : rows[i]? = some r) (h : (standL o rows a tk sts)[i]? = some st') : ∃ st, sts[i]? = some st ∧ st' = stand1 o a tk i r st := by
  unfold standL at h
  rw [List.getElem?_mapIdx] at h
  cases e : sts[i]? with
  | none => rw [e] at h; simp at h
  | some st =>
    rw [e] at h
    refine ⟨st, rfl, ?_⟩
    have h2 : standA o rows a tk i st = st' := Option.some.inj h
    rw [← h2]
    unfold standA
    rw [hr]
theorem Rels.step0 {o : List UInt8} {a : Nat} {rows : List Row} {sts : List (List Bool)} {ss : List AS} (R : Rels o a rows sts ss) : Rels o (a + 1) rows (standL o rows a none sts) (reachAll a ss) := by
  refine ⟨by unfold standL; rw [List.length_mapIdx]; exact R.len1, (List.length_map _).trans R.len2, fun i r st' k' hr hst hk => ?_⟩
  obtain ⟨st, h1, rfl⟩ := standL_get hr hst
  unfold reachAll at hk
  rw [List.getElem?_map] at hk
  cases e : ss[i]? with
  | none => rw [e] at hk; simp at hk
  | some k =>
    rw [e] at hk
    have hk : k.reach a = k' := Option.some.inj hk
    subst hk
    exact (R.at_ i r st k hr h1 e).skip (Nat.lt_succ_self a)
theorem Rels.step1 {o : List UInt8} {a t : Nat} {rows : List Row} {sts : List (List Bool)} {ss : List AS} (R : Rels o a rows sts ss) (hok : ∀ r ∈ rows, r.ok) (ht : (hitsL o rows sts a).head? = some t) :
    a + ((reachAll a ss).getD t AS.nil).width = a + sizeAt rows t ∧ Rels o (a + sizeAt rows t) rows (standL o rows a (some t) sts) ((reachAll a ss).set t (((reachAll a ss).getD t AS.nil).took a)) := by
  have hl : (reachAll a ss).length = rows.length := (List.length_map _).trans R.len2
  unfold hitsL at ht
  rw [head_filter_range, List.find?_range_eq_some] at ht
  obtain ⟨h1, h2, _⟩ := ht
  have h3 : t < rows.length := List.mem_range.mp h2
  have h4 : t < ss.length := by rw [R.len2]; exact h3
  have h5 : t < sts.length := by rw [R.len1]; exact h3
  have e1 : rows[t]? = some rows[t] := List.getElem?_eq_getElem h3
  have e2 : sts[t]? = some sts[t] := List.getElem?_eq_getElem h5
  have e3 : ss[t]? = some ss[t] := List.getElem?_eq_getElem h4
  have Rt := R.at_ t _ _ _ e1 e2 e3
  have hsz := row_size (hok _ (List.getElem_mem h3))
  have e4 : (reachAll a ss).getD t AS.nil = ss[t].reach a := by
    have : (reachAll a ss)[t]? = some (ss[t].reach a) := by
      unfold reachAll
      rw [List.getElem?_map, e3]
      rfl
    rw [List.getD_eq_getElem?_getD, this]
    rfl
  have e5 : sizeAt rows t = rows[t].size := by unfold sizeAt; rw [e1]
  rw [e4, e5]
  refine ⟨by rw [(reach_same _ _).2.2.2.2.2, Rt.width], by unfold standL; rw [List.length_mapIdx]; exact R.len1, by rw [List.length_set]; exact hl, fun i r st' k' hr hst hk => ?_⟩
  obtain ⟨st, q1, rfl⟩ := standL_get hr hst
  by_cases hit : t = i
  · subst hit
    rw [List.getElem?_set_self (by rw [hl]; exact h3)] at hk
    have hk := Option.some.inj hk
    subst hk
    rw [e1] at hr
    have hr := Option.some.inj hr
    subst hr
    rw [e2] at q1
    have q1 := Option.some.inj q1
    subst q1
    unfold hitB at h1
    rw [e1, e2] at h1
    have := Rt.took hsz h1
    unfold stand1
    simpa using this
  · rw [List.getElem?_set_ne hit] at hk
    unfold reachAll at hk
    rw [List.getElem?_map] at hk
    cases e : ss[i]? with
    | none => rw [e] at hk; simp at hk
    | some k =>
      rw [e] at hk
      have hk : k.reach a = k' := Option.some.inj hk
      subst hk
      have := (R.at_ i r st k hr q1 e).skip (b := a + rows[t].size) (by omega)
      unfold stand1
      have hd : decide (some t = some i) = false := by simp [hit]
      rw [hd]
      exact this
theorem walks_same {o : List UInt8} {rows : List Row} (hok : ∀ r ∈ rows, r.ok) : ∀ (n a : Nat) (sts : List (List Bool)) (ss : List AS), Rels o a rows sts ss → fitsF o n a ss = walkF o rows n a sts
  | 0, _, _, _, _ => rfl
  | n + 1, a, sts, ss, R => by
    rw [fitsF, walkF, R.taker hok]
    by_cases ha : a < o.length
    · rw [if_pos ha, if_pos ha]
      cases e : (hitsL o rows sts a).head? with
      | none => exact walks_same hok n _ _ _ R.step0
      | some t =>
        obtain ⟨h1, h2⟩ := R.step1 hok e
        simp only []
        rw [h1]
        exact congrArg _ (walks_same hok n _ _ _ h2)
    · rw [if_neg ha, if_neg ha]
theorem fits_walk (o : List UInt8) (rows : List Row) (hok : ∀ r ∈ rows, r.ok) : fitsP o rows = walkP o rows := by
  refine walks_same hok _ _ _ _ ⟨by rw [List.length_replicate], List.length_map _, fun i r st k hr hst hk => ?_⟩
  have h1 : st = [] := List.eq_of_mem_replicate (List.mem_of_getElem? hst)
  rw [List.getElem?_map, hr] at hk
  have hk : r.fresh o = k := Option.some.inj hk
  subst hk h1
  exact ⟨rfl, rfl, rfl, rfl, by simp [Row.fresh, AS.fresh], fun h => absurd rfl h, fun _ _ => rfl, fun _ h => absurd rfl h, fun _ h => by simp at h⟩
end
section
section
variable {w : World} {A : Around} {E : Value → Shared → Prop} {s : Shared} {h₀ : Heap} {L : Addr} {news : Led}
theorem ne_pairT {a b : Addr} {x1 x2 y1 y2 : Int} {t1 t2 u1 u2 : Tok} {Q : Value → Shared → Prop} (N : News h₀ L s.heap news) (hm : (a, tupOf [.int x1 t1, .int x2 t2]) ∈ news) (hm' : (b, tupOf [.int y1 u1, .int y2 u2]) ∈ news) (hu : A.units + 64 < cLine)
    (h : Q (.bool (!decide ([x1, x2] = [y1, y2]))) s) : wpAny (model PG w) A (compareOp .NotEq (.ref a) (.ref b)) Q E s := by
  have i1 : IntsAre [.int x1 t1, .int x2 t2] [x1, x2] := IntsAre.cons _ _ (IntsAre.cons _ _ IntsAre.nil)
  have i2 : IntsAre [.int y1 u1, .int y2 u2] [y1, y2] := IntsAre.cons _ _ (IntsAre.cons _ _ IntsAre.nil)
  refine ne_dataH_same (da := .tuple ([x1, x2].map PyData.int)) (db := .tuple ([y1, y2].map PyData.int)) (Reads.tuple (N _ hm).1 rfl rfl (by simpa using readsAll_of_ints i1)) (Reads.tuple (N _ hm').1 rfl rfl (by simpa using readsAll_of_ints i2)) (by rfl) (by rfl) hu (by rw [SeqAt.noMix]; exact noMix_ints _ _) ?_
  simp only [PySem.Spec.same]
  rw [same_ints]
  exact h
end
theorem ints_of {vs : List Value} {ns : List Nat} (h : AllIn IntV vs ns) : IntsAre vs (nums ns) := by
  obtain ⟨hl, h⟩ := h
  induction vs generalizing ns with
  | nil =>
    cases ns with
    | nil => exact IntsAre.nil
    | cons _ _ => simp at hl
  | cons v r ih =>
    cases ns with
    | nil => simp at hl
    | cons n q =>
      obtain ⟨t, rfl⟩ := h 0 v n rfl rfl
      exact IntsAre.cons _ _ (ih (by simpa using hl) fun i v x a b => h (i + 1) v x (by simpa using a) (by simpa using b))
theorem den_opt {nw : Led} {b : Option (List UInt8)} {v : Value} (h : Den nw (optLit b) v) : ∃ t, v = vOpt b t := by
  cases b with
  | none => exact ⟨default, h⟩
  | some b => exact h
theorem den_w {nw : Led} {r : Row} {v : Value} (h : Den nw (wLit r) v) : ∃ t, v = wvOf r.kind r.wanted t := by
  unfold wLit at h
  unfold wvOf
  cases e : r.kind <;> rw [e] at h <;> first | exact h | exact ⟨default, h⟩
theorem den_crow {nw : Led} {r : Row} {v : Value} (h : Den nw (crowLit r) v) : CRow nw v r := by
  obtain ⟨T, vs, rfl, hT, v1, r1, rfl, ⟨t1, rfl⟩, v2, r2, rfl, h2, v3, r3, rfl, h3, v4, r4, rfl, h4, h5⟩ := h
  have h5 : r4 = [] := h5
  subst h5
  obtain ⟨t2, rfl⟩ := den_w h2
  obtain ⟨t3, rfl⟩ := den_opt h3
  obtain ⟨t4, rfl⟩ := den_opt h4
  exact ⟨T, t1, t2, t3, t4, rfl, hT⟩
theorem den_xrow {nw : Led} {r : Row} {v : Value} (h : Den nw (xrowLit r) v) : XRow nw v r := by
  obtain ⟨T, vs, rfl, hT, v1, r1, rfl, ⟨t1, rfl⟩, v2, r2, rfl, h2, v3, r3, rfl, ⟨t3, rfl⟩, v4, r4, rfl, h4, v5, r5, rfl, h5, h6⟩ := h
  have h6 : r5 = [] := h6
  subst h6
  obtain ⟨t2, rfl⟩ := den_w h2
  obtain ⟨t4, rfl⟩ := den_opt h4
  obtain ⟨t5, rfl⟩ := den_opt h5
  exact ⟨T, t1, t2, t3, t4, t5, rfl, hT⟩
theorem den_all {α : Type} {nw : Led} {f : α → Lit} {R : Value → α → Prop} (hf : ∀ a v, Den nw (f a) v → R v a) : ∀ {xs : List α} {vs : List Value}, DenL nw (xs.map f) vs → AllIn R vs xs
  | [], vs, h => by
    have h : vs = [] := h
    subst h; exact AllIn.nil
  | x :: xs, vs, ⟨v, r, e, h1, h2⟩ => by
    subst e
    obtain ⟨k1, k2⟩ := den_all hf h2
    refine ⟨by simp [k1], fun i u y a b => ?_⟩
    cases i with
    | zero =>
      cases a; cases b
      exact hf _ _ h1
    | succ i => exact k2 i u y (by simpa using a) (by simpa using b)
theorem den_at {α : Type} {nw : Led} {f : α → Lit} {xs : List α} {vs : List Value} {i : Nat} {v : Value} (h : DenL nw (xs.map f) vs) (hv : vs[i]? = some v) : ∃ x ∈ xs, Den nw (f x) v := by
  obtain ⟨x, h1, h2⟩ := (den_all (R := fun v x => Den nw (f x) v) (fun _ _ h => h) h).get hv
  exact ⟨x, List.mem_of_getElem? h1, h2⟩
theorem den_case {nw : Led} {c : List UInt8 × List Row × List Nat} {v : Value} (h : Den nw (caseLit c) v) :
    ∃ T t1 l1 l2 n1 n2 vs us, v = .ref T ∧ (T, tupOf [.bytes c.1.toArray t1, .ref l1, .ref l2]) ∈ nw ∧ (l1, listOf (List.toArray vs) n1) ∈ nw ∧ AllIn (CRow nw) vs c.2.1 ∧ (l2, listOf (List.toArray us) n2) ∈ nw ∧ IntsAre us (nums c.2.2) := by
  obtain ⟨T, ws, rfl, hT, v1, r1, rfl, ⟨t1, rfl⟩, v2, r2, rfl, ⟨l1, vs, n1, rfl, m1, d1⟩, v3, r3, rfl, ⟨l2, us, n2, rfl, m2, d2⟩, h4⟩ := h
  have h4 : r3 = [] := h4
  subst h4
  exact ⟨T, t1, l1, l2, n1, n2, vs, us, rfl, hT, m1, den_all (fun _ _ => den_crow) d1, m2, ints_of (den_all (f := fun n : Nat => Lit.int (n : Int)) (R := IntV) (fun a v h => h) d2)⟩
theorem den_xcase {nw : Led} {c : List UInt8 × List Row × List UInt8} {v : Value} (h : Den nw (xcaseLit c) v) :
    ∃ T t1 l1 t2 n1 vs, v = .ref T ∧ (T, tupOf [.bytes c.1.toArray t1, .ref l1, .bytes c.2.2.toArray t2]) ∈ nw ∧ (l1, listOf (List.toArray vs) n1) ∈ nw ∧ AllIn (XRow nw) vs c.2.1 := by
  obtain ⟨T, ws, rfl, hT, v1, r1, rfl, ⟨t1, rfl⟩, v2, r2, rfl, ⟨l1, vs, n1, rfl, m1, d1⟩, v3, r3, rfl, ⟨t2, rfl⟩, h4⟩ := h
  have h4 : r3 = [] := h4
  subst h4
  exact ⟨T, t1, l1, t2, n1, vs, rfl, hT, m1, den_all (fun _ _ => den_xrow) d1⟩
def okB (r : Row) : Bool := decide (r.wanted.length ≤ 1000) && (decide (r.kind = .chars) || decide (0 < r.wanted.length)) && (match r.before with | none => true | some b => decide (0 < b.length ∧ b.length ≤ 1000)) && (match r.after with | none => true | some b => decide (0 < b.length ∧ b.length ≤ 1000))
theorem ok_of {r : Row} (h : okB r = true) : r.ok := by
  unfold okB at h
  simp only [Bool.and_eq_true, Bool.or_eq_true, decide_eq_true_eq] at h
  obtain ⟨⟨⟨h1, h2⟩, h3⟩, h4⟩ := h
  refine ⟨h1, fun hk => h2.resolve_left hk, ?_, ?_⟩
  · cases e : r.before with
    | none => trivial
    | some b => rw [e] at h3; have := of_decide_eq_true h3; exact this
  · cases e : r.after with
    | none => trivial
    | some b => rw [e] at h4; have := of_decide_eq_true h4; exact this
theorem count_good : ∀ c ∈ countCases, c.1.length ≤ 1000 ∧ c.2.1.length ≤ 100 ∧ (∀ r ∈ c.2.1, r.ok) ∧ countsOf c.2.1.length (fitsP c.1 c.2.1) = c.2.2 := by
  have h : countCases.all (fun c => decide (c.1.length ≤ 1000) && decide (c.2.1.length ≤ 100) && c.2.1.all okB && decide (countsOf c.2.1.length (fitsP c.1 c.2.1) = c.2.2)) = true := by decide +kernel
  intro c hc
  have := List.all_eq_true.mp h c hc
  simp only [Bool.and_eq_true, decide_eq_true_eq] at this
  obtain ⟨⟨⟨h1, h2⟩, h3⟩, h4⟩ := this
  exact ⟨h1, h2, fun r hr => ok_of (List.all_eq_true.mp h3 r hr), h4⟩
theorem exchange_good : ∀ c ∈ exchangeCases, c.1.length ≤ 1000 ∧ c.2.1.length ≤ 100 ∧ (∀ r ∈ c.2.1, r.ok) ∧ (∀ r ∈ c.2.1, r.given.length = (r.fresh c.1).width) ∧ exch c.1 c.2.1 = c.2.2 := by
  have h : exchangeCases.all (fun c => decide (c.1.length ≤ 1000) && decide (c.2.1.length ≤ 100) && c.2.1.all okB && c.2.1.all (fun r => decide (r.given.length = (r.fresh c.1).width)) && decide (exch c.1 c.2.1 = c.2.2)) = true := by decide +kernel
  intro c hc
  have := List.all_eq_true.mp h c hc
  simp only [Bool.and_eq_true, decide_eq_true_eq] at this
  obtain ⟨⟨⟨⟨h1, h2⟩, h3⟩, h5⟩, h4⟩ := this
  exact ⟨h1, h2, fun r hr => ok_of (List.all_eq_true.mp h3 r hr), fun r hr => of_decide_eq_true (List.all_eq_true.mp h5 r hr), h4⟩
/-- the rows that were drawn so far -/
def Rows (p c : Addr) (R0 : Led) (n0 k : Nat) (ys : List Value) (nw : Led) : Prop :=
  ∃ (q : Pen) (R : Led) (rws : List Row), nw = (p, penO c q) :: R ∧ (∀ x ∈ R0, x ∈ R) ∧ (∀ x ∈ R, x.1 ≠ p) ∧ q.ok (n0 + 7 * k) ∧ AllIn (XRow R) ys rws ∧ (∀ r ∈ rws, r.ok ∧ ∀ o, r.given.length = (r.fresh o).width) ∧ ys.length = k
theorem rows_step {p c I C D : Addr} {oI oC oD : Obj} {K : Addr × Obj} {R0 R nw' : Led} {n0 k : Nat} {ys : List Value} {rws : List Row} {q q' : Pen} {v : Value} {r : Row} (hx : XRow nw' v r)
    (hT : ∃ T, v = .ref T ∧ p < T ∧ ∀ x ∈ K :: (I, oI) :: (C, oC) :: (D, oD) :: R, x.1 < T) (hs : ∀ x ∈ (p, penO c q') :: K :: (I, oI) :: (C, oC) :: (D, oD) :: R, x ∈ nw') (off : ∀ x ∈ (p, penO c q) :: R, x.1 ≠ I ∧ x.1 ≠ C ∧ x.1 ≠ D)
    (hR : ∀ x ∈ R0, x ∈ R) (hp : ∀ x ∈ R, x.1 ≠ p) (hq : q'.ok (n0 + 7 * (k + 1))) (hA : AllIn (XRow R) ys rws) (hg : ∀ r ∈ rws, r.ok ∧ ∀ o, r.given.length = (r.fresh o).width) (hok : r.ok) (hw : ∀ o, r.given.length = (r.fresh o).width) (hk : ys.length = k) :
    ∃ nw, (∀ x ∈ (I, oI) :: (C, oC) :: (D, oD) :: nw, x ∈ nw') ∧ (∀ x ∈ nw, x.1 ≠ I ∧ x.1 ≠ C ∧ x.1 ≠ D) ∧ Rows p c R0 n0 (k + 1) (ys ++ [v]) nw := by
  obtain ⟨T, rfl, hpT, hlt⟩ := hT
  obtain ⟨T', t1, t2, t3, t4, t5, e, hm⟩ := hx
  have e : T = T' := Value.ref.inj e
  subst e
  have i1 := hlt (I, oI) (.tail _ (.head _))
  have i2 := hlt (C, oC) (.tail _ (.tail _ (.head _)))
  have i3 := hlt (D, oD) (.tail _ (.tail _ (.tail _ (.head _))))
  refine ⟨(p, penO c q') :: (T, _) :: R, fun x hx => ?_, fun x hx => ?_, q', _, rws ++ [r], rfl, fun x hx => .tail _ (hR x hx), fun x hx => ?_, hq, (hA.mono fun v x h => h.mono fun y hy => .tail _ hy).snoc ⟨T, t1, t2, t3, t4, t5, rfl, .head _⟩, fun x hx => ?_, by rw [List.length_append, hk]; rfl⟩
  · rcases List.mem_cons.mp hx with rfl | hx
    · exact hs _ (.tail _ (.tail _ (.head _)))
    rcases List.mem_cons.mp hx with rfl | hx
    · exact hs _ (.tail _ (.tail _ (.tail _ (.head _))))
    rcases List.mem_cons.mp hx with rfl | hx
    · exact hs _ (.tail _ (.tail _ (.tail _ (.tail _ (.head _)))))
    rcases List.mem_cons.mp hx with rfl | hx
    · exact hs _ (.head _)
    rcases List.mem_cons.mp hx with rfl | hx
    · exact hm
    · exact hs _ (.tail _ (.tail _ (.tail _ (.tail _ (.tail _ hx)))))
  · rcases List.mem_cons.mp hx with rfl | hx
    · exact off (p, penO c q) (.head _)
    rcases List.mem_cons.mp hx with rfl | hx
    · exact ⟨Nat.ne_of_gt i1, Nat.ne_of_gt i2, Nat.ne_of_gt i3⟩
    · exact off x (.tail _ hx)
  · rcases List.mem_cons.mp hx with rfl | hx
    · exact Nat.ne_of_gt hpT
    · exact hp x hx
  · rcases List.mem_append.mp hx with hx | hx
    · exact hg x hx
    · rw [List.mem_singleton.mp hx]; exact ⟨hok, hw⟩
end
section
theorem tup_k {w : World} {A : Around} {E : Value → Shared → Prop} {s : Shared} {h₀ : Heap} {L : Addr} {news : Led} {value slice : PySem.Expr} {l : Addr} {vs : List Value} {k : Int} {u : Tok} {v : Value} {Q : Value → Shared → Prop} (N : News h₀ L s.heap news) (hm : (l, tupOf vs) ∈ news) (hk : 0 ≤ k) (hk2 : k < 100000) (hx : vs[k.toNat]? = some v) (h : Q v s)
    (hs : subscripted slice false (.ref l) (.int k u) = operate [.ref l, .int k u] (getItem (.ref l) (.int k u)) := by with_unfolding_all rfl) :
    wpAny (model PG w) A (subscriptTail value slice (.ref l) (.int k u)) Q E s := by
  obtain ⟨i, rfl⟩ := Int.eq_ofNat_of_zero_le hk
  exact tup_at (i := i) N hm (by omega) (by simpa using hx) h hs
def Stop (P : Prop) : Prop := P
theorem Stop.out {P : Prop} (h : Stop P) : P := h
local macro_rules | `(tactic| walk_at "MY units") => `(tactic| (have hcL9 := cLine_is; (simp only [units_deeper, units_in1, callerA]); omega))
theorem o1 {d : Nat} (h : d < 4) : (1 + (d : Int)).toNat ≤ 4 := by omega
theorem o2 {d : Nat} (_ : d < 4) : 0 ≤ 1 + (d : Int) := by omega
theorem o3 {d : Nat} (h : d < 4) : 1 + (d : Int) ≤ 100000 := by omega
theorem o4 {i k : Nat} (h : k ≤ 4) : 100 * i + 43 + 7 * k ≤ 100 * (i + 1) := by omega
theorem o5 {i k : Nat} (h : k ≤ 4) : 100 * i + 1 + 12 + 1 + 7 * k ≤ 100 * i + 42 := by omega
theorem o6 {n k : Nat} : n + 7 * k + 7 ≤ n + 7 * (k + 1) := by omega
theorem AllIn.append {α : Type} {R : Value → α → Prop} {vs us : List Value} {xs zs : List α} (h : AllIn R vs xs) (h2 : AllIn R us zs) : AllIn R (vs ++ us) (xs ++ zs) := by
  refine ⟨by simp [h.1, h2.1], fun i u y a b => ?_⟩
  rw [List.getElem?_append] at a b
  rw [h.1] at a
  split at a
  · rw [if_pos (by assumption)] at b
    exact h.2 i u y a b
  · rw [if_neg (by assumption)] at b
    exact h2.2 _ u y a b
/-- the law's two turns -/
inductive LawJ (a0 p9 c9 : Addr) (R : Led) (i : Nat) (m : Ns) (nw : Led) : Prop
  | intro (q : Pen) (u1 u2 u3 u4 u5 : Option Value) (em : m = ov [(Str.ofString "turn", u1), (Str.ofString "octets", u2), (Str.ofString "counting", u3), (Str.ofString "changing", u4), (Str.ofString "row", u5)] (fun y => if y = Str.ofString "script" then some (Value.ref a0) else none))
    (en : nw = (p9, penO c9 q) :: R) (hq : q.ok (100 * i)) : LawJ a0 p9 c9 R i m nw
set_option maxRecDepth 100000 in
set_option maxHeartbeats 8000000 in
theorem walked : PySem.Challenge.rw_og0077_01.Holds := by
  w_on
  refine holds_law (by decide +kernel) fun said => ?_
  refine holds_open (q := hdView) (loose := [Str.ofString "LedgerError"]) (Xt := fun s => xlAt hdView [] s && recOk (RowW.records (OpenRow.toRowW (OpenLaw.row PySem.Challenge.rw_og0077_01))) s) (XP := XL hdView []) (Yf := Hook.obs hdHook) (Ya := Hook.val hdHook) (YP := Hook.says hdHook) (N := 3300) hdLeft (Hook.of hdHook) (Hook.keeps hdHook) (fun s e => xl_of s (Bool.and_eq_true_iff.mp e).1) XL.keeps (by rfl) (by rfl) (by rfl) (fun s e => recFacts_of (Bool.and_eq_true_iff.mp e).2) (by rfl) (by first | assumption | decide +kernel) (by decide +kernel) ⟨rfl, rfl, rfl, rfl, rfl, by decide +kernel⟩ ?hw ?hc
  case hw => w_witness2
  clear said
  ((have fill : (∀ w : World, (Mine.hdHeap w.params) = (Mine.hdHeap w.params)) ∧ PySem.Challenge.rw_og0077_01.Holds → True := by ((first | k_fill | skip); exact fun _ => trivial)); clear fill)
  intro w s₀ s₁ mg mb G Y fa o pm cd doc dV kV ho hd hcd hD hmg hg args vals as hpre hlay hrd hwl hlo
  have KX := kIn_of Y
  have X := (Ground.X G).1
  have V := (Ground.X G).2
  refine Ground.open G ?_
  intro T B D TE TW
  try (refine guard_noD D (by decide +kernel) ?_; clear D)
  obtain ⟨_, _, M⟩ := bmod_of_top T
  have TA := at_of_top T
  try (obtain ⟨_, _, he, B0⟩ := based_of_top T rfl hmg ho hd; have he' : cd = _ := he; subst he'; clear he)
  clear hmg
  wrow_args hpre hlay hrd hwl hlo
  refine enter_call ?_
  w_top on
  try refine codeAny_mono ?_ (fun _ _ g => GoodW.toG g)
  have K0 := below_caller (Top.heap T)
  w_call any ho hd hcd hD T F
  clear hd TA
  k_drop
  all_goals try k_fold
  dsimp only
  rename World => w
  rename Shared => s1
  rename Below _ _ _ _ => K0
  rename Fr _ _ _ _ => F0
  rename Top _ _ _ _ _ _ => T0
  rename Heap.IsList _ _ _ => hL
  rename IntsAre _ _ => hI
  rename ¬ (_ : Int) < _ => hcond
  rename (_ : Obj).data = _ => d0
  have K1 : Below callerA s1.heap [] s1.heap := K0
  rename_i a0 vs0 as0 ra0 w10 r00 hr0 hc0 h1 tk1 o0 N0 X0
  replace F0 : Fr s1.heap s1.heap.objs.size h1 (fun y => if y = Str.ofString "script" then some (.ref a0) else none) := F0
  replace d0 : o0.data = .cell none := d0
  clear X0 hD ra0 w10 r00 hr0 hc0
  (repeat' (first | (k_unfold; (try dsimp only)) | (k_end; wrow_close) | ((with_reducible show wpAny _ _ (call _ _) _ _ _); k_here; (try dsimp only); (with_reducible show wpAny _ _ (call (Value.ref 233) _) _ _ _); k_dflt (refine' Spec.call (count_cases_spec _ _ ) ?k1 ?k2 ?k3 ?k4 ?k5 ?k6 ?k7 ?k8 ?k9 ?_; (case k1 => k_asm); (case k2 => k_asm); (case k3 => k_asm); (case k4 => k_asm); (case k5 => k_asm); (case k6 => first | assumption | exact rfl); (case k7 => first | assumption | exact rfl); (case k8 => ktr_room); (case k9 => ktr_units); k_whole; intro v9 nw9 h9 tk9 hr9 F9 N9; (obtain ⟨hs9, hd9⟩ := hr9); revert v9 nw9 h9 tk9 F9 N9 hs9 hd9; intros; (try dsimp only); (try k_fold))) | walk1 | (dsimp only; walk1) | (leave1; try dsimp only) | fail "no step"))
  rename Fr _ _ _ _ => F1
  rename News _ _ _ _ => N1
  rename Den _ _ _ => hd1
  rename ∀ p ∈ [_], p ∈ _ => hs1
  rename_i v1 nw1 h2 tk2
  obtain ⟨l1, vs1, n1, rfl, hm1, hl1⟩ := hd1
  refine ⟨vs1.length, fun i v => vs1[i]? = some v, nw1, nw1, fun i ys nw => ys = [] ∧ nw = nw1, fun i v m => m (Str.ofString "row") = some v, Src.list rfl N1 hm1, F1, N1, fun s₂ => ⟨?_, ?_, ?_, ?_, ?_⟩, ?_⟩
  · rintro i ys nw ⟨_, rfl⟩ p hp
    exact hp
  · exact ⟨rfl, rfl⟩
  · rw [hl1.length]; decide
  · intro i v C s' m' Q' E' hi hP hn hkeep h
    exact binds_name rfl (by decide) v C s' m' Q' E' hn (fun h'' tk'' m'' hn'' hb hk'' => h h'' tk'' m'' hn'' hb hk'')
  · rintro i v ys nw I oI C oC D m₂ h tk E' hi hP ⟨rfl, rfl⟩ hyl hC hb F2 N2 off ne
    refine opq_test fun PP1 PN1 hPP1 hPN1 => ?_
    obtain ⟨c, hc, hden⟩ := den_at hl1 hP
    obtain ⟨g1, g2, g3, g4⟩ := count_good c hc
    obtain ⟨T9, t9, la, lb, na, nb, va, vb, rfl, e1, e2, e3, e4, e5⟩ := den_case hden
    have sub : ∀ p ∈ nw, p ∈ (I, oI) :: (C, oC) :: (D, lst []) :: nw := fun p hp => .tail _ (.tail _ (.tail _ hp))
    have f2 := sub _ e2
    have f3 := e3.mono fun v x h => CRow.mono h sub
    (repeat' (first | (k_unfold; (try dsimp only)) | (k_end; wrow_close) | ((with_reducible show wpAny _ _ (call _ _) _ _ _); k_here; (try dsimp only); (with_reducible show wpAny _ _ (call (Value.ref 158) _) _ _ _); k_dflt (refine' Spec.call (tallied_spec _ _ _ _ _ _ _ _ ?e0 ?e1 ?e2 ?e3 ?e4) ?k1 ?k2 ?k3 ?k4 ?k5 ?k6 ?k7 ?k8 ?k9 ?_; (case k1 => k_asm); (case k2 => k_asm); (case k3 => k_asm); (case k4 => k_asm); (case k5 => k_asm); (case k6 => first | assumption | exact rfl); (case k7 => first | assumption | exact rfl); (case k8 => ktr_room); (case k9 => ktr_units); (case e0 => assumption); (case e1 => assumption); (case e2 => assumption); (case e3 => assumption); (case e4 => assumption); k_whole; intro v9 nw9 h9 tk9 hr9 F9 N9; (obtain ⟨hs9, c9, cn9, cv9, e9, hm9, ha9⟩ := hr9; subst e9; have hi9 := ints_of ha9; replace N9 := cb_drop N9 (List.forall_mem_cons.mpr ⟨hm9, hs9⟩); clear hm9 hs9); revert nw9 h9 tk9 F9 N9 c9 cn9 cv9 ha9 hi9; intros; (try dsimp only); (try k_fold))) | (k_here; (with_reducible show wpAny _ _ (subscriptTail _ _ (Value.ref _) (Value.int _ _)) _ _ _); (refine tup_k (s := ⟨_, _, _, _, _⟩) (by k_asm) (by walk_at "MY mem") (by decide) (by decide) (by exact rfl) ?_)) | walk1 | (dsimp only; walk1) | (leave1; try dsimp only) | fail "no step"))
    · rename Fr _ _ _ _ => F9
      rename News _ _ _ _ => N9
      first | exact hPP1 _ _ (CEnd.intro nw F9 N9 (fun p hp => .tail _ hp) off ⟨rfl, rfl⟩) | exact hPN1 _ (CEnd.intro nw F9 N9 (fun p hp => .tail _ hp) off ⟨rfl, rfl⟩)
    · exfalso
      rename ¬ _ = nums _ => hx
      exact hx (by rw [g4])
  · rintro D h tk ys nw ⟨rfl, rfl⟩ F2 N2 offD ltD
    have hcell1 := hs1 _ (.head _)
    (repeat' (first | (k_unfold; (try dsimp only)) | (k_end; wrow_close) | ((with_reducible show wpAny _ _ (call _ _) _ _ _); k_here; (try dsimp only); (with_reducible show wpAny _ _ (call (Value.ref 240) _) _ _ _); k_dflt (refine' Spec.call (exchange_cases_spec _ _ ) ?k1 ?k2 ?k3 ?k4 ?k5 ?k6 ?k7 ?k8 ?k9 ?_; (case k1 => k_asm); (case k2 => k_asm); (case k3 => k_asm); (case k4 => k_asm); (case k5 => k_asm); (case k6 => first | assumption | exact rfl); (case k7 => first | assumption | exact rfl); (case k8 => ktr_room); (case k9 => ktr_units); k_whole; intro v9 nw9 h9 tk9 hr9 F9 N9; (obtain ⟨hs9, hd9⟩ := hr9); revert v9 nw9 h9 tk9 F9 N9 hs9 hd9; intros; (try dsimp only); (try k_fold))) | walk1 | (dsimp only; walk1) | (leave1; try dsimp only) | fail "no step"))
    rename Fr _ _ _ _ => F1
    rename News _ _ _ _ => N1
    rename Den _ _ _ => hd1
    rename_i v1 nw1 h2 tk2 hs2
    obtain ⟨l1, vs1, n1, rfl, hm1, hl1⟩ := hd1
    refine ⟨vs1.length, fun i v => vs1[i]? = some v, nw1, nw1, fun i ys nw => ys = [] ∧ nw = nw1, fun i v m => m (Str.ofString "row") = some v, Src.list rfl N1 hm1, F1, N1, fun s₂ => ⟨?_, ?_, ?_, ?_, ?_⟩, ?_⟩
    · rintro i ys nw ⟨_, rfl⟩ p hp
      exact hp
    · exact ⟨rfl, rfl⟩
    · rw [hl1.length]; decide
    · intro i v C s' m' Q' E' hi hP hn hkeep h
      exact binds_name rfl (by decide) v C s' m' Q' E' hn (fun h'' tk'' m'' hn'' hb hk'' => h h'' tk'' m'' hn'' hb hk'')
    · rintro i v ys nw I oI C oC D m₂ h tk E' hi hP ⟨rfl, rfl⟩ hyl hC hb F2 N2 off ne
      refine opq_test fun PP2 PN2 hPP2 hPN2 => ?_
      obtain ⟨c, hc, hden⟩ := den_at hl1 hP
      obtain ⟨g1, g2, g3, g4, g5⟩ := exchange_good c hc
      obtain ⟨T9, t9, la, t8, na, va, rfl, e1, e2, e3⟩ := den_xcase hden
      have sub : ∀ p ∈ nw, p ∈ (I, oI) :: (C, oC) :: (D, lst []) :: nw := fun p hp => .tail _ (.tail _ (.tail _ hp))
      have f2 := sub _ e2
      have f3 := e3.mono fun v x h => XRow.mono h sub
      (repeat' (first | (k_unfold; (try dsimp only)) | (k_end; wrow_close) | ((with_reducible show wpAny _ _ (call _ _) _ _ _); k_here; (try dsimp only); (with_reducible show wpAny _ _ (call (Value.ref 163) _) _ _ _); k_dflt (refine' Spec.call (replaced_in_spec _ _ _ _ _ _ _ _ ?e0 ?e1 ?e2 ?e3 ?e4 ?e5) ?k1 ?k2 ?k3 ?k4 ?k5 ?k6 ?k7 ?k8 ?k9 ?_; (case k1 => k_asm); (case k2 => k_asm); (case k3 => k_asm); (case k4 => k_asm); (case k5 => k_asm); (case k6 => first | assumption | exact rfl); (case k7 => first | assumption | exact rfl); (case k8 => ktr_room); (case k9 => ktr_units); (case e0 => assumption); (case e1 => assumption); (case e2 => assumption); (case e3 => assumption); (case e4 => assumption); (case e5 => assumption); k_whole; intro v9 nw9 h9 tk9 hr9 F9 N9; (obtain ⟨hs9, t9, e9⟩ := hr9; subst e9; replace N9 := cb_drop N9 hs9; clear hs9); revert nw9 h9 tk9 F9 N9 t9; intros; (try dsimp only); (try k_fold))) | (k_here; (with_reducible show wpAny _ _ (subscriptTail _ _ (Value.ref _) (Value.int _ _)) _ _ _); (refine tup_k (s := ⟨_, _, _, _, _⟩) (by k_asm) (by walk_at "MY mem") (by decide) (by decide) (by exact rfl) ?_)) | walk1 | (dsimp only; walk1) | (leave1; try dsimp only) | fail "no step"))
      · exfalso
        rename (_ != _) = true => hx
        rw [g5] at hx
        simp at hx
      · rename Fr _ _ _ _ => F9
        rename News _ _ _ _ => N9
        first | exact hPP2 _ _ (CEnd.intro nw F9 N9 (fun p hp => hp) off ⟨rfl, rfl⟩) | exact hPN2 _ (CEnd.intro nw F9 N9 (fun p hp => hp) off ⟨rfl, rfl⟩)
    · rintro D h tk ys nw ⟨rfl, rfl⟩ F2 N2 offD ltD
      have hcell2 := hs2 _ (.tail _ (.tail _ hcell1))
      (repeat' (first | (k_unfold; (try dsimp only)) | (k_end; wrow_close) | ((with_reducible show wpAny _ _ (call _ _) _ _ _); k_here; (try dsimp only); (with_reducible show wpAny _ _ (call (Value.ref _) _) _ _ _); refine Stop.out ?_) | walk1 | (dsimp only; walk1) | (leave1; try dsimp only) | fail "no step"))
      unfold Stop
      rename Fr _ _ _ _ => F1
      rename News _ _ _ _ => N1
      refine' pen_call w ?k1 ?k2 ?k3 ?k4 ?k5 ?k6 ?k7 ?k8 ?k9 ?ka ?kb ?kc ?_
      case k1 => k_asm
      case k2 => exact F1
      case k3 => k_asm
      case k4 => exact N1
      case k5 => k_asm
      case k6 => exact rfl
      case k7 => exact rfl
      case k8 => ktr_room
      case k9 => ktr_units
      case ka => exact hL
      case kb => exact hI
      case kc => omega
      intro v9 nw9 h9 tk9 hr9 F9 N9
      refine ex4 hr9 fun p9 c9 q9 rest9 hr9 => ?_
      refine and6 hr9 fun e9 hq9 I9 hoff9 hin9 hmem9 => ?_
      clear hr9
      clear hr9
      subst v9
      obtain ⟨cn9, cv9, xs9, hc9, hci9, hcl9⟩ := I9
      have hcell3 := hin9 _ (.tail _ (.tail _ hcell2))
      have N10 := cb_drop N9 (show ∀ x ∈ (s1.heap.objs.size + 1, o0) :: (p9, penO c9 q9) :: [(c9, listOf cv9.toArray cn9)], x ∈ nw9 from fun x hx => by
        rcases List.mem_cons.mp hx with rfl | hx
        · exact hmem9 _ (.tail _ hcell3)
        rcases List.mem_cons.mp hx with rfl | hx
        · exact hmem9 _ (.head _)
        · rw [List.mem_singleton.mp hx]; exact hmem9 _ (.tail _ hc9))
      clear N9
      (repeat' (first | (k_unfold; (try dsimp only)) | (k_end; wrow_close) | (k_here; (with_reducible show wpAny _ _ (storeName (envOfC _ _ _ _ _) _ _) _ _ _); k_dflt (refine' cell_f ?k1 ?k2 ?k3 ?k4 ?k5 ?_ ?k6 ?k7; (case k1 => k_asm); (case k2 => k_asm); (case k6 => rfl); (case k7 => rfl); (case k3 => rfl); (case k4 => walk_at "MY mem"); (case k5 => assumption)); intro _ _ _ _ _) | walk1 | (dsimp only; walk1) | (leave1; try dsimp only) | fail "no step"))
      rename Fr _ _ _ _ => F3
      rename News _ _ _ _ => N3
      rename IsRange _ _ _ _ _ _ _ _ => hr3
      rename (_ : Obj).data = Data.cell (some (Value.ref p9)) => d9
      rename_i hb3 ob3 _ _ _ _ _ _ _ _ _ _
      have hpc : p9 ≠ s1.heap.objs.size + 1 := Ne.symm (hoff9 _ hcell3)
      have hcc : c9 ≠ p9 := hoff9 _ hc9
      have hcl : c9 ≠ s1.heap.objs.size + 1 := News.fun N10 (.tail _ (.tail _ (.head _))) (.head _) (fun e => by rw [← e] at d0; cases d0)
      have N4 := News.sub (a := (p9, penO c9 q9) :: [(s1.heap.objs.size + 1, ob3), (c9, listOf cv9.toArray cn9)]) N3 (fun x hx => by
        rcases List.mem_cons.mp hx with rfl | hx
        · exact .tail _ (mem_wo.mpr ⟨.tail _ (.head _), hpc⟩)
        rcases List.mem_cons.mp hx with rfl | hx
        · exact .head _
        · rw [List.mem_singleton.mp hx]
          exact .tail _ (mem_wo.mpr ⟨.tail _ (.tail _ (.head _)), hcl⟩))
      have hoff4 : ∀ x ∈ [(s1.heap.objs.size + 1, ob3), (c9, listOf cv9.toArray cn9)], x.1 ≠ p9 := fun x hx => by
        rcases List.mem_cons.mp hx with rfl | hx
        · exact Ne.symm hpc
        · rw [List.mem_singleton.mp hx]; exact hcc
      have I4 : Ink c9 [(s1.heap.objs.size + 1, ob3), (c9, listOf cv9.toArray cn9)] := ⟨cn9, cv9, xs9, .tail _ (.head _), ‹IntsAre cv9 xs9›, hcl9⟩
      clear N3 N10 hin9 hmem9 hc9
      have e0 : (fun y => if y = Str.ofString "script" then some (Value.ref a0) else none) = ov [(Str.ofString "turn", none), (Str.ofString "octets", none), (Str.ofString "counting", none), (Str.ofString "changing", none), (Str.ofString "row", none)] (fun y => if y = Str.ofString "script" then some (Value.ref a0) else none) := ov_start (ov_start (ov_start (ov_start (ov_start ov_nil))))
      refine ⟨2, _, [], _, _, LawJ a0 p9 c9 [(s1.heap.objs.size + 1, ob3), (c9, listOf cv9.toArray cn9)],
        Src.range rfl (by assumption) (by decide) (by decide), F3, N4, ?_, ⟨q9, none, none, none, none, none, e0, rfl, hq9⟩, ?_, ?_⟩
      · rintro i m nw _ p hp
        cases hp
      · rintro i v I oI m1 nw1 h4 tk4 hi hP hJ hI off F4 N5
        refine opq_turn fun PP3 hPP3 => ?_
        obtain ⟨q, u1, u2, u3, u4, u5, eJ, eK, hq⟩ := hJ
        subst m1
        subst nw1
        have hpI : p9 ≠ I := off _ (.head _)
        (repeat' (first | (k_unfold; (try dsimp only)) | (k_end; wrow_close) | ((with_reducible show wpAny _ _ (call _ _) _ _ _); k_here; (try dsimp only); (with_reducible show wpAny _ _ (call (Value.ref _) _) _ _ _); refine Stop.out ?_) | walk1 | (dsimp only; walk1) | (leave1; try dsimp only) | fail "no step"))
        unfold Stop
        rename Fr _ _ _ _ => F5
        rename News _ _ _ _ => N6
        have hoff5 : ∀ x ∈ (I, oI) :: [(s1.heap.objs.size + 1, ob3), (c9, listOf cv9.toArray cn9)], x.1 ≠ p9 := fun x hx => by
          rcases List.mem_cons.mp hx with rfl | hx
          · exact Ne.symm hpI
          · exact hoff4 x hx
        have N7 := News.sub (a := (p9, penO c9 q) :: (I, oI) :: [(s1.heap.objs.size + 1, ob3), (c9, listOf cv9.toArray cn9)]) N6 (fun x hx => by
          rcases List.mem_cons.mp hx with rfl | hx
          · exact .tail _ (.head _)
          rcases List.mem_cons.mp hx with rfl | hx
          · exact .head _
          · exact .tail _ (.tail _ hx))
        refine' Spec.call (text_spec w p9 c9 (100 * i) 12 q [65, 65, 66, 66, 67] _ _ _ ?m0 ?m1 ?m2 hq ?m3 (Ink.mono (fun x hx => .tail _ hx) I4) hoff5) ?l1 ?l2 ?l3 ?l4 ?l5 ?l6 ?l7 ?l8 ?l9 ?_
        case m0 => decide
        case m1 => decide
        case m2 => decide
        case m3 => omega
        case l1 => k_asm
        case l2 => exact F5
        case l3 => k_asm
        case l4 => exact N7
        case l5 => k_asm
        case l6 => exact rfl
        case l7 => exact rfl
        case l8 => ktr_room
        case l9 => ktr_units
        intro v6 nw6 h6 tk6 hr6 F8 N8
        refine ex3 hr6 fun o to q6 hr6 => ?_
        refine and4 hr6 fun e6 ho6 hq6 hs6 => ?_
        clear hr6
        clear hr6
        subst v6
        have N9 := cb_drop N8 hs6
        clear N8 N6 N7 F5
        simp only [ov_pt] at *
        (repeat' (first | (k_unfold; (try dsimp only)) | (k_end; wrow_close) | ((with_reducible show wpAny _ _ (call _ _) _ _ _); k_here; (try dsimp only); (with_reducible show wpAny _ _ (call (Value.ref _) _) _ _ _); refine Stop.out ?_) | walk1 | (dsimp only; walk1) | (leave1; try dsimp only) | fail "no step"))
        unfold Stop
        rename Fr _ _ _ _ => F5
        rename News _ _ _ _ => N6
        refine' Spec.call (draw_at w p9 c9 4 (100 * i + 1 + 12) q6 _ _ ?n0 ?n1 hq6 ?n3 (Ink.mono (fun x hx => .tail _ hx) I4) hoff5) ?nl1 ?nl2 ?nl3 ?nl4 ?nl5 ?nl6 ?nl7 ?nl8 ?nl9 ?_
        case n0 => decide
        case n1 => decide
        case n3 => omega
        case nl1 => k_asm
        case nl2 => exact F5
        case nl3 => k_asm
        case nl4 => exact N6
        case nl5 => k_asm
        case nl6 => exact rfl
        case nl7 => exact rfl
        case nl8 => ktr_room
        case nl9 => ktr_units
        intro v6 nw6 h6 tk6 hr6 F8 N8
        refine ex3 hr6 fun d7 t7 q7 hr6 => ?_
        refine and4 hr6 fun e6 hd7 hq7 hs7 => ?_
        clear hr6
        clear hr6
        subst v6
        have N9 := cb_drop N8 hs7
        clear N8 N6 F5
        (repeat' (first | (k_unfold; (try dsimp only)) | (k_end; wrow_close) | ((with_reducible show wpAny _ _ (call _ _) _ _ _); k_here; (try dsimp only); (with_reducible show wpAny _ _ (call (Value.ref _) _) _ _ _); refine Stop.out ?_) | walk1 | (dsimp only; walk1) | (leave1; try dsimp only) | fail "no step"))
        rename IsRange _ _ _ _ _ _ _ _ => hr5
        rename Fr _ _ _ _ => F5
        rename News _ _ _ _ => N6
        have hnn : (1 + (d7 : Int)).toNat ≤ 4 := o1 hd7
        refine ⟨_, _, [], _, fun k ys nw => Rows p9 c9 ((I, oI) :: [(s1.heap.objs.size + 1, ob3), (c9, listOf cv9.toArray cn9)]) (100 * i + 1 + 12 + 1) k ys nw, fun _ _ _ => True, Src.rangeB rfl hr5 (o2 hd7) (o3 hd7), F5, N6, fun s₂ => ⟨?_, ?_, ?_, ?_, ?_⟩, ?_⟩
        · rintro i ys nw _ p hp
          cases hp
        · exact ⟨q7, _, [], rfl, fun x hx => hx, hoff5, hq7, AllIn.nil, fun r hr => absurd hr List.not_mem_nil, rfl⟩
        · exact Nat.le_trans hnn (Nat.le_of_ble_eq_true rfl)
        · intro i v C s' m' Q' E' hi hP hn hkeep h
          exact binds_name rfl (by decide) v C s' m' Q' E' hn (fun h'' tk'' m'' hn'' _ hk'' => h h'' tk'' m'' hn'' trivial hk'')
        · rintro k v2 ys nw I2 oI2 C oC D2 m₂ h tk E' hk2 hP2 hJ hyl hC _ F6 N10 off2 ne
          refine opq_test fun PP4 PN4 hPP4 hPN4 => ?_
          refine ex3 hJ fun q8 R rws hJ => ?_
          refine and7 hJ fun eJ hR hRp hq8 hA hgood hyk => ?_
          clear hJ
          clear hJ
          subst nw
          refine wpAny_pure ?_
          simp only [if_true]
          have hcR := hR _ (.tail _ (.head _))
          (repeat' (first | (k_unfold; (try dsimp only)) | (k_end; wrow_close) | ((with_reducible show wpAny _ _ (call _ _) _ _ _); k_here; (try dsimp only); (with_reducible show wpAny _ _ (call (Value.ref _) _) _ _ _); refine Stop.out ?_) | walk1 | (dsimp only; walk1) | (leave1; try dsimp only) | fail "no step"))
          unfold Stop
          rename Fr _ _ _ _ => F7
          rename News _ _ _ _ => N7
          rename ∀ (p : Addr × Obj), p ∈ _ → p.1 < _ => lt7
          obtain ⟨ne1, ne2, ne3⟩ := off2 _ (.head _)
          dsimp only at ne1 ne2 ne3
          have hlp := lt7 (p9, penO c9 q8) (.tail _ (.tail _ (.tail _ (.head _))))
          have N8 := News.sub (a := (p9, penO c9 q8) :: (_, _) :: (I2, oI2) :: (C, oC) :: (D2, lst ys) :: R) N7 (fun x hx => by
            rcases List.mem_cons.mp hx with rfl | hx
            · exact .tail _ (.tail _ (.tail _ (.tail _ (.head _))))
            rcases List.mem_cons.mp hx with rfl | hx
            · exact .head _
            rcases List.mem_cons.mp hx with rfl | hx
            · exact .tail _ (.head _)
            rcases List.mem_cons.mp hx with rfl | hx
            · exact .tail _ (.tail _ (.head _))
            rcases List.mem_cons.mp hx with rfl | hx
            · exact .tail _ (.tail _ (.tail _ (.head _)))
            · exact .tail _ (.tail _ (.tail _ (.tail _ (.tail _ hx)))))
          refine' Spec.call (row_spec w p9 c9 _ (100 * i + 1 + 12 + 1 + 7 * k) 0 q8 _ _ ?ra ?rb (.head _) ?rc hq8 ?rd ?rf ?re) ?rl1 ?rl2 ?rl3 ?rl4 ?rl5 ?rl6 ?rl7 ?rl8 ?rl9 ?_
          case rl4 => exact N8
          case ra => exact Nat.zero_lt_succ _
          case rb => exact Nat.le_of_ble_eq_true rfl
          case rf => exact Ink.mono (fun x hx => .tail _ (.tail _ (.tail _ (.tail _ (hR x (.tail _ hx)))))) I4
          case rc =>
            intro v hv
            simp only [List.mem_cons, List.not_mem_nil, or_false] at hv
            rcases hv with rfl | rfl | rfl | rfl
            · exact ⟨.all, _, rfl⟩
            · exact ⟨.all, _, rfl⟩
            · exact ⟨.leading, _, rfl⟩
            · exact ⟨.chars, _, rfl⟩
          case rd => omega
          case re => exact off_pen (Nat.ne_of_gt hlp) (off_pen (Ne.symm ne1) (off_pen (Ne.symm ne2) (off_pen (Ne.symm ne3) hRp)))
          case rl1 => k_asm
          case rl2 => exact F7
          case rl3 => k_asm
          case rl5 => k_asm
          case rl6 => exact rfl
          case rl7 => exact rfl
          case rl8 => ktr_room
          case rl9 => ktr_units
          intro v6 nw6 h6 tk6 hr6 F8 N9
          obtain ⟨r8, q9b, hr6⟩ := hr6
          refine and6 hr6 fun hx8 hT8 hok8 hw8 hq9b hs8 => ?_
          obtain ⟨nwz, z1, z2, z3⟩ := rows_step (n0 := 100 * i + 1 + 12 + 1) (k := k) hx8 hT8 hs8 off2 hR hRp (hq9b.mono (by first | exact o6 | omega)) hA hgood hok8 hw8 hyk
          (repeat' (first | (k_unfold; (try dsimp only)) | (k_end; wrow_close) | ((with_reducible show wpAny _ _ (call _ _) _ _ _); k_here; (try dsimp only); (with_reducible show wpAny _ _ (call (Value.ref _) _) _ _ _); refine Stop.out ?_) | walk1 | (dsimp only; walk1) | (leave1; try dsimp only) | fail "no step"))
          first | exact hPP4 _ _ (CEnd.intro nwz F8 N9 z1 z2 z3) | exact hPN4 _ (CEnd.intro nwz F8 N9 z1 z2 z3)
        · rintro D2 h tk ys nw hJ F6 N10 offD2 ltD2
          refine ex3 hJ fun q8 R rws hJ => ?_
          refine and7 hJ fun eJ hR hRp hq8 hA hgood hyk => ?_
          clear hJ
          clear hJ
          subst nw
          have hcR := hR _ (.tail _ (.head _))
          (repeat' (first | (k_unfold; (try dsimp only)) | (k_end; wrow_close) | ((with_reducible show wpAny _ _ (call _ _) _ _ _); k_here; (try dsimp only); (with_reducible show wpAny _ _ (call (Value.ref _) _) _ _ _); refine Stop.out ?_) | walk1 | (dsimp only; walk1) | (leave1; try dsimp only) | fail "no step"))
          unfold Stop
          rename Fr _ _ _ _ => F7
          rename News _ _ _ _ => N7
          have hDp : D2 ≠ p9 := Ne.symm (offD2 _ (.head _))
          have hoff7 : ∀ x ∈ (D2, lst ys) :: R, x.1 ≠ p9 := off_pen hDp hRp
          have I7 : Ink c9 ((D2, lst ys) :: R) := Ink.mono (fun x hx => .tail _ (hR x (.tail _ hx))) I4
          have N8 := News.sub (a := (p9, penO c9 q8) :: (D2, lst ys) :: R) N7 (fun x hx => by
            rcases List.mem_cons.mp hx with rfl | hx
            · exact .tail _ (.head _)
            rcases List.mem_cons.mp hx with rfl | hx
            · exact .head _
            · exact .tail _ (.tail _ hx))
          have hq8' : q8.ok (100 * i + 42) := hq8.mono (by first | exact o5 hnn | omega)
          refine' Spec.call (draw_at w p9 c9 4 (100 * i + 42) q8 _ _ ?bn0 ?bn1 hq8' ?bn3 I7 hoff7) ?bl1 ?bl2 ?bl3 ?bl4 ?bl5 ?bl6 ?bl7 ?bl8 ?bl9 ?_
          case bn0 => decide
          case bn1 => decide
          case bn3 => omega
          case bl1 => k_asm
          case bl2 => exact F7
          case bl3 => k_asm
          case bl4 => exact N8
          case bl5 => k_asm
          case bl6 => exact rfl
          case bl7 => exact rfl
          case bl8 => ktr_room
          case bl9 => ktr_units
          intro v6 nw6 h6 tk6 hr6 F8 N9
          refine ex3 hr6 fun d8 t8 q10 hr6 => ?_
          refine and4 hr6 fun e6 hd8 hq10 hs8 => ?_
          clear hr6
          clear hr6
          subst v6
          have N11 := cb_drop N9 hs8
          clear N9 N8 N7 F7
          (repeat' (first | (k_unfold; (try dsimp only)) | (k_end; wrow_close) | ((with_reducible show wpAny _ _ (call _ _) _ _ _); k_here; (try dsimp only); (with_reducible show wpAny _ _ (call (Value.ref _) _) _ _ _); refine Stop.out ?_) | walk1 | (dsimp only; walk1) | (leave1; try dsimp only) | fail "no step"))
          rename IsRange _ _ _ _ _ _ _ _ => hr6
          rename Fr _ _ _ _ => F8
          rename News _ _ _ _ => N8
          have hnn2 : (1 + (d8 : Int)).toNat ≤ 4 := o1 hd8
          refine ⟨_, _, [], _, fun k ys2 nw => Rows p9 c9 ((D2, lst ys) :: R) (100 * i + 43) k ys2 nw, fun _ _ _ => True, Src.rangeB rfl hr6 (o2 hd8) (o3 hd8), F8, N8, fun s₂ => ⟨?_, ?_, ?_, ?_, ?_⟩, ?_⟩
          · rintro i ys nw _ p hp
            cases hp
          · exact ⟨q10, _, [], rfl, fun x hx => hx, hoff7, hq10, AllIn.nil, fun r hr => absurd hr List.not_mem_nil, rfl⟩
          · exact Nat.le_trans hnn2 (Nat.le_of_ble_eq_true rfl)
          · intro i v C s' m' Q' E' hi hP hn hkeep h
            exact binds_name rfl (by decide) v C s' m' Q' E' hn (fun h'' tk'' m'' hn'' _ hk'' => h h'' tk'' m'' hn'' trivial hk'')
          · rintro k v2 ysB nw I2 oI2 C oC DB m₂ h tk E' hk2 hP2 hJ hyl hC _ F6 N10 off2 ne
            refine opq_test fun PP5 PN5 hPP5 hPN5 => ?_
            refine ex3 hJ fun qB RB rwsB hJ => ?_
            refine and7 hJ fun eJ hRB hRpB hqB hAB hgoodB hykB => ?_
            clear hJ
            clear hJ
            subst nw
            refine wpAny_pure ?_
            simp only [if_true]
            have hcRB := hRB _ (.tail _ hcR)
            (repeat' (first | (k_unfold; (try dsimp only)) | (k_end; wrow_close) | ((with_reducible show wpAny _ _ (call _ _) _ _ _); k_here; (try dsimp only); (with_reducible show wpAny _ _ (call (Value.ref _) _) _ _ _); refine Stop.out ?_) | walk1 | (dsimp only; walk1) | (leave1; try dsimp only) | fail "no step"))
            unfold Stop
            rename Fr _ _ _ _ => F7
            rename News _ _ _ _ => N7
            rename ∀ (p : Addr × Obj), p ∈ _ → p.1 < _ => lt7
            obtain ⟨ne1, ne2, ne3⟩ := off2 _ (.head _)
            dsimp only at ne1 ne2 ne3
            have hlp := lt7 (p9, penO c9 qB) (.tail _ (.tail _ (.tail _ (.head _))))
            have N8 := News.sub (a := (p9, penO c9 qB) :: (_, _) :: (I2, oI2) :: (C, oC) :: (DB, lst ysB) :: RB) N7 (fun x hx => by
              rcases List.mem_cons.mp hx with rfl | hx
              · exact .tail _ (.tail _ (.tail _ (.tail _ (.head _))))
              rcases List.mem_cons.mp hx with rfl | hx
              · exact .head _
              rcases List.mem_cons.mp hx with rfl | hx
              · exact .tail _ (.head _)
              rcases List.mem_cons.mp hx with rfl | hx
              · exact .tail _ (.tail _ (.head _))
              rcases List.mem_cons.mp hx with rfl | hx
              · exact .tail _ (.tail _ (.tail _ (.head _)))
              · exact .tail _ (.tail _ (.tail _ (.tail _ (.tail _ hx)))))
            refine' Spec.call (row_spec w p9 c9 _ (100 * i + 43 + 7 * k) 0 qB _ _ ?sa ?sb (.head _) ?sc hqB ?sd ?sf ?se) ?sl1 ?sl2 ?sl3 ?sl4 ?sl5 ?sl6 ?sl7 ?sl8 ?sl9 ?_
            case sl4 => exact N8
            case sa => exact Nat.zero_lt_succ _
            case sb => exact Nat.le_of_ble_eq_true rfl
            case sf => exact Ink.mono (fun x hx => .tail _ (.tail _ (.tail _ (.tail _ (hRB x hx))))) I7
            case sc =>
              intro v hv
              simp only [List.mem_cons, List.not_mem_nil, or_false] at hv
              rcases hv with rfl | rfl | rfl | rfl
              · exact ⟨.all, _, rfl⟩
              · exact ⟨.leading, _, rfl⟩
              · exact ⟨.first, _, rfl⟩
              · exact ⟨.chars, _, rfl⟩
            case sd => omega
            case se => exact off_pen (Nat.ne_of_gt hlp) (off_pen (Ne.symm ne1) (off_pen (Ne.symm ne2) (off_pen (Ne.symm ne3) hRpB)))
            case sl1 => k_asm
            case sl2 => exact F7
            case sl3 => k_asm
            case sl5 => k_asm
            case sl6 => exact rfl
            case sl7 => exact rfl
            case sl8 => ktr_room
            case sl9 => ktr_units
            intro v6 nw6 h6 tk6 hr6 F8 N9
            obtain ⟨r8, q9b, hr6⟩ := hr6
            refine and6 hr6 fun hx8 hT8 hok8 hw8 hq9b hs8 => ?_
            obtain ⟨nwz, z1, z2, z3⟩ := rows_step (n0 := 100 * i + 43) (k := k) hx8 hT8 hs8 off2 hRB hRpB (hq9b.mono (by first | exact o6 | omega)) hAB hgoodB hok8 hw8 hykB
            (repeat' (first | (k_unfold; (try dsimp only)) | (k_end; wrow_close) | ((with_reducible show wpAny _ _ (call _ _) _ _ _); k_here; (try dsimp only); (with_reducible show wpAny _ _ (call (Value.ref _) _) _ _ _); refine Stop.out ?_) | walk1 | (dsimp only; walk1) | (leave1; try dsimp only) | fail "no step"))
            first | exact hPP5 _ _ (CEnd.intro nwz F8 N9 z1 z2 z3) | exact hPN5 _ (CEnd.intro nwz F8 N9 z1 z2 z3)
          · rintro D3 h tk ys2 nw hJ F9 N12 offD3 ltD3
            refine ex3 hJ fun q11 R2 rws2 hJ => ?_
            refine and7 hJ fun eJ hR2 hRp2 hq11 hA2 hgood2 hyk2 => ?_
            clear hJ
            clear hJ
            subst nw
            have hcR2 := hR2 _ (.tail _ hcR)
            (repeat' (first | (k_unfold; (try dsimp only)) | (k_end; wrow_close) | ((with_reducible show wpAny _ _ (call _ _) _ _ _); k_here; (try dsimp only); (with_reducible show wpAny _ _ (call (Value.ref _) _) _ _ _); refine Stop.out ?_) | walk1 | (dsimp only; walk1) | (leave1; try dsimp only) | fail "no step"))
            rename Fr _ _ _ _ => F10
            rename News _ _ _ _ => N13
            have hD2 := hR2 _ (.head _)
            have hA3 : AllIn (XRow ((D3, lst ys2) :: (p9, penO c9 q11) :: R2)) ys rws := hA.mono fun v x h => h.mono fun y hy => .tail _ (.tail _ (hR2 y (.tail _ hy)))
            have hD2' : (D2, listOf ys.toArray ys.length) ∈ (D3, lst ys2) :: (p9, penO c9 q11) :: R2 := .tail _ (.tail _ hD2)
            refine ⟨ys.length, fun k v => ys[k]? = some v, (D3, lst ys2) :: (p9, penO c9 q11) :: R2, (D3, lst ys2) :: (p9, penO c9 q11) :: R2, fun k ys3 nw => ∃ tl : Led, nw = tl ++ (D3, lst ys2) :: (p9, penO c9 q11) :: R2 ∧ AllIn (CRow nw) ys3 (rws.take k),
              RowAt rws,
              Src.list rfl N13 hD2', F10, N13, fun s₂ => ⟨?_, ?_, ?_, ?_, ?_⟩, ?_⟩
            · rintro k ys3 nw ⟨tl, rfl, _⟩ p hp
              exact List.mem_append_right _ hp
            · exact ⟨[], rfl, AllIn.nil⟩
            · rw [hyk]; exact Nat.le_trans hnn (Nat.le_of_ble_eq_true rfl)
            · intro k v C s' m' Q' E' hk hP hn hkeep h
              obtain ⟨r, hr, T1, t1, t2, t3, t4, t5, rfl, hT⟩ := hA3.get hP
              refine binds_tuple [(_, _), (_, _), (_, _), (_, _), (_, _)] rfl (by decide) rfl T1 _ C s' m' Q' E' ⟨_, hkeep _ hT, rfl, _, rfl⟩ rfl hn (fun _ => rfl) (fun _ => rfl) fun h'' tk'' hn'' hk'' => ?_
              exact h h'' tk'' _ hn'' ⟨r, t1, t2, t4, t5, hr, rfl, rfl, rfl, rfl⟩ hk''
            · rintro k v ys3 nw I4' oI4 C oC D4 m₂ h tk E' hk hP ⟨tl, rfl, hA4⟩ hyl hC hB F11 N14 off4 ne4
              refine opq_test fun PP6 PN6 hPP6 hPN6 => ?_
              obtain ⟨r, t1, t2, t3, t4, hr, b1, b2, b3, b4⟩ := hB
              refine wpAny_pure ?_
              simp only [if_true]
              (repeat' (first | (k_unfold; (try dsimp only)) | (k_end; wrow_close) | ((with_reducible show wpAny _ _ (call _ _) _ _ _); k_here; (try dsimp only); (with_reducible show wpAny _ _ (call (Value.ref _) _) _ _ _); refine Stop.out ?_) | walk1 | (dsimp only; walk1) | (leave1; try dsimp only) | fail "no step"))
              rename Fr _ _ _ _ => F12
              rename News _ _ _ _ => N15
              rename ∀ (p : Addr × Obj), p ∈ _ → p.1 < _ => lt9
              have j1 := lt9 (I4', oI4) (.head _)
              have j2 := lt9 (C, oC) (.tail _ (.head _))
              have j3 := lt9 (D4, lst ys3) (.tail _ (.tail _ (.head _)))
              refine hPP6 _ _ <| CEnd.intro ((_, tupOf [Value.str r.kind.str t1, wvOf r.kind r.wanted t2, vOpt r.before t3, vOpt r.after t4]) :: (tl ++ (D3, lst ys2) :: (p9, penO c9 q11) :: R2)) F12 N15 pen3' (fun p hp => ?_) ⟨_ :: tl, rfl, ?_⟩
              · rcases List.mem_cons.mp hp with rfl | hp
                · exact ⟨Nat.ne_of_gt j1, Nat.ne_of_gt j2, Nat.ne_of_gt j3⟩
                · exact off4 p hp
              · rw [take_snoc hr]
                exact (hA4.mono fun v x h => h.mono fun y hy => .tail _ hy).snoc ⟨_, _, _, _, _, rfl, .head _⟩
            · rintro D4 h tk ys3 nw ⟨tl, rfl, hA4⟩ F11 N14 offD4 ltD4
              have hro : ∀ r ∈ rws, r.ok := fun r hr => (hgood r hr).1
              have hol : o.length ≤ 1000 := Nat.le_trans ho6 (Nat.le_of_ble_eq_true rfl)
              have hrl : rws.length ≤ 100 := by rw [← hA.1, hyk]; exact Nat.le_trans hnn (Nat.le_of_ble_eq_true rfl)
              have hm4 : (D4, listOf ys3.toArray ys3.length) ∈ (D4, lst ys3) :: (tl ++ (D3, lst ys2) :: (p9, penO c9 q11) :: R2) := .head _
              have hv4 : AllIn (CRow ((D4, lst ys3) :: (tl ++ (D3, lst ys2) :: (p9, penO c9 q11) :: R2))) ys3 rws := by
                rw [hA.1, List.take_length] at hA4
                exact hA4.mono fun v x h => h.mono fun y hy => .tail _ hy
              (repeat' (first | (k_unfold; (try dsimp only)) | (k_end; wrow_close) | ((with_reducible show wpAny _ _ (call _ _) _ _ _); k_here; (try dsimp only); (with_reducible show wpAny _ _ (call (Value.ref 158) _) _ _ _); k_dflt (refine' Spec.call (tallied_spec _ _ _ _ _ _ _ _ ?e0 ?e1 ?e2 ?e3 ?e4) ?k1 ?k2 ?k3 ?k4 ?k5 ?k6 ?k7 ?k8 ?k9 ?_; (case k1 => k_asm); (case k2 => k_asm); (case k3 => k_asm); (case k4 => k_asm); (case k5 => k_asm); (case k6 => first | assumption | exact rfl); (case k7 => first | assumption | exact rfl); (case k8 => ktr_room); (case k9 => ktr_units); (case e0 => assumption); (case e1 => assumption); (case e2 => assumption); (case e3 => assumption); (case e4 => assumption); k_whole; intro v9 nw9 h9 tk9 hr9 F9 N9; (obtain ⟨hs9, c9, cn9, cv9, e9, hm9, ha9⟩ := hr9; subst e9; have hi9 := ints_of ha9; replace N9 := cb_drop N9 (List.forall_mem_cons.mpr ⟨hm9, hs9⟩); clear hm9 hs9); revert nw9 h9 tk9 F9 N9 c9 cn9 cv9 ha9 hi9; intros; (try dsimp only); (try k_fold))) | ((with_reducible show wpAny _ _ (call _ _) _ _ _); k_here; (try dsimp only); (with_reducible show wpAny _ _ (call (Value.ref _) _) _ _ _); refine Stop.out ?_) | walk1 | (dsimp only; walk1) | (leave1; try dsimp only) | fail "no step"))
              unfold Stop
              rename Fr _ _ _ _ => F13
              rename News _ _ _ _ => N16
              refine' Spec.call (law_counts_spec w o rws _ D2 ys.length ys _ ?ta ?tb ?tc ?td ?te) ?tl1 ?tl2 ?tl3 ?tl4 ?tl5 ?tl6 ?tl7 ?tl8 ?tl9 ?_
              case tl4 => exact N16
              case ta => exact hol
              case tb => exact hrl
              case tc => exact hro
              case td => exact .tail _ (.tail _ (List.mem_append_right _ hD2'))
              case te => exact hA3.mono fun v x h => h.mono fun y hy => .tail _ (.tail _ (List.mem_append_right _ hy))
              case tl1 => k_asm
              case tl2 => exact F13
              case tl3 => k_asm
              case tl5 => k_asm
              case tl6 => exact rfl
              case tl7 => exact rfl
              case tl8 => ktr_room
              case tl9 => ktr_units
              intro v6 nw6 h6 tk6 hr6 F14 N17
              obtain ⟨hs6, hr6⟩ := hr6
              refine ex3 hr6 fun c6 cn6 cv6 hr6 => ?_
              refine and3 hr6 fun e6 hm6 ha6 => ?_
              clear hr6
              clear hr6
              subst v6
              have hi6 := ints_of ha6
              have N18 := cb_drop N17 (List.forall_mem_cons.mpr ⟨hm6, hs6⟩)
              clear N17
              (repeat' (first | (k_unfold; (try dsimp only)) | (k_end; wrow_close) | ((with_reducible show wpAny _ _ (call _ _) _ _ _); k_here; (try dsimp only); (with_reducible show wpAny _ _ (call (Value.ref _) _) _ _ _); refine Stop.out ?_) | walk1 | (dsimp only; walk1) | (leave1; try dsimp only) | fail "no step"))
              · unfold Stop
                rename Fr _ _ _ _ => F15
                have hro2 : ∀ r ∈ rws2, r.ok := fun r hr => (hgood2 r hr).1
                have hg2 : ∀ r ∈ rws2, r.given.length = (r.fresh o).width := fun r hr => (hgood2 r hr).2 o
                have hrl2 : rws2.length ≤ 100 := by rw [← hA2.1, hyk2]; exact Nat.le_trans hnn2 (Nat.le_of_ble_eq_true rfl)
                have hA22 : AllIn (XRow ((D3, lst ys2) :: (p9, penO c9 q11) :: R2)) ys2 rws2 := hA2.mono fun v x h => h.mono fun y hy => .tail _ (.tail _ hy)
                have N20 := led_less (a := (D3, lst ys2) :: (p9, penO c9 q11) :: R2) N18 (fun p hp => .tail _ (.tail _ (.tail _ (List.mem_append_right _ hp))))
                clear N18
                refine' Spec.call (replaced_in_spec w o rws2 _ D3 ys2.length ys2 _ ?ua ?ub ?uc ?ud ?ue ?uf) ?ul1 ?ul2 ?ul3 ?ul4 ?ul5 ?ul6 ?ul7 ?ul8 ?ul9 ?_
                case ul4 => exact N20
                case ua => exact hol
                case ub => exact hrl2
                case uc => exact hro2
                case ud => exact .head _
                case ue => exact hA22
                case uf => exact hg2
                case ul1 => k_asm
                case ul2 => exact F15
                case ul3 => k_asm
                case ul5 => k_asm
                case ul6 => exact rfl
                case ul7 => exact rfl
                case ul8 => ktr_room
                case ul9 => ktr_units
                intro v7 nw7 h7 tk7 hr7 F16 N21
                obtain ⟨hs7, t7, rfl⟩ := hr7
                have N22 := cb_drop N21 hs7
                clear N21 N20 F15
                (repeat' (first | (k_unfold; (try dsimp only)) | (k_end; wrow_close) | ((with_reducible show wpAny _ _ (call _ _) _ _ _); k_here; (try dsimp only); (with_reducible show wpAny _ _ (call (Value.ref _) _) _ _ _); refine Stop.out ?_) | walk1 | (dsimp only; walk1) | (leave1; try dsimp only) | fail "no step"))
                unfold Stop
                rename Fr _ _ _ _ => F17
                rename News _ _ _ _ => N23
                refine' Spec.call (exchanged_spec w o rws2 _ D3 ys2.length ys2 _ ?xa ?xb ?xc ?xd ?xe ?xf) ?xl1 ?xl2 ?xl3 ?xl4 ?xl5 ?xl6 ?xl7 ?xl8 ?xl9 ?_
                case xl4 => exact N23
                case xa => exact hol
                case xb => exact hrl2
                case xc => exact hro2
                case xd => exact .head _
                case xe => exact hA22
                case xf => exact hg2
                case xl1 => k_asm
                case xl2 => exact F17
                case xl3 => k_asm
                case xl5 => k_asm
                case xl6 => exact rfl
                case xl7 => exact rfl
                case xl8 => ktr_room
                case xl9 => ktr_units
                intro v8 nw8 h8 tk8 hr8 F18 N24
                obtain ⟨hs8, t8, rfl⟩ := hr8
                have N25 := cb_drop N24 hs8
                clear N24 N23 F17
                (repeat' (first | (k_unfold; (try dsimp only)) | (k_end; wrow_close) | ((with_reducible show wpAny _ _ (exec (Stmt.For (Expr.Name _ _) (Expr.BinOp _ _ _ _) _ _ _) _) _ _ _); k_here; k_dflt (refine' for_src ?k1 ?_; (case k1 => k_asm))) | walk1 | (dsimp only; walk1) | (leave1; try dsimp only) | fail "no step"))
                · exfalso
                  rename (_ != _) = true => hx
                  rw [exch, fits_walk o rws2 hro2] at hx
                  simp at hx
                · rename Fr _ _ _ _ => F19
                  rename News _ _ _ _ => N26
                  refine add_l (ws := ys2) (k' := ys2.length) F19 N26 hD2' (.head _) (by rw [hyk, hyk2]; exact Nat.le_trans (Nat.add_le_add hnn hnn2) (Nat.le_of_ble_eq_true rfl)) (fun D9 h9' F20 N27 lt9 => ?_)
                  have hAll : AllIn (XRow ((D9, listOf (ys ++ ys2).toArray 0) :: (D3, lst ys2) :: (p9, penO c9 q11) :: R2)) (ys ++ ys2) (rws ++ rws2) := (hA3.append hA22).mono fun v x h => h.mono fun y hy => .tail _ hy
                  have hallok : ∀ r ∈ rws ++ rws2, r.ok := fun r hr => (List.mem_append.mp hr).elim (hro r) (hro2 r)
                  refine ⟨(ys ++ ys2).length, fun k v => (ys ++ ys2)[k]? = some v, ((D9, listOf (ys ++ ys2).toArray 0) :: (D3, lst ys2) :: (p9, penO c9 q11) :: R2), _, ((D9, listOf (ys ++ ys2).toArray 0) :: (D3, lst ys2) :: (p9, penO c9 q11) :: R2), fun k m nw => (∃ u, m = (ov [(Str.ofString "turn", some v), (Str.ofString "octets", some (.bytes o.toArray to)), (Str.ofString "counting", some (.ref D2)), (Str.ofString "changing", some (.ref D3)), (Str.ofString "row", u)] (fun y => if y = Str.ofString "script" then some (Value.ref a0) else none))) ∧ nw = ((D9, listOf (ys ++ ys2).toArray 0) :: (D3, lst ys2) :: (p9, penO c9 q11) :: R2), Src.list rfl N27 (.head _), F20, N27, ?_, ⟨⟨u5, by simp only [ov_pt]; rfl⟩, rfl⟩, ?_, ?_⟩
                  · rintro k m nw ⟨_, rfl⟩ p hp
                    exact hp
                  · rintro k v2 I9 oI9 m2 nw2 h tk hk hP ⟨⟨u, rfl⟩, rfl⟩ hI9 off9 F21 N28
                    refine opq_turn fun PP7 hPP7 => ?_
                    obtain ⟨r, hr, hX⟩ := hAll.get hP
                    refine ex6 hX fun T9 t1 t2 t3 t4 t5 hX => ?_
                    obtain ⟨eX, hT⟩ := hX
                    clear hX
                    subst v2
                    have hrok : r.ok := hallok r (List.mem_of_getElem? hr)
                    have hraft := hrok.aft
                    have hrbef := hrok.bef
                    (repeat' (first | (k_unfold; (try dsimp only)) | (k_end; wrow_close) | ((with_reducible show wpAny _ _ (call _ _) _ _ _); k_here; (try dsimp only); (with_reducible show wpAny _ _ (call (Value.ref 90) _) _ _ _); k_dflt (refine' SpecV.call (stretch_end_spec _ _ _ _ _ ?e0 ?e1) ?k1 ?k2 ?k3 ?k4 ?k5 ?k6 ?k7 ?k8 ?k9 ?_; (case k1 => k_asm); (case k2 => k_asm); (case k3 => k_asm); (case k4 => k_asm); (case k5 => k_asm); (case k6 => first | assumption | exact rfl); (case k7 => first | assumption | exact rfl); (case k8 => ktr_room); (case k9 => ktr_units); (case e0 => assumption); (case e1 => assumption); k_whole; intro _ _ _ _ _; (try dsimp only); (try k_fold))) | ((with_reducible show wpAny _ _ (call _ _) _ _ _); k_here; (try dsimp only); (with_reducible show wpAny _ _ (call (Value.ref 83) _) _ _ _); k_dflt (refine' SpecV.call (stretch_begin_spec _ _ _ _ _ ?e0 ?e1) ?k1 ?k2 ?k3 ?k4 ?k5 ?k6 ?k7 ?k8 ?k9 ?_; (case k1 => k_asm); (case k2 => k_asm); (case k3 => k_asm); (case k4 => k_asm); (case k5 => k_asm); (case k6 => first | assumption | exact rfl); (case k7 => first | assumption | exact rfl); (case k8 => ktr_room); (case k9 => ktr_units); (case e0 => assumption); (case e1 => assumption); k_whole; intro _ _ _ _ _; (try dsimp only); (try k_fold))) | ((with_reducible show wpAny _ _ (call _ _) _ _ _); k_here; (try dsimp only); (with_reducible show wpAny _ _ (call (Value.ref _) _) _ _ _); refine Stop.out ?_) | (k_here; (with_reducible show wpAny _ _ (subscriptTail _ _ (Value.ref _) (Value.int _ _)) _ _ _); (refine tup_k (s := ⟨_, _, _, _, _⟩) (by k_asm) (by walk_at "MY mem") (by decide) (by decide) (by exact rfl) ?_)) | walk1 | (dsimp only; walk1) | (leave1; try dsimp only) | fail "no step"))
                    unfold Stop
                    rename Fr _ _ _ _ => F22
                    rename News _ _ _ _ => N29
                    refine' Spec.call (span_spec w o r.before r.after _ _ _ _ hol hrbef hraft) ?yl1 ?yl2 ?yl3 ?yl4 ?yl5 ?yl6 ?yl7 ?yl8 ?yl9 ?_
                    case yl4 => exact N29
                    case yl1 => k_asm
                    case yl2 => exact F22
                    case yl3 => k_asm
                    case yl5 => k_asm
                    case yl6 => exact rfl
                    case yl7 => exact rfl
                    case yl8 => ktr_room
                    case yl9 => ktr_units
                    intro v10 nw10 h10 tk10 hr10 F23 N30
                    obtain ⟨hs10, hr10⟩ := hr10
                    refine ex3 hr10 fun T10 z1 z2 hr10 => ?_
                    refine and3 hr10 fun e10 hT10 hlt10 => ?_
                    clear hr10
                    clear hr10
                    subst v10
                    have N31 := cb_drop N30 (List.forall_mem_cons.mpr ⟨hT10, hs10⟩)
                    clear N30 N29 F22
                    (repeat' (first | (k_unfold; (try dsimp only)) | (k_end; wrow_close) | (k_here; (with_reducible show wpAny _ _ (compareOp CmpOp.NotEq (Value.ref _) (Value.ref _)) _ _ _); k_dflt (refine ne_pairT (by k_asm) (by walk_at "MY mem") (by walk_at "MY mem") (by walk_at "MY units") ?_)) | walk1 | (dsimp only; walk1) | (leave1; try dsimp only) | fail "no step"))
                    · rename Fr _ _ _ _ => F24
                      rename News _ _ _ _ => N32
                      exact hPP7 _ _ <| TEnd.next ((D9, listOf (ys ++ ys2).toArray 0) :: (D3, lst ys2) :: (p9, penO c9 q11) :: R2) F24 N32 (fun p hp => .tail _ (.tail _ hp)) off9 ⟨⟨_, by simp only [ov_pt]; rfl⟩, rfl⟩
                    · exfalso
                      rename ¬ _ = [_, _] => hx
                      exact hx rfl
                  · rintro m2 nw2 h tk ⟨⟨u, rfl⟩, rfl⟩ F21 N28
                    dsimp only
                    (repeat' (first | (k_unfold; (try dsimp only)) | (k_end; wrow_close) | ((with_reducible show wpAny _ _ (call _ _) _ _ _); k_here; (try dsimp only); (with_reducible show wpAny _ _ (call (Value.ref _) _) _ _ _); refine Stop.out ?_) | walk1 | (dsimp only; walk1) | (leave1; try dsimp only) | fail "no step"))
                    refine hPP3 _ _ <| TEnd.next ((p9, penO c9 q11) :: [(s1.heap.objs.size + 1, ob3), (c9, listOf cv9.toArray cn9)]) F21 N28 (fun p hp => ?_) (fun p hp => ?_) ⟨q11, _, _, _, _, _, rfl, rfl, hq11.mono (o4 hnn2)⟩
                    · rcases List.mem_cons.mp hp with rfl | hp
                      · exact .tail _ (.tail _ (.tail _ (hR2 _ (.tail _ (hR _ (.head _))))))
                      rcases List.mem_cons.mp hp with rfl | hp
                      · exact .tail _ (.tail _ (.head _))
                      · exact .tail _ (.tail _ (.tail _ (hR2 _ (.tail _ (hR _ (.tail _ hp))))))
                    · rcases List.mem_cons.mp hp with rfl | hp
                      · exact hpI
                      · exact off p (.tail _ hp)
              · exfalso
                rename ¬ _ = nums _ => hx
                exact hx (by rw [fits_walk o rws hro])
      · rintro m1 nw1 h4 tk4 hJ F4 N5
        obtain ⟨q, u1, u2, u3, u4, u5, eJ, eK, hq⟩ := hJ
        subst m1
        subst nw1
        (repeat' (first | (k_unfold; (try dsimp only)) | (k_end; wrow_close) | ((with_reducible show wpAny _ _ (call _ _) _ _ _); k_here; (try dsimp only); (with_reducible show wpAny _ _ (call (Value.ref _) _) _ _ _); refine Stop.out ?_) | walk1 | (dsimp only; walk1) | (leave1; try dsimp only) | fail "no step"))
        unfold Stop
        rename Fr _ _ _ _ => F5
        rename News _ _ _ _ => N6
        refine' refused_spec w [65, 66] _ _ ?k0 _ _ _ _ _ _ _ _ _ _ _ _ _ _ _ ?k1 ?k2 ?k3 ?k4 ?k5 ?k6 ?k7 ?k8 ?k9 ?ka ?kb ?_
        case k0 => decide
        case k1 => exact K1
        case k2 => exact F5
        case k3 => k_asm
        case k4 => exact N6
        case k5 => exact T0
        case k6 => exact rfl
        case k7 => exact rfl
        case k8 => k_asm
        case k9 => exact T0
        case ka => ktr_room
        case kb => ktr_units
        intro h5 tk5 F7 N7
        (repeat' (first | (k_unfold; (try dsimp only)) | (k_end; wrow_close) | ((with_reducible show wpAny _ _ (call _ _) _ _ _); k_here; (try dsimp only); (with_reducible show wpAny _ _ (call (Value.ref _) _) _ _ _); refine Stop.out ?_) | walk1 | (dsimp only; walk1) | (leave1; try dsimp only) | fail "no step"))
        unfold Stop
        rename Fr _ _ _ _ => F5
        rename News _ _ _ _ => N6
        refine' refused_spec w [] _ _ ?kk0 _ _ _ _ _ _ _ _ _ _ _ _ _ _ _ ?kk1 ?kk2 ?kk3 ?kk4 ?kk5 ?kk6 ?kk7 ?kk8 ?kk9 ?kka ?kkb ?_
        case kk0 => decide
        case kk1 => exact K1
        case kk2 => exact F5
        case kk3 => k_asm
        case kk4 => exact N6
        case kk5 => exact T0
        case kk6 => exact rfl
        case kk7 => exact rfl
        case kk8 => k_asm
        case kk9 => exact T0
        case kka => ktr_room
        case kkb => ktr_units
        intro h5 tk5 F7 N7
        (repeat' (first | (k_unfold; (try dsimp only)) | (k_end; wrow_close) | ((with_reducible show wpAny _ _ (call _ _) _ _ _); k_here; (try dsimp only); (with_reducible show wpAny _ _ (call (Value.ref _) _) _ _ _); refine Stop.out ?_) | walk1 | (dsimp only; walk1) | (leave1; try dsimp only) | fail "no step"))
end
end Mine
theorem PySem.Challenge.cw_og0077_01_holds : PySem.Challenge.rw_og0077_01.Holds :=
  Mine.walked
