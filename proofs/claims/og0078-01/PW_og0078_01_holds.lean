import PyProof.Rows.All
import Wide.All
import OpenK.AllK
import Wide.FinOn
import Lean
import PySem.Challenge.RW_og0078_01
open PySem PySem.W PyProof.Rows
set_option Elab.async false
set_option maxRecDepth 100000
set_option maxHeartbeats 4000000
set_option compiler.extract_closed false
namespace Mine
/-! The head: the top's run is checked by the kernel at once; the defs stand by their place in the row's program. -/
noncomputable def thePr : Program := PySem.Challenge.rw_og0078_01.row.prog
noncomputable def noSt : Stmt := .Pass ⟨0, 0, 0, 0⟩
noncomputable def at1 (i : Nat) : Stmt := thePr.main.body.getD i noSt
noncomputable def at2 (i j : Nat) : Stmt := match at1 i with
  | .ClassDef _ _ _ body _ _ _ _ _ _ _ => body.getD j noSt
  | s => s
noncomputable def fPar (s : Stmt) : Arguments := match s with
  | .FunctionDef _ a _ _ _ _ _ _ _ _ => a
  | _ => default
noncomputable def fBod (s : Stmt) : FuncBody := match s with
  | .FunctionDef _ _ b _ _ _ _ _ _ _ => .stmts b
  | _ => .stmts []
noncomputable def fSco (s : Stmt) : Scope := match s with
  | .FunctionDef _ _ _ _ _ _ c _ _ _ => c
  | _ => default
noncomputable def hd.view_39 : Program := { thePr with main := { thePr.main with body := [at1 0, at1 2, at1 3, at1 5, at1 6, at1 8, at1 9, at1 10, at1 11, at1 12, at1 13, at1 14, at1 15, at1 16, at1 18, at1 19, at1 20, at1 21, at1 22, at1 23, at1 24, at1 25, at1 26, at1 27, at1 28] } }
noncomputable def hd.heap_39 : Params → Frag := fun P =>
  (nat_lit 2, (PySem.Obj.mk PySem.Value.none none (PySem.Data.dict (List.toArray [(PySem.DictEntry.mk (PySem.PyData.keyHash P (Str.ofString "type.__subclasses__.Exception.0")) (PySem.Value.str (Str.ofString "type.__subclasses__.Exception.0") 232) (PySem.Value.int (47 : Int) 0)), (PySem.DictEntry.mk (PySem.PyData.keyHash P (Str.ofString "type.__subclasses__.Exception.n")) (PySem.Value.str (Str.ofString "type.__subclasses__.Exception.n") 233) (PySem.Value.int (1 : Int) 0))]) 2) (List.toArray []))) ::
  (nat_lit 3, (PySem.Obj.mk (PySem.Value.type "dict") none (PySem.Data.dict (List.toArray [(PySem.DictEntry.mk (PySem.PyData.keyHash P (Str.ofString "__name__")) (PySem.Value.str (Str.ofString "__name__") 165) (PySem.Value.str (Str.ofString "law_og0078_01") 416)), (PySem.DictEntry.mk (PySem.PyData.keyHash P (Str.ofString "__doc__")) (PySem.Value.str (Str.ofString "__doc__") 166) PySem.Value.none), (PySem.DictEntry.mk (PySem.PyData.keyHash P (Str.ofString "__package__")) (PySem.Value.str (Str.ofString "__package__") 167) PySem.Value.none), (PySem.DictEntry.mk (PySem.PyData.keyHash P (Str.ofString "__loader__")) (PySem.Value.str (Str.ofString "__loader__") 168) (PySem.Value.builtin "__main__.__loader__#opaque")), (PySem.DictEntry.mk (PySem.PyData.keyHash P (Str.ofString "__spec__")) (PySem.Value.str (Str.ofString "__spec__") 169) PySem.Value.none), (PySem.DictEntry.mk (PySem.PyData.keyHash P (Str.ofString "__annotations__")) (PySem.Value.str (Str.ofString "__annotations__") 170) (PySem.Value.ref 6)), (PySem.DictEntry.mk (PySem.PyData.keyHash P (Str.ofString "__builtins__")) (PySem.Value.str (Str.ofString "__builtins__") 171) (PySem.Value.ref 4)), (PySem.DictEntry.mk (PySem.PyData.keyHash P (Str.ofString "__file__")) (PySem.Value.str (Str.ofString "__file__") 173) (PySem.Value.str (Str.ofString "/claim/cut.py") 172)), (PySem.DictEntry.mk (PySem.PyData.keyHash P (Str.ofString "__cached__")) (PySem.Value.str (Str.ofString "__cached__") 174) PySem.Value.none), (PySem.DictEntry.mk (PySem.PyData.keyHash P (Str.ofString "_wall")) (PySem.Value.str (Str.ofString "_wall") 193) (PySem.Value.ref 21)), (PySem.DictEntry.mk (PySem.PyData.keyHash P (Str.ofString "LedgerError")) (PySem.Value.str (Str.ofString "LedgerError") 235) (PySem.Value.ref 47)), (PySem.DictEntry.mk (PySem.PyData.keyHash P (Str.ofString "RunFault")) (PySem.Value.str (Str.ofString "RunFault") 251) (PySem.Value.ref 60)), (PySem.DictEntry.mk (PySem.PyData.keyHash P (Str.ofString "lies_at")) (PySem.Value.str (Str.ofString "lies_at") 262) (PySem.Value.ref 69)), (PySem.DictEntry.mk (PySem.PyData.keyHash P (Str.ofString "first_at")) (PySem.Value.str (Str.ofString "first_at") 272) (PySem.Value.ref 76)), (PySem.DictEntry.mk (PySem.PyData.keyHash P (Str.ofString "SEEKER_KINDS")) (PySem.Value.str (Str.ofString "SEEKER_KINDS") 276) (PySem.Value.str (Str.ofString "ALL LEADING FIRST CHARACTERS") 275)), (PySem.DictEntry.mk (PySem.PyData.keyHash P (Str.ofString "stretch_begin")) (PySem.Value.str (Str.ofString "stretch_begin") 285) (PySem.Value.ref 83)), (PySem.DictEntry.mk (PySem.PyData.keyHash P (Str.ofString "stretch_end")) (PySem.Value.str (Str.ofString "stretch_end") 294) (PySem.Value.ref 90)), (PySem.DictEntry.mk (PySem.PyData.keyHash P (Str.ofString "Seeker")) (PySem.Value.str (Str.ofString "Seeker") 363) (PySem.Value.ref 135)), (PySem.DictEntry.mk (PySem.PyData.keyHash P (Str.ofString "seeker_of")) (PySem.Value.str (Str.ofString "seeker_of") 374) (PySem.Value.ref 146)), (PySem.DictEntry.mk (PySem.PyData.keyHash P (Str.ofString "fits_in")) (PySem.Value.str (Str.ofString "fits_in") 387) (PySem.Value.ref 153)), (PySem.DictEntry.mk (PySem.PyData.keyHash P (Str.ofString "tallied")) (PySem.Value.str (Str.ofString "tallied") 393) (PySem.Value.ref 158)), (PySem.DictEntry.mk (PySem.PyData.keyHash P (Str.ofString "replaced_in")) (PySem.Value.str (Str.ofString "replaced_in") 399) (PySem.Value.ref 163)), (PySem.DictEntry.mk (PySem.PyData.keyHash P (Str.ofString "converted")) (PySem.Value.str (Str.ofString "converted") 415) (PySem.Value.ref 170)), (PySem.DictEntry.mk (PySem.PyData.keyHash P (Str.ofString "_law_pen")) (PySem.Value.str (Str.ofString "_law_pen") 423) (PySem.Value.ref 175)), (PySem.DictEntry.mk (PySem.PyData.keyHash P (Str.ofString "_law_draw")) (PySem.Value.str (Str.ofString "_law_draw") 436) (PySem.Value.ref 182)), (PySem.DictEntry.mk (PySem.PyData.keyHash P (Str.ofString "_law_pick")) (PySem.Value.str (Str.ofString "_law_pick") 444) (PySem.Value.ref 189)), (PySem.DictEntry.mk (PySem.PyData.keyHash P (Str.ofString "_law_text")) (PySem.Value.str (Str.ofString "_law_text") 450) (PySem.Value.ref 194)), (PySem.DictEntry.mk (PySem.PyData.keyHash P (Str.ofString "_law_cases")) (PySem.Value.str (Str.ofString "_law_cases") 457) (PySem.Value.ref 201)), (PySem.DictEntry.mk (PySem.PyData.keyHash P (Str.ofString "_law_due")) (PySem.Value.str (Str.ofString "_law_due") 463) (PySem.Value.ref 206)), (PySem.DictEntry.mk (PySem.PyData.keyHash P (Str.ofString "_law_ends")) (PySem.Value.str (Str.ofString "_law_ends") 474) (PySem.Value.ref 213)), (PySem.DictEntry.mk (PySem.PyData.keyHash P (Str.ofString "_law_refused")) (PySem.Value.str (Str.ofString "_law_refused") 483) (PySem.Value.ref 220)), (PySem.DictEntry.mk (PySem.PyData.keyHash P (Str.ofString "_law_counts_right")) (PySem.Value.str (Str.ofString "_law_counts_right") 489) (PySem.Value.ref 225)), (PySem.DictEntry.mk (PySem.PyData.keyHash P (Str.ofString "_law_back_right")) (PySem.Value.str (Str.ofString "_law_back_right") 500) (PySem.Value.ref 232)), (PySem.DictEntry.mk (PySem.PyData.keyHash P (Str.ofString "law")) (PySem.Value.str (Str.ofString "law") 506) (PySem.Value.ref 237))]) 34) (List.toArray []))) ::
  (nat_lit 15, (PySem.Obj.mk (PySem.Value.type "tuple") none (PySem.Data.seq (List.toArray []) 0) (List.toArray []))) ::
  (nat_lit 17, (PySem.Obj.mk (PySem.Value.type "tuple") none (PySem.Data.seq (List.toArray [(PySem.Value.str (Str.ofString "k") 190)]) 0) (List.toArray []))) ::
  (nat_lit 18, (PySem.Obj.mk (PySem.Value.type "tuple") none (PySem.Data.seq (List.toArray []) 0) (List.toArray []))) ::
  (nat_lit 20, (PySem.Obj.mk (PySem.Value.type "code") none (PySem.Data.fields (List.toArray [(PySem.Value.str (Str.ofString "_wall") 187), (PySem.Value.str (Str.ofString "_wall") 188), (PySem.Value.str (Str.ofString "/claim/cut.py") 189), (PySem.Value.int (1 : Int) 0), (PySem.Value.int (1 : Int) 0), (PySem.Value.int (0 : Int) 0), (PySem.Value.int (0 : Int) 0), (PySem.Value.int (3 : Int) 0), (PySem.Value.ref 15), (PySem.Value.bool Bool.true), (PySem.Value.int (181 : Int) 0), (PySem.Value.ref 16), PySem.Value.none, (PySem.Value.ref 17), (PySem.Value.ref 18), (PySem.Value.ref 19), (PySem.Value.int (191 : Int) 0), (PySem.Value.int (1 : Int) 0), (PySem.Value.str (Str.ofString "/claim/cut.py") 192)])) (List.toArray []))) ::
  (nat_lit 21, (PySem.Obj.mk (PySem.Value.type "function") none (PySem.Data.func (FuncData.mk (Str.ofString "_wall") (Str.ofString "_wall") (fPar (at1 0)) (fBod (at1 0)) (fSco (at1 0)) 3 [] PySem.Value.none PySem.Value.none PySem.Value.none (PySem.Value.str (Str.ofString "__main__") 164) none (PySem.Value.ref 20) PySem.Value.none 0)) (List.toArray []))) ::
  (nat_lit 22, (PySem.Obj.mk (PySem.Value.type "tuple") none (PySem.Data.seq (List.toArray [(PySem.Value.type "Exception")]) 0) (List.toArray []))) ::
  (nat_lit 29, (PySem.Obj.mk (PySem.Value.type "tuple") none (PySem.Data.seq (List.toArray [(PySem.Value.int (0 : Int) 208), (PySem.Value.int (0 : Int) 209)]) 0) (List.toArray []))) ::
  (nat_lit 30, (PySem.Obj.mk (PySem.Value.type "tuple") none (PySem.Data.seq (List.toArray [(PySem.Value.ref 29)]) 0) (List.toArray []))) ::
  (nat_lit 31, (PySem.Obj.mk (PySem.Value.type "tuple") none (PySem.Data.seq (List.toArray []) 0) (List.toArray []))) ::
  (nat_lit 33, (PySem.Obj.mk (PySem.Value.type "tuple") none (PySem.Data.seq (List.toArray [(PySem.Value.str (Str.ofString "self") 213), (PySem.Value.str (Str.ofString "what") 214), (PySem.Value.str (Str.ofString "at") 215)]) 0) (List.toArray []))) ::
  (nat_lit 34, (PySem.Obj.mk (PySem.Value.type "tuple") none (PySem.Data.seq (List.toArray []) 0) (List.toArray []))) ::
  (nat_lit 36, (PySem.Obj.mk (PySem.Value.type "code") none (PySem.Data.fields (List.toArray [(PySem.Value.str (Str.ofString "__init__") 210), (PySem.Value.str (Str.ofString "LedgerError.__init__") 211), (PySem.Value.str (Str.ofString "/claim/cut.py") 212), (PySem.Value.int (7 : Int) 0), (PySem.Value.int (3 : Int) 0), (PySem.Value.int (0 : Int) 0), (PySem.Value.int (0 : Int) 0), (PySem.Value.int (3 : Int) 0), (PySem.Value.ref 31), (PySem.Value.bool Bool.true), (PySem.Value.int (181 : Int) 0), (PySem.Value.ref 32), PySem.Value.none, (PySem.Value.ref 33), (PySem.Value.ref 34), (PySem.Value.ref 35), (PySem.Value.int (216 : Int) 0), (PySem.Value.int (7 : Int) 0), (PySem.Value.str (Str.ofString "/claim/cut.py") 217)])) (List.toArray []))) ::
  (nat_lit 37, (PySem.Obj.mk (PySem.Value.type "function") none (PySem.Data.func (FuncData.mk (Str.ofString "__init__") (Str.ofString "LedgerError.__init__") (fPar (at2 2 0)) (fBod (at2 2 0)) (fSco (at2 2 0)) 3 [] (PySem.Value.ref 30) PySem.Value.none PySem.Value.none (PySem.Value.str (Str.ofString "ledgerspeak.errors") 194) none (PySem.Value.ref 36) PySem.Value.none 0)) (List.toArray []))) ::
  (nat_lit 38, (PySem.Obj.mk (PySem.Value.type "tuple") none (PySem.Data.seq (List.toArray []) 0) (List.toArray []))) ::
  (nat_lit 40, (PySem.Obj.mk (PySem.Value.type "tuple") none (PySem.Data.seq (List.toArray [(PySem.Value.str (Str.ofString "self") 222)]) 0) (List.toArray []))) ::
  (nat_lit 41, (PySem.Obj.mk (PySem.Value.type "tuple") none (PySem.Data.seq (List.toArray []) 0) (List.toArray []))) ::
  (nat_lit 43, (PySem.Obj.mk (PySem.Value.type "code") none (PySem.Data.fields (List.toArray [(PySem.Value.str (Str.ofString "told") 219), (PySem.Value.str (Str.ofString "LedgerError.told") 220), (PySem.Value.str (Str.ofString "/claim/cut.py") 221), (PySem.Value.int (12 : Int) 0), (PySem.Value.int (1 : Int) 0), (PySem.Value.int (0 : Int) 0), (PySem.Value.int (0 : Int) 0), (PySem.Value.int (3 : Int) 0), (PySem.Value.ref 38), (PySem.Value.bool Bool.true), (PySem.Value.int (181 : Int) 0), (PySem.Value.ref 39), PySem.Value.none, (PySem.Value.ref 40), (PySem.Value.ref 41), (PySem.Value.ref 42), (PySem.Value.int (223 : Int) 0), (PySem.Value.int (12 : Int) 0), (PySem.Value.str (Str.ofString "/claim/cut.py") 224)])) (List.toArray []))) ::
  (nat_lit 44, (PySem.Obj.mk (PySem.Value.type "function") none (PySem.Data.func (FuncData.mk (Str.ofString "told") (Str.ofString "LedgerError.told") (fPar (at2 2 1)) (fBod (at2 2 1)) (fSco (at2 2 1)) 3 [] PySem.Value.none PySem.Value.none PySem.Value.none (PySem.Value.str (Str.ofString "ledgerspeak.errors") 194) none (PySem.Value.ref 43) PySem.Value.none 0)) (List.toArray []))) ::
  (nat_lit 45, (PySem.Obj.mk (PySem.Value.type "tuple") none (PySem.Data.seq (List.toArray [(PySem.Value.str (Str.ofString "at") 226), (PySem.Value.str (Str.ofString "what") 227)]) 0) (List.toArray []))) ::
  (nat_lit 46, (PySem.Obj.mk (PySem.Value.type "dict") none (PySem.Data.dict (List.toArray [(PySem.DictEntry.mk (PySem.PyData.keyHash P (Str.ofString "__module__")) (PySem.Value.str (Str.ofString "__module__") 203) (PySem.Value.str (Str.ofString "ledgerspeak.errors") 194)), (PySem.DictEntry.mk (PySem.PyData.keyHash P (Str.ofString "__firstlineno__")) (PySem.Value.str (Str.ofString "__firstlineno__") 207) (PySem.Value.int (5 : Int) 206)), (PySem.DictEntry.mk (PySem.PyData.keyHash P (Str.ofString "__init__")) (PySem.Value.str (Str.ofString "__init__") 218) (PySem.Value.ref 37)), (PySem.DictEntry.mk (PySem.PyData.keyHash P (Str.ofString "told")) (PySem.Value.str (Str.ofString "told") 225) (PySem.Value.ref 44)), (PySem.DictEntry.mk (PySem.PyData.keyHash P (Str.ofString "__static_attributes__")) (PySem.Value.str (Str.ofString "__static_attributes__") 228) (PySem.Value.ref 45)), (PySem.DictEntry.mk (PySem.PyData.keyHash P (Str.ofString "__weakref__")) (PySem.Value.str (Str.ofString "__weakref__") 230) (PySem.Value.ref 48)), (PySem.DictEntry.mk (PySem.PyData.keyHash P (Str.ofString "__doc__")) (PySem.Value.str (Str.ofString "__doc__") 231) PySem.Value.none)]) 3) (List.toArray []))) ::
  (nat_lit 47, (PySem.Obj.mk (PySem.Value.type "type") none (PySem.Data.cls (PySem.ClassData.mk (Str.ofString "LedgerError") [(PySem.Value.type "Exception")] [(PySem.Value.ref 47), (PySem.Value.type "Exception"), (PySem.Value.type "BaseException"), (PySem.Value.type "object")] 46 (Str.ofString "LedgerError") Bool.true [] [(PySem.Value.ref 60)] Bool.false none Bool.false)) (List.toArray [(some (PySem.Value.ref 22)), none, (some (PySem.Value.str (Str.ofString "LedgerError") 196)), (some (PySem.Value.str (Str.ofString "LedgerError") 204)), (some (PySem.Value.builtin "Exception.__new__")), (some (PySem.Value.bool Bool.true))]))) ::
  (nat_lit 48, (PySem.Obj.mk (PySem.Value.type "getset_descriptor") none (PySem.Data.fields (List.toArray [(PySem.Value.str (Str.ofString "__weakref__") 229), (PySem.Value.ref 47), (PySem.Value.builtin "ExceptionGroup.__weakref__"), PySem.Value.none])) (List.toArray []))) ::
  (nat_lit 51, (PySem.Obj.mk (PySem.Value.type "tuple") none (PySem.Data.seq (List.toArray [(PySem.Value.ref 47)]) 0) (List.toArray []))) ::
  (nat_lit 58, (PySem.Obj.mk (PySem.Value.type "tuple") none (PySem.Data.seq (List.toArray []) 0) (List.toArray []))) ::
  (nat_lit 59, (PySem.Obj.mk (PySem.Value.type "dict") none (PySem.Data.dict (List.toArray [(PySem.DictEntry.mk (PySem.PyData.keyHash P (Str.ofString "__module__")) (PySem.Value.str (Str.ofString "__module__") 243) (PySem.Value.str (Str.ofString "ledgerspeak.errors") 194)), (PySem.DictEntry.mk (PySem.PyData.keyHash P (Str.ofString "__firstlineno__")) (PySem.Value.str (Str.ofString "__firstlineno__") 247) (PySem.Value.int (14 : Int) 246)), (PySem.DictEntry.mk (PySem.PyData.keyHash P (Str.ofString "__static_attributes__")) (PySem.Value.str (Str.ofString "__static_attributes__") 248) (PySem.Value.ref 58)), (PySem.DictEntry.mk (PySem.PyData.keyHash P (Str.ofString "__doc__")) (PySem.Value.str (Str.ofString "__doc__") 249) PySem.Value.none)]) 2) (List.toArray []))) ::
  (nat_lit 60, (PySem.Obj.mk (PySem.Value.type "type") none (PySem.Data.cls (PySem.ClassData.mk (Str.ofString "RunFault") [(PySem.Value.ref 47)] [(PySem.Value.ref 60), (PySem.Value.ref 47), (PySem.Value.type "Exception"), (PySem.Value.type "BaseException"), (PySem.Value.type "object")] 59 (Str.ofString "RunFault") Bool.true [] [] Bool.false none Bool.false)) (List.toArray [(some (PySem.Value.ref 51)), none, (some (PySem.Value.str (Str.ofString "RunFault") 236)), (some (PySem.Value.str (Str.ofString "RunFault") 244)), (some (PySem.Value.builtin "Exception.__new__")), (some (PySem.Value.bool Bool.true))]))) ::
  (nat_lit 63, (PySem.Obj.mk (PySem.Value.type "tuple") none (PySem.Data.seq (List.toArray []) 0) (List.toArray []))) ::
  (nat_lit 65, (PySem.Obj.mk (PySem.Value.type "tuple") none (PySem.Data.seq (List.toArray [(PySem.Value.str (Str.ofString "octets") 257), (PySem.Value.str (Str.ofString "wanted") 258), (PySem.Value.str (Str.ofString "at") 259)]) 0) (List.toArray []))) ::
  (nat_lit 66, (PySem.Obj.mk (PySem.Value.type "tuple") none (PySem.Data.seq (List.toArray []) 0) (List.toArray []))) ::
  (nat_lit 68, (PySem.Obj.mk (PySem.Value.type "code") none (PySem.Data.fields (List.toArray [(PySem.Value.str (Str.ofString "lies_at") 254), (PySem.Value.str (Str.ofString "lies_at") 255), (PySem.Value.str (Str.ofString "/claim/cut.py") 256), (PySem.Value.int (17 : Int) 0), (PySem.Value.int (3 : Int) 0), (PySem.Value.int (0 : Int) 0), (PySem.Value.int (0 : Int) 0), (PySem.Value.int (3 : Int) 0), (PySem.Value.ref 63), (PySem.Value.bool Bool.true), (PySem.Value.int (181 : Int) 0), (PySem.Value.ref 64), PySem.Value.none, (PySem.Value.ref 65), (PySem.Value.ref 66), (PySem.Value.ref 67), (PySem.Value.int (260 : Int) 0), (PySem.Value.int (17 : Int) 0), (PySem.Value.str (Str.ofString "/claim/cut.py") 261)])) (List.toArray []))) ::
  (nat_lit 69, (PySem.Obj.mk (PySem.Value.type "function") none (PySem.Data.func (FuncData.mk (Str.ofString "lies_at") (Str.ofString "lies_at") (fPar (at1 5)) (fBod (at1 5)) (fSco (at1 5)) 3 [] PySem.Value.none PySem.Value.none PySem.Value.none (PySem.Value.str (Str.ofString "ledgerspeak.stringing") 252) none (PySem.Value.ref 68) PySem.Value.none 0)) (List.toArray []))) ::
  (nat_lit 70, (PySem.Obj.mk (PySem.Value.type "tuple") none (PySem.Data.seq (List.toArray []) 0) (List.toArray []))) ::
  (nat_lit 72, (PySem.Obj.mk (PySem.Value.type "tuple") none (PySem.Data.seq (List.toArray [(PySem.Value.str (Str.ofString "octets") 266), (PySem.Value.str (Str.ofString "wanted") 267), (PySem.Value.str (Str.ofString "begin") 268), (PySem.Value.str (Str.ofString "at") 269)]) 0) (List.toArray []))) ::
  (nat_lit 73, (PySem.Obj.mk (PySem.Value.type "tuple") none (PySem.Data.seq (List.toArray []) 0) (List.toArray []))) ::
  (nat_lit 75, (PySem.Obj.mk (PySem.Value.type "code") none (PySem.Data.fields (List.toArray [(PySem.Value.str (Str.ofString "first_at") 263), (PySem.Value.str (Str.ofString "first_at") 264), (PySem.Value.str (Str.ofString "/claim/cut.py") 265), (PySem.Value.int (19 : Int) 0), (PySem.Value.int (3 : Int) 0), (PySem.Value.int (0 : Int) 0), (PySem.Value.int (0 : Int) 0), (PySem.Value.int (3 : Int) 0), (PySem.Value.ref 70), (PySem.Value.bool Bool.true), (PySem.Value.int (181 : Int) 0), (PySem.Value.ref 71), PySem.Value.none, (PySem.Value.ref 72), (PySem.Value.ref 73), (PySem.Value.ref 74), (PySem.Value.int (270 : Int) 0), (PySem.Value.int (19 : Int) 0), (PySem.Value.str (Str.ofString "/claim/cut.py") 271)])) (List.toArray []))) ::
  (nat_lit 76, (PySem.Obj.mk (PySem.Value.type "function") none (PySem.Data.func (FuncData.mk (Str.ofString "first_at") (Str.ofString "first_at") (fPar (at1 6)) (fBod (at1 6)) (fSco (at1 6)) 3 [] PySem.Value.none PySem.Value.none PySem.Value.none (PySem.Value.str (Str.ofString "ledgerspeak.stringing") 252) none (PySem.Value.ref 75) PySem.Value.none 0)) (List.toArray []))) ::
  (nat_lit 77, (PySem.Obj.mk (PySem.Value.type "tuple") none (PySem.Data.seq (List.toArray []) 0) (List.toArray []))) ::
  (nat_lit 79, (PySem.Obj.mk (PySem.Value.type "tuple") none (PySem.Data.seq (List.toArray [(PySem.Value.str (Str.ofString "octets") 280), (PySem.Value.str (Str.ofString "after") 281), (PySem.Value.str (Str.ofString "at") 282)]) 0) (List.toArray []))) ::
  (nat_lit 80, (PySem.Obj.mk (PySem.Value.type "tuple") none (PySem.Data.seq (List.toArray []) 0) (List.toArray []))) ::
  (nat_lit 82, (PySem.Obj.mk (PySem.Value.type "code") none (PySem.Data.fields (List.toArray [(PySem.Value.str (Str.ofString "stretch_begin") 277), (PySem.Value.str (Str.ofString "stretch_begin") 278), (PySem.Value.str (Str.ofString "/claim/cut.py") 279), (PySem.Value.int (28 : Int) 0), (PySem.Value.int (2 : Int) 0), (PySem.Value.int (0 : Int) 0), (PySem.Value.int (0 : Int) 0), (PySem.Value.int (3 : Int) 0), (PySem.Value.ref 77), (PySem.Value.bool Bool.true), (PySem.Value.int (181 : Int) 0), (PySem.Value.ref 78), PySem.Value.none, (PySem.Value.ref 79), (PySem.Value.ref 80), (PySem.Value.ref 81), (PySem.Value.int (283 : Int) 0), (PySem.Value.int (28 : Int) 0), (PySem.Value.str (Str.ofString "/claim/cut.py") 284)])) (List.toArray []))) ::
  (nat_lit 83, (PySem.Obj.mk (PySem.Value.type "function") none (PySem.Data.func (FuncData.mk (Str.ofString "stretch_begin") (Str.ofString "stretch_begin") (fPar (at1 9)) (fBod (at1 9)) (fSco (at1 9)) 3 [] PySem.Value.none PySem.Value.none PySem.Value.none (PySem.Value.str (Str.ofString "ledgerspeak.inspecting") 273) none (PySem.Value.ref 82) PySem.Value.none 0)) (List.toArray []))) ::
  (nat_lit 84, (PySem.Obj.mk (PySem.Value.type "tuple") none (PySem.Data.seq (List.toArray []) 0) (List.toArray []))) ::
  (nat_lit 86, (PySem.Obj.mk (PySem.Value.type "tuple") none (PySem.Data.seq (List.toArray [(PySem.Value.str (Str.ofString "octets") 289), (PySem.Value.str (Str.ofString "before") 290), (PySem.Value.str (Str.ofString "at") 291)]) 0) (List.toArray []))) ::
  (nat_lit 87, (PySem.Obj.mk (PySem.Value.type "tuple") none (PySem.Data.seq (List.toArray []) 0) (List.toArray []))) ::
  (nat_lit 89, (PySem.Obj.mk (PySem.Value.type "code") none (PySem.Data.fields (List.toArray [(PySem.Value.str (Str.ofString "stretch_end") 286), (PySem.Value.str (Str.ofString "stretch_end") 287), (PySem.Value.str (Str.ofString "/claim/cut.py") 288), (PySem.Value.int (33 : Int) 0), (PySem.Value.int (2 : Int) 0), (PySem.Value.int (0 : Int) 0), (PySem.Value.int (0 : Int) 0), (PySem.Value.int (3 : Int) 0), (PySem.Value.ref 84), (PySem.Value.bool Bool.true), (PySem.Value.int (181 : Int) 0), (PySem.Value.ref 85), PySem.Value.none, (PySem.Value.ref 86), (PySem.Value.ref 87), (PySem.Value.ref 88), (PySem.Value.int (292 : Int) 0), (PySem.Value.int (33 : Int) 0), (PySem.Value.str (Str.ofString "/claim/cut.py") 293)])) (List.toArray []))) ::
  (nat_lit 90, (PySem.Obj.mk (PySem.Value.type "function") none (PySem.Data.func (FuncData.mk (Str.ofString "stretch_end") (Str.ofString "stretch_end") (fPar (at1 10)) (fBod (at1 10)) (fSco (at1 10)) 3 [] PySem.Value.none PySem.Value.none PySem.Value.none (PySem.Value.str (Str.ofString "ledgerspeak.inspecting") 273) none (PySem.Value.ref 89) PySem.Value.none 0)) (List.toArray []))) ::
  (nat_lit 98, (PySem.Obj.mk (PySem.Value.type "tuple") none (PySem.Data.seq (List.toArray []) 0) (List.toArray []))) ::
  (nat_lit 100, (PySem.Obj.mk (PySem.Value.type "tuple") none (PySem.Data.seq (List.toArray [(PySem.Value.str (Str.ofString "self") 310), (PySem.Value.str (Str.ofString "kind") 311), (PySem.Value.str (Str.ofString "wanted") 312), (PySem.Value.str (Str.ofString "begin") 313), (PySem.Value.str (Str.ofString "end") 314)]) 0) (List.toArray []))) ::
  (nat_lit 101, (PySem.Obj.mk (PySem.Value.type "tuple") none (PySem.Data.seq (List.toArray []) 0) (List.toArray []))) ::
  (nat_lit 103, (PySem.Obj.mk (PySem.Value.type "code") none (PySem.Data.fields (List.toArray [(PySem.Value.str (Str.ofString "__init__") 307), (PySem.Value.str (Str.ofString "Seeker.__init__") 308), (PySem.Value.str (Str.ofString "/claim/cut.py") 309), (PySem.Value.int (40 : Int) 0), (PySem.Value.int (5 : Int) 0), (PySem.Value.int (0 : Int) 0), (PySem.Value.int (0 : Int) 0), (PySem.Value.int (3 : Int) 0), (PySem.Value.ref 98), (PySem.Value.bool Bool.true), (PySem.Value.int (181 : Int) 0), (PySem.Value.ref 99), PySem.Value.none, (PySem.Value.ref 100), (PySem.Value.ref 101), (PySem.Value.ref 102), (PySem.Value.int (315 : Int) 0), (PySem.Value.int (40 : Int) 0), (PySem.Value.str (Str.ofString "/claim/cut.py") 316)])) (List.toArray []))) ::
  (nat_lit 104, (PySem.Obj.mk (PySem.Value.type "function") none (PySem.Data.func (FuncData.mk (Str.ofString "__init__") (Str.ofString "Seeker.__init__") (fPar (at2 11 0)) (fBod (at2 11 0)) (fSco (at2 11 0)) 3 [] PySem.Value.none PySem.Value.none PySem.Value.none (PySem.Value.str (Str.ofString "ledgerspeak.inspecting") 273) none (PySem.Value.ref 103) PySem.Value.none 0)) (List.toArray []))) ::
  (nat_lit 105, (PySem.Obj.mk (PySem.Value.type "tuple") none (PySem.Data.seq (List.toArray []) 0) (List.toArray []))) ::
  (nat_lit 107, (PySem.Obj.mk (PySem.Value.type "tuple") none (PySem.Data.seq (List.toArray [(PySem.Value.str (Str.ofString "self") 321)]) 0) (List.toArray []))) ::
  (nat_lit 108, (PySem.Obj.mk (PySem.Value.type "tuple") none (PySem.Data.seq (List.toArray []) 0) (List.toArray []))) ::
  (nat_lit 110, (PySem.Obj.mk (PySem.Value.type "code") none (PySem.Data.fields (List.toArray [(PySem.Value.str (Str.ofString "width") 318), (PySem.Value.str (Str.ofString "Seeker.width") 319), (PySem.Value.str (Str.ofString "/claim/cut.py") 320), (PySem.Value.int (48 : Int) 0), (PySem.Value.int (1 : Int) 0), (PySem.Value.int (0 : Int) 0), (PySem.Value.int (0 : Int) 0), (PySem.Value.int (3 : Int) 0), (PySem.Value.ref 105), (PySem.Value.bool Bool.true), (PySem.Value.int (181 : Int) 0), (PySem.Value.ref 106), PySem.Value.none, (PySem.Value.ref 107), (PySem.Value.ref 108), (PySem.Value.ref 109), (PySem.Value.int (322 : Int) 0), (PySem.Value.int (48 : Int) 0), (PySem.Value.str (Str.ofString "/claim/cut.py") 323)])) (List.toArray []))) ::
  (nat_lit 111, (PySem.Obj.mk (PySem.Value.type "function") none (PySem.Data.func (FuncData.mk (Str.ofString "width") (Str.ofString "Seeker.width") (fPar (at2 11 1)) (fBod (at2 11 1)) (fSco (at2 11 1)) 3 [] PySem.Value.none PySem.Value.none PySem.Value.none (PySem.Value.str (Str.ofString "ledgerspeak.inspecting") 273) none (PySem.Value.ref 110) PySem.Value.none 0)) (List.toArray []))) ::
  (nat_lit 112, (PySem.Obj.mk (PySem.Value.type "tuple") none (PySem.Data.seq (List.toArray []) 0) (List.toArray []))) ::
  (nat_lit 114, (PySem.Obj.mk (PySem.Value.type "tuple") none (PySem.Data.seq (List.toArray [(PySem.Value.str (Str.ofString "self") 328), (PySem.Value.str (Str.ofString "at") 329)]) 0) (List.toArray []))) ::
  (nat_lit 115, (PySem.Obj.mk (PySem.Value.type "tuple") none (PySem.Data.seq (List.toArray []) 0) (List.toArray []))) ::
  (nat_lit 117, (PySem.Obj.mk (PySem.Value.type "code") none (PySem.Data.fields (List.toArray [(PySem.Value.str (Str.ofString "reach") 325), (PySem.Value.str (Str.ofString "Seeker.reach") 326), (PySem.Value.str (Str.ofString "/claim/cut.py") 327), (PySem.Value.int (51 : Int) 0), (PySem.Value.int (2 : Int) 0), (PySem.Value.int (0 : Int) 0), (PySem.Value.int (0 : Int) 0), (PySem.Value.int (3 : Int) 0), (PySem.Value.ref 112), (PySem.Value.bool Bool.true), (PySem.Value.int (181 : Int) 0), (PySem.Value.ref 113), PySem.Value.none, (PySem.Value.ref 114), (PySem.Value.ref 115), (PySem.Value.ref 116), (PySem.Value.int (330 : Int) 0), (PySem.Value.int (51 : Int) 0), (PySem.Value.str (Str.ofString "/claim/cut.py") 331)])) (List.toArray []))) ::
  (nat_lit 118, (PySem.Obj.mk (PySem.Value.type "function") none (PySem.Data.func (FuncData.mk (Str.ofString "reach") (Str.ofString "Seeker.reach") (fPar (at2 11 2)) (fBod (at2 11 2)) (fSco (at2 11 2)) 3 [] PySem.Value.none PySem.Value.none PySem.Value.none (PySem.Value.str (Str.ofString "ledgerspeak.inspecting") 273) none (PySem.Value.ref 117) PySem.Value.none 0)) (List.toArray []))) ::
  (nat_lit 119, (PySem.Obj.mk (PySem.Value.type "tuple") none (PySem.Data.seq (List.toArray []) 0) (List.toArray []))) ::
  (nat_lit 121, (PySem.Obj.mk (PySem.Value.type "tuple") none (PySem.Data.seq (List.toArray [(PySem.Value.str (Str.ofString "self") 336), (PySem.Value.str (Str.ofString "octets") 337), (PySem.Value.str (Str.ofString "at") 338)]) 0) (List.toArray []))) ::
  (nat_lit 122, (PySem.Obj.mk (PySem.Value.type "tuple") none (PySem.Data.seq (List.toArray []) 0) (List.toArray []))) ::
  (nat_lit 124, (PySem.Obj.mk (PySem.Value.type "code") none (PySem.Data.fields (List.toArray [(PySem.Value.str (Str.ofString "is_fit") 333), (PySem.Value.str (Str.ofString "Seeker.is_fit") 334), (PySem.Value.str (Str.ofString "/claim/cut.py") 335), (PySem.Value.int (55 : Int) 0), (PySem.Value.int (3 : Int) 0), (PySem.Value.int (0 : Int) 0), (PySem.Value.int (0 : Int) 0), (PySem.Value.int (3 : Int) 0), (PySem.Value.ref 119), (PySem.Value.bool Bool.true), (PySem.Value.int (181 : Int) 0), (PySem.Value.ref 120), PySem.Value.none, (PySem.Value.ref 121), (PySem.Value.ref 122), (PySem.Value.ref 123), (PySem.Value.int (339 : Int) 0), (PySem.Value.int (55 : Int) 0), (PySem.Value.str (Str.ofString "/claim/cut.py") 340)])) (List.toArray []))) ::
  (nat_lit 125, (PySem.Obj.mk (PySem.Value.type "function") none (PySem.Data.func (FuncData.mk (Str.ofString "is_fit") (Str.ofString "Seeker.is_fit") (fPar (at2 11 3)) (fBod (at2 11 3)) (fSco (at2 11 3)) 3 [] PySem.Value.none PySem.Value.none PySem.Value.none (PySem.Value.str (Str.ofString "ledgerspeak.inspecting") 273) none (PySem.Value.ref 124) PySem.Value.none 0)) (List.toArray []))) ::
  (nat_lit 126, (PySem.Obj.mk (PySem.Value.type "tuple") none (PySem.Data.seq (List.toArray []) 0) (List.toArray []))) ::
  (nat_lit 128, (PySem.Obj.mk (PySem.Value.type "tuple") none (PySem.Data.seq (List.toArray [(PySem.Value.str (Str.ofString "self") 345), (PySem.Value.str (Str.ofString "at") 346)]) 0) (List.toArray []))) ::
  (nat_lit 129, (PySem.Obj.mk (PySem.Value.type "tuple") none (PySem.Data.seq (List.toArray []) 0) (List.toArray []))) ::
  (nat_lit 131, (PySem.Obj.mk (PySem.Value.type "code") none (PySem.Data.fields (List.toArray [(PySem.Value.str (Str.ofString "took") 342), (PySem.Value.str (Str.ofString "Seeker.took") 343), (PySem.Value.str (Str.ofString "/claim/cut.py") 344), (PySem.Value.int (64 : Int) 0), (PySem.Value.int (2 : Int) 0), (PySem.Value.int (0 : Int) 0), (PySem.Value.int (0 : Int) 0), (PySem.Value.int (3 : Int) 0), (PySem.Value.ref 126), (PySem.Value.bool Bool.true), (PySem.Value.int (181 : Int) 0), (PySem.Value.ref 127), PySem.Value.none, (PySem.Value.ref 128), (PySem.Value.ref 129), (PySem.Value.ref 130), (PySem.Value.int (347 : Int) 0), (PySem.Value.int (64 : Int) 0), (PySem.Value.str (Str.ofString "/claim/cut.py") 348)])) (List.toArray []))) ::
  (nat_lit 132, (PySem.Obj.mk (PySem.Value.type "function") none (PySem.Data.func (FuncData.mk (Str.ofString "took") (Str.ofString "Seeker.took") (fPar (at2 11 4)) (fBod (at2 11 4)) (fSco (at2 11 4)) 3 [] PySem.Value.none PySem.Value.none PySem.Value.none (PySem.Value.str (Str.ofString "ledgerspeak.inspecting") 273) none (PySem.Value.ref 131) PySem.Value.none 0)) (List.toArray []))) ::
  (nat_lit 133, (PySem.Obj.mk (PySem.Value.type "tuple") none (PySem.Data.seq (List.toArray [(PySem.Value.str (Str.ofString "begin") 350), (PySem.Value.str (Str.ofString "end") 351), (PySem.Value.str (Str.ofString "is_done") 352), (PySem.Value.str (Str.ofString "kind") 353), (PySem.Value.str (Str.ofString "lead") 354), (PySem.Value.str (Str.ofString "wanted") 355)]) 0) (List.toArray []))) ::
  (nat_lit 134, (PySem.Obj.mk (PySem.Value.type "dict") none (PySem.Data.dict (List.toArray [(PySem.DictEntry.mk (PySem.PyData.keyHash P (Str.ofString "__module__")) (PySem.Value.str (Str.ofString "__module__") 302) (PySem.Value.str (Str.ofString "ledgerspeak.inspecting") 273)), (PySem.DictEntry.mk (PySem.PyData.keyHash P (Str.ofString "__firstlineno__")) (PySem.Value.str (Str.ofString "__firstlineno__") 306) (PySem.Value.int (38 : Int) 305)), (PySem.DictEntry.mk (PySem.PyData.keyHash P (Str.ofString "__init__")) (PySem.Value.str (Str.ofString "__init__") 317) (PySem.Value.ref 104)), (PySem.DictEntry.mk (PySem.PyData.keyHash P (Str.ofString "width")) (PySem.Value.str (Str.ofString "width") 324) (PySem.Value.ref 111)), (PySem.DictEntry.mk (PySem.PyData.keyHash P (Str.ofString "reach")) (PySem.Value.str (Str.ofString "reach") 332) (PySem.Value.ref 118)), (PySem.DictEntry.mk (PySem.PyData.keyHash P (Str.ofString "is_fit")) (PySem.Value.str (Str.ofString "is_fit") 341) (PySem.Value.ref 125)), (PySem.DictEntry.mk (PySem.PyData.keyHash P (Str.ofString "took")) (PySem.Value.str (Str.ofString "took") 349) (PySem.Value.ref 132)), (PySem.DictEntry.mk (PySem.PyData.keyHash P (Str.ofString "__static_attributes__")) (PySem.Value.str (Str.ofString "__static_attributes__") 356) (PySem.Value.ref 133)), (PySem.DictEntry.mk (PySem.PyData.keyHash P (Str.ofString "__dict__")) (PySem.Value.str (Str.ofString "__dict__") 358) (PySem.Value.ref 136)), (PySem.DictEntry.mk (PySem.PyData.keyHash P (Str.ofString "__weakref__")) (PySem.Value.str (Str.ofString "__weakref__") 360) (PySem.Value.ref 137)), (PySem.DictEntry.mk (PySem.PyData.keyHash P (Str.ofString "__doc__")) (PySem.Value.str (Str.ofString "__doc__") 361) PySem.Value.none)]) 4) (List.toArray []))) ::
  (nat_lit 135, (PySem.Obj.mk (PySem.Value.type "type") none (PySem.Data.cls (PySem.ClassData.mk (Str.ofString "Seeker") [(PySem.Value.type "object")] [(PySem.Value.ref 135), (PySem.Value.type "object")] 134 (Str.ofString "Seeker") Bool.true [] [] Bool.false none Bool.false)) (List.toArray [none, none, (some (PySem.Value.str (Str.ofString "Seeker") 295)), (some (PySem.Value.str (Str.ofString "Seeker") 303)), (some (PySem.Value.builtin "object.__new__")), (some (PySem.Value.bool Bool.true))]))) ::
  (nat_lit 136, (PySem.Obj.mk (PySem.Value.type "getset_descriptor") none (PySem.Data.fields (List.toArray [(PySem.Value.str (Str.ofString "__dict__") 357), (PySem.Value.ref 135), (PySem.Value.builtin "function.__dict__"), (PySem.Value.builtin "function.__dict__#set")])) (List.toArray []))) ::
  (nat_lit 137, (PySem.Obj.mk (PySem.Value.type "getset_descriptor") none (PySem.Data.fields (List.toArray [(PySem.Value.str (Str.ofString "__weakref__") 359), (PySem.Value.ref 135), (PySem.Value.builtin "ExceptionGroup.__weakref__"), PySem.Value.none])) (List.toArray []))) ::
  (nat_lit 140, (PySem.Obj.mk (PySem.Value.type "tuple") none (PySem.Data.seq (List.toArray []) 0) (List.toArray []))) ::
  (nat_lit 142, (PySem.Obj.mk (PySem.Value.type "tuple") none (PySem.Data.seq (List.toArray [(PySem.Value.str (Str.ofString "octets") 367), (PySem.Value.str (Str.ofString "kind") 368), (PySem.Value.str (Str.ofString "wanted") 369), (PySem.Value.str (Str.ofString "before") 370), (PySem.Value.str (Str.ofString "after") 371)]) 0) (List.toArray []))) ::
  (nat_lit 143, (PySem.Obj.mk (PySem.Value.type "tuple") none (PySem.Data.seq (List.toArray []) 0) (List.toArray []))) ::
  (nat_lit 145, (PySem.Obj.mk (PySem.Value.type "code") none (PySem.Data.fields (List.toArray [(PySem.Value.str (Str.ofString "seeker_of") 364), (PySem.Value.str (Str.ofString "seeker_of") 365), (PySem.Value.str (Str.ofString "/claim/cut.py") 366), (PySem.Value.int (67 : Int) 0), (PySem.Value.int (5 : Int) 0), (PySem.Value.int (0 : Int) 0), (PySem.Value.int (0 : Int) 0), (PySem.Value.int (3 : Int) 0), (PySem.Value.ref 140), (PySem.Value.bool Bool.true), (PySem.Value.int (181 : Int) 0), (PySem.Value.ref 141), PySem.Value.none, (PySem.Value.ref 142), (PySem.Value.ref 143), (PySem.Value.ref 144), (PySem.Value.int (372 : Int) 0), (PySem.Value.int (67 : Int) 0), (PySem.Value.str (Str.ofString "/claim/cut.py") 373)])) (List.toArray []))) ::
  (nat_lit 146, (PySem.Obj.mk (PySem.Value.type "function") none (PySem.Data.func (FuncData.mk (Str.ofString "seeker_of") (Str.ofString "seeker_of") (fPar (at1 12)) (fBod (at1 12)) (fSco (at1 12)) 3 [] PySem.Value.none PySem.Value.none PySem.Value.none (PySem.Value.str (Str.ofString "ledgerspeak.inspecting") 273) none (PySem.Value.ref 145) PySem.Value.none 0)) (List.toArray []))) ::
  (nat_lit 147, (PySem.Obj.mk (PySem.Value.type "tuple") none (PySem.Data.seq (List.toArray []) 0) (List.toArray []))) ::
  (nat_lit 149, (PySem.Obj.mk (PySem.Value.type "tuple") none (PySem.Data.seq (List.toArray [(PySem.Value.str (Str.ofString "octets") 378), (PySem.Value.str (Str.ofString "seekers") 379), (PySem.Value.str (Str.ofString "found") 380), (PySem.Value.str (Str.ofString "at") 381), (PySem.Value.str (Str.ofString "taker") 382), (PySem.Value.str (Str.ofString "number") 383), (PySem.Value.str (Str.ofString "seeker") 384)]) 0) (List.toArray []))) ::
  (nat_lit 150, (PySem.Obj.mk (PySem.Value.type "tuple") none (PySem.Data.seq (List.toArray []) 0) (List.toArray []))) ::
  (nat_lit 152, (PySem.Obj.mk (PySem.Value.type "code") none (PySem.Data.fields (List.toArray [(PySem.Value.str (Str.ofString "fits_in") 375), (PySem.Value.str (Str.ofString "fits_in") 376), (PySem.Value.str (Str.ofString "/claim/cut.py") 377), (PySem.Value.int (73 : Int) 0), (PySem.Value.int (2 : Int) 0), (PySem.Value.int (0 : Int) 0), (PySem.Value.int (0 : Int) 0), (PySem.Value.int (3 : Int) 0), (PySem.Value.ref 147), (PySem.Value.bool Bool.true), (PySem.Value.int (181 : Int) 0), (PySem.Value.ref 148), PySem.Value.none, (PySem.Value.ref 149), (PySem.Value.ref 150), (PySem.Value.ref 151), (PySem.Value.int (385 : Int) 0), (PySem.Value.int (73 : Int) 0), (PySem.Value.str (Str.ofString "/claim/cut.py") 386)])) (List.toArray []))) ::
  (nat_lit 153, (PySem.Obj.mk (PySem.Value.type "function") none (PySem.Data.func (FuncData.mk (Str.ofString "fits_in") (Str.ofString "fits_in") (fPar (at1 13)) (fBod (at1 13)) (fSco (at1 13)) 3 [] PySem.Value.none PySem.Value.none PySem.Value.none (PySem.Value.str (Str.ofString "ledgerspeak.inspecting") 273) none (PySem.Value.ref 152) PySem.Value.none 0)) (List.toArray []))) ::
  (nat_lit 154, (PySem.Obj.mk (PySem.Value.type "tuple") none (PySem.Data.seq (List.toArray []) 0) (List.toArray []))) ::
  (nat_lit 157, (PySem.Obj.mk (PySem.Value.type "code") none (PySem.Data.fields (List.toArray [(PySem.Value.str (Str.ofString "tallied") 388), (PySem.Value.str (Str.ofString "tallied") 389), (PySem.Value.str (Str.ofString "/claim/cut.py") 390), (PySem.Value.int (88 : Int) 0), (PySem.Value.int (2 : Int) 0), (PySem.Value.int (0 : Int) 0), (PySem.Value.int (0 : Int) 0), (PySem.Value.int (3 : Int) 0), (PySem.Value.ref 154), (PySem.Value.bool Bool.true), (PySem.Value.int (181 : Int) 0), (PySem.Value.ref 155), PySem.Value.none, PySem.Value.none, PySem.Value.none, (PySem.Value.ref 156), (PySem.Value.int (391 : Int) 0), (PySem.Value.int (88 : Int) 0), (PySem.Value.str (Str.ofString "/claim/cut.py") 392)])) (List.toArray []))) ::
  (nat_lit 158, (PySem.Obj.mk (PySem.Value.type "function") none (PySem.Data.func (FuncData.mk (Str.ofString "tallied") (Str.ofString "tallied") (fPar (at1 14)) (fBod (at1 14)) (fSco (at1 14)) 3 [] PySem.Value.none PySem.Value.none PySem.Value.none (PySem.Value.str (Str.ofString "ledgerspeak.inspecting") 273) none (PySem.Value.ref 157) PySem.Value.none 0)) (List.toArray []))) ::
  (nat_lit 159, (PySem.Obj.mk (PySem.Value.type "tuple") none (PySem.Data.seq (List.toArray []) 0) (List.toArray []))) ::
  (nat_lit 162, (PySem.Obj.mk (PySem.Value.type "code") none (PySem.Data.fields (List.toArray [(PySem.Value.str (Str.ofString "replaced_in") 394), (PySem.Value.str (Str.ofString "replaced_in") 395), (PySem.Value.str (Str.ofString "/claim/cut.py") 396), (PySem.Value.int (94 : Int) 0), (PySem.Value.int (2 : Int) 0), (PySem.Value.int (0 : Int) 0), (PySem.Value.int (0 : Int) 0), (PySem.Value.int (3 : Int) 0), (PySem.Value.ref 159), (PySem.Value.bool Bool.true), (PySem.Value.int (181 : Int) 0), (PySem.Value.ref 160), PySem.Value.none, PySem.Value.none, PySem.Value.none, (PySem.Value.ref 161), (PySem.Value.int (397 : Int) 0), (PySem.Value.int (94 : Int) 0), (PySem.Value.str (Str.ofString "/claim/cut.py") 398)])) (List.toArray []))) ::
  (nat_lit 163, (PySem.Obj.mk (PySem.Value.type "function") none (PySem.Data.func (FuncData.mk (Str.ofString "replaced_in") (Str.ofString "replaced_in") (fPar (at1 15)) (fBod (at1 15)) (fSco (at1 15)) 3 [] PySem.Value.none PySem.Value.none PySem.Value.none (PySem.Value.str (Str.ofString "ledgerspeak.inspecting") 273) none (PySem.Value.ref 162) PySem.Value.none 0)) (List.toArray []))) ::
  (nat_lit 164, (PySem.Obj.mk (PySem.Value.type "tuple") none (PySem.Data.seq (List.toArray []) 0) (List.toArray []))) ::
  (nat_lit 166, (PySem.Obj.mk (PySem.Value.type "tuple") none (PySem.Data.seq (List.toArray [(PySem.Value.str (Str.ofString "octets") 403), (PySem.Value.str (Str.ofString "wanted") 404), (PySem.Value.str (Str.ofString "given") 405), (PySem.Value.str (Str.ofString "before") 406), (PySem.Value.str (Str.ofString "after") 407), (PySem.Value.str (Str.ofString "begin") 408), (PySem.Value.str (Str.ofString "end") 409), (PySem.Value.str (Str.ofString "found") 410), (PySem.Value.str (Str.ofString "at") 411), (PySem.Value.str (Str.ofString "octet") 412)]) 0) (List.toArray []))) ::
  (nat_lit 167, (PySem.Obj.mk (PySem.Value.type "tuple") none (PySem.Data.seq (List.toArray []) 0) (List.toArray []))) ::
  (nat_lit 169, (PySem.Obj.mk (PySem.Value.type "code") none (PySem.Data.fields (List.toArray [(PySem.Value.str (Str.ofString "converted") 400), (PySem.Value.str (Str.ofString "converted") 401), (PySem.Value.str (Str.ofString "/claim/cut.py") 402), (PySem.Value.int (102 : Int) 0), (PySem.Value.int (5 : Int) 0), (PySem.Value.int (0 : Int) 0), (PySem.Value.int (0 : Int) 0), (PySem.Value.int (3 : Int) 0), (PySem.Value.ref 164), (PySem.Value.bool Bool.true), (PySem.Value.int (181 : Int) 0), (PySem.Value.ref 165), PySem.Value.none, (PySem.Value.ref 166), (PySem.Value.ref 167), (PySem.Value.ref 168), (PySem.Value.int (413 : Int) 0), (PySem.Value.int (102 : Int) 0), (PySem.Value.str (Str.ofString "/claim/cut.py") 414)])) (List.toArray []))) ::
  (nat_lit 170, (PySem.Obj.mk (PySem.Value.type "function") none (PySem.Data.func (FuncData.mk (Str.ofString "converted") (Str.ofString "converted") (fPar (at1 16)) (fBod (at1 16)) (fSco (at1 16)) 3 [] PySem.Value.none PySem.Value.none PySem.Value.none (PySem.Value.str (Str.ofString "ledgerspeak.inspecting") 273) none (PySem.Value.ref 169) PySem.Value.none 0)) (List.toArray []))) ::
  (nat_lit 171, (PySem.Obj.mk (PySem.Value.type "tuple") none (PySem.Data.seq (List.toArray []) 0) (List.toArray []))) ::
  (nat_lit 174, (PySem.Obj.mk (PySem.Value.type "code") none (PySem.Data.fields (List.toArray [(PySem.Value.str (Str.ofString "_law_pen") 418), (PySem.Value.str (Str.ofString "_law_pen") 419), (PySem.Value.str (Str.ofString "/claim/cut.py") 420), (PySem.Value.int (113 : Int) 0), (PySem.Value.int (1 : Int) 0), (PySem.Value.int (0 : Int) 0), (PySem.Value.int (0 : Int) 0), (PySem.Value.int (3 : Int) 0), (PySem.Value.ref 171), (PySem.Value.bool Bool.true), (PySem.Value.int (181 : Int) 0), (PySem.Value.ref 172), PySem.Value.none, PySem.Value.none, PySem.Value.none, (PySem.Value.ref 173), (PySem.Value.int (421 : Int) 0), (PySem.Value.int (113 : Int) 0), (PySem.Value.str (Str.ofString "/claim/cut.py") 422)])) (List.toArray []))) ::
  (nat_lit 175, (PySem.Obj.mk (PySem.Value.type "function") none (PySem.Data.func (FuncData.mk (Str.ofString "_law_pen") (Str.ofString "_law_pen") (fPar (at1 18)) (fBod (at1 18)) (fSco (at1 18)) 3 [] PySem.Value.none PySem.Value.none PySem.Value.none (PySem.Value.str (Str.ofString "law_og0078_01") 416) none (PySem.Value.ref 174) PySem.Value.none 0)) (List.toArray []))) ::
  (nat_lit 176, (PySem.Obj.mk (PySem.Value.type "tuple") none (PySem.Data.seq (List.toArray []) 0) (List.toArray []))) ::
  (nat_lit 178, (PySem.Obj.mk (PySem.Value.type "tuple") none (PySem.Data.seq (List.toArray [(PySem.Value.str (Str.ofString "pen") 427), (PySem.Value.str (Str.ofString "many") 428), (PySem.Value.str (Str.ofString "digit") 429), (PySem.Value.str (Str.ofString "turn") 430), (PySem.Value.str (Str.ofString "cell") 431), (PySem.Value.str (Str.ofString "great") 432), (PySem.Value.str (Str.ofString "mixed") 433)]) 0) (List.toArray []))) ::
  (nat_lit 179, (PySem.Obj.mk (PySem.Value.type "tuple") none (PySem.Data.seq (List.toArray []) 0) (List.toArray []))) ::
  (nat_lit 181, (PySem.Obj.mk (PySem.Value.type "code") none (PySem.Data.fields (List.toArray [(PySem.Value.str (Str.ofString "_law_draw") 424), (PySem.Value.str (Str.ofString "_law_draw") 425), (PySem.Value.str (Str.ofString "/claim/cut.py") 426), (PySem.Value.int (115 : Int) 0), (PySem.Value.int (2 : Int) 0), (PySem.Value.int (0 : Int) 0), (PySem.Value.int (0 : Int) 0), (PySem.Value.int (3 : Int) 0), (PySem.Value.ref 176), (PySem.Value.bool Bool.true), (PySem.Value.int (181 : Int) 0), (PySem.Value.ref 177), PySem.Value.none, (PySem.Value.ref 178), (PySem.Value.ref 179), (PySem.Value.ref 180), (PySem.Value.int (434 : Int) 0), (PySem.Value.int (115 : Int) 0), (PySem.Value.str (Str.ofString "/claim/cut.py") 435)])) (List.toArray []))) ::
  (nat_lit 182, (PySem.Obj.mk (PySem.Value.type "function") none (PySem.Data.func (FuncData.mk (Str.ofString "_law_draw") (Str.ofString "_law_draw") (fPar (at1 19)) (fBod (at1 19)) (fSco (at1 19)) 3 [] PySem.Value.none PySem.Value.none PySem.Value.none (PySem.Value.str (Str.ofString "law_og0078_01") 416) none (PySem.Value.ref 181) PySem.Value.none 0)) (List.toArray []))) ::
  (nat_lit 183, (PySem.Obj.mk (PySem.Value.type "tuple") none (PySem.Data.seq (List.toArray []) 0) (List.toArray []))) ::
  (nat_lit 185, (PySem.Obj.mk (PySem.Value.type "tuple") none (PySem.Data.seq (List.toArray [(PySem.Value.str (Str.ofString "pen") 440), (PySem.Value.str (Str.ofString "some") 441)]) 0) (List.toArray []))) ::
  (nat_lit 186, (PySem.Obj.mk (PySem.Value.type "tuple") none (PySem.Data.seq (List.toArray []) 0) (List.toArray []))) ::
  (nat_lit 188, (PySem.Obj.mk (PySem.Value.type "code") none (PySem.Data.fields (List.toArray [(PySem.Value.str (Str.ofString "_law_pick") 437), (PySem.Value.str (Str.ofString "_law_pick") 438), (PySem.Value.str (Str.ofString "/claim/cut.py") 439), (PySem.Value.int (132 : Int) 0), (PySem.Value.int (2 : Int) 0), (PySem.Value.int (0 : Int) 0), (PySem.Value.int (0 : Int) 0), (PySem.Value.int (3 : Int) 0), (PySem.Value.ref 183), (PySem.Value.bool Bool.true), (PySem.Value.int (181 : Int) 0), (PySem.Value.ref 184), PySem.Value.none, (PySem.Value.ref 185), (PySem.Value.ref 186), (PySem.Value.ref 187), (PySem.Value.int (442 : Int) 0), (PySem.Value.int (132 : Int) 0), (PySem.Value.str (Str.ofString "/claim/cut.py") 443)])) (List.toArray []))) ::
  (nat_lit 189, (PySem.Obj.mk (PySem.Value.type "function") none (PySem.Data.func (FuncData.mk (Str.ofString "_law_pick") (Str.ofString "_law_pick") (fPar (at1 20)) (fBod (at1 20)) (fSco (at1 20)) 3 [] PySem.Value.none PySem.Value.none PySem.Value.none (PySem.Value.str (Str.ofString "law_og0078_01") 416) none (PySem.Value.ref 188) PySem.Value.none 0)) (List.toArray []))) ::
  (nat_lit 190, (PySem.Obj.mk (PySem.Value.type "tuple") none (PySem.Data.seq (List.toArray []) 0) (List.toArray []))) ::
  (nat_lit 193, (PySem.Obj.mk (PySem.Value.type "code") none (PySem.Data.fields (List.toArray [(PySem.Value.str (Str.ofString "_law_text") 445), (PySem.Value.str (Str.ofString "_law_text") 446), (PySem.Value.str (Str.ofString "/claim/cut.py") 447), (PySem.Value.int (134 : Int) 0), (PySem.Value.int (3 : Int) 0), (PySem.Value.int (0 : Int) 0), (PySem.Value.int (0 : Int) 0), (PySem.Value.int (3 : Int) 0), (PySem.Value.ref 190), (PySem.Value.bool Bool.true), (PySem.Value.int (181 : Int) 0), (PySem.Value.ref 191), PySem.Value.none, PySem.Value.none, PySem.Value.none, (PySem.Value.ref 192), (PySem.Value.int (448 : Int) 0), (PySem.Value.int (134 : Int) 0), (PySem.Value.str (Str.ofString "/claim/cut.py") 449)])) (List.toArray []))) ::
  (nat_lit 194, (PySem.Obj.mk (PySem.Value.type "function") none (PySem.Data.func (FuncData.mk (Str.ofString "_law_text") (Str.ofString "_law_text") (fPar (at1 21)) (fBod (at1 21)) (fSco (at1 21)) 3 [] PySem.Value.none PySem.Value.none PySem.Value.none (PySem.Value.str (Str.ofString "law_og0078_01") 416) none (PySem.Value.ref 193) PySem.Value.none 0)) (List.toArray []))) ::
  (nat_lit 195, (PySem.Obj.mk (PySem.Value.type "tuple") none (PySem.Data.seq (List.toArray []) 0) (List.toArray []))) ::
  (nat_lit 197, (PySem.Obj.mk (PySem.Value.type "tuple") none (PySem.Data.seq (List.toArray [(PySem.Value.str (Str.ofString "rows") 454)]) 0) (List.toArray []))) ::
  (nat_lit 198, (PySem.Obj.mk (PySem.Value.type "tuple") none (PySem.Data.seq (List.toArray []) 0) (List.toArray []))) ::
  (nat_lit 200, (PySem.Obj.mk (PySem.Value.type "code") none (PySem.Data.fields (List.toArray [(PySem.Value.str (Str.ofString "_law_cases") 451), (PySem.Value.str (Str.ofString "_law_cases") 452), (PySem.Value.str (Str.ofString "/claim/cut.py") 453), (PySem.Value.int (136 : Int) 0), (PySem.Value.int (0 : Int) 0), (PySem.Value.int (0 : Int) 0), (PySem.Value.int (0 : Int) 0), (PySem.Value.int (3 : Int) 0), (PySem.Value.ref 195), (PySem.Value.bool Bool.true), (PySem.Value.int (181 : Int) 0), (PySem.Value.ref 196), PySem.Value.none, (PySem.Value.ref 197), (PySem.Value.ref 198), (PySem.Value.ref 199), (PySem.Value.int (455 : Int) 0), (PySem.Value.int (136 : Int) 0), (PySem.Value.str (Str.ofString "/claim/cut.py") 456)])) (List.toArray []))) ::
  (nat_lit 201, (PySem.Obj.mk (PySem.Value.type "function") none (PySem.Data.func (FuncData.mk (Str.ofString "_law_cases") (Str.ofString "_law_cases") (fPar (at1 22)) (fBod (at1 22)) (fSco (at1 22)) 3 [] PySem.Value.none PySem.Value.none PySem.Value.none (PySem.Value.str (Str.ofString "law_og0078_01") 416) none (PySem.Value.ref 200) PySem.Value.none 0)) (List.toArray []))) ::
  (nat_lit 202, (PySem.Obj.mk (PySem.Value.type "tuple") none (PySem.Data.seq (List.toArray []) 0) (List.toArray []))) ::
  (nat_lit 205, (PySem.Obj.mk (PySem.Value.type "code") none (PySem.Data.fields (List.toArray [(PySem.Value.str (Str.ofString "_law_due") 458), (PySem.Value.str (Str.ofString "_law_due") 459), (PySem.Value.str (Str.ofString "/claim/cut.py") 460), (PySem.Value.int (141 : Int) 0), (PySem.Value.int (5 : Int) 0), (PySem.Value.int (0 : Int) 0), (PySem.Value.int (0 : Int) 0), (PySem.Value.int (3 : Int) 0), (PySem.Value.ref 202), (PySem.Value.bool Bool.true), (PySem.Value.int (181 : Int) 0), (PySem.Value.ref 203), PySem.Value.none, PySem.Value.none, PySem.Value.none, (PySem.Value.ref 204), (PySem.Value.int (461 : Int) 0), (PySem.Value.int (141 : Int) 0), (PySem.Value.str (Str.ofString "/claim/cut.py") 462)])) (List.toArray []))) ::
  (nat_lit 206, (PySem.Obj.mk (PySem.Value.type "function") none (PySem.Data.func (FuncData.mk (Str.ofString "_law_due") (Str.ofString "_law_due") (fPar (at1 23)) (fBod (at1 23)) (fSco (at1 23)) 3 [] PySem.Value.none PySem.Value.none PySem.Value.none (PySem.Value.str (Str.ofString "law_og0078_01") 416) none (PySem.Value.ref 205) PySem.Value.none 0)) (List.toArray []))) ::
  (nat_lit 207, (PySem.Obj.mk (PySem.Value.type "tuple") none (PySem.Data.seq (List.toArray []) 0) (List.toArray []))) ::
  (nat_lit 209, (PySem.Obj.mk (PySem.Value.type "tuple") none (PySem.Data.seq (List.toArray [(PySem.Value.str (Str.ofString "octets") 467), (PySem.Value.str (Str.ofString "before") 468), (PySem.Value.str (Str.ofString "after") 469), (PySem.Value.str (Str.ofString "begin") 470), (PySem.Value.str (Str.ofString "end") 471)]) 0) (List.toArray []))) ::
  (nat_lit 210, (PySem.Obj.mk (PySem.Value.type "tuple") none (PySem.Data.seq (List.toArray []) 0) (List.toArray []))) ::
  (nat_lit 212, (PySem.Obj.mk (PySem.Value.type "code") none (PySem.Data.fields (List.toArray [(PySem.Value.str (Str.ofString "_law_ends") 464), (PySem.Value.str (Str.ofString "_law_ends") 465), (PySem.Value.str (Str.ofString "/claim/cut.py") 466), (PySem.Value.int (146 : Int) 0), (PySem.Value.int (3 : Int) 0), (PySem.Value.int (0 : Int) 0), (PySem.Value.int (0 : Int) 0), (PySem.Value.int (3 : Int) 0), (PySem.Value.ref 207), (PySem.Value.bool Bool.true), (PySem.Value.int (181 : Int) 0), (PySem.Value.ref 208), PySem.Value.none, (PySem.Value.ref 209), (PySem.Value.ref 210), (PySem.Value.ref 211), (PySem.Value.int (472 : Int) 0), (PySem.Value.int (146 : Int) 0), (PySem.Value.str (Str.ofString "/claim/cut.py") 473)])) (List.toArray []))) ::
  (nat_lit 213, (PySem.Obj.mk (PySem.Value.type "function") none (PySem.Data.func (FuncData.mk (Str.ofString "_law_ends") (Str.ofString "_law_ends") (fPar (at1 24)) (fBod (at1 24)) (fSco (at1 24)) 3 [] PySem.Value.none PySem.Value.none PySem.Value.none (PySem.Value.str (Str.ofString "law_og0078_01") 416) none (PySem.Value.ref 212) PySem.Value.none 0)) (List.toArray []))) ::
  (nat_lit 214, (PySem.Obj.mk (PySem.Value.type "tuple") none (PySem.Data.seq (List.toArray []) 0) (List.toArray []))) ::
  (nat_lit 216, (PySem.Obj.mk (PySem.Value.type "tuple") none (PySem.Data.seq (List.toArray [(PySem.Value.str (Str.ofString "wanted") 478), (PySem.Value.str (Str.ofString "one") 479), (PySem.Value.str (Str.ofString "other") 480)]) 0) (List.toArray []))) ::
  (nat_lit 217, (PySem.Obj.mk (PySem.Value.type "tuple") none (PySem.Data.seq (List.toArray []) 0) (List.toArray []))) ::
  (nat_lit 219, (PySem.Obj.mk (PySem.Value.type "code") none (PySem.Data.fields (List.toArray [(PySem.Value.str (Str.ofString "_law_refused") 475), (PySem.Value.str (Str.ofString "_law_refused") 476), (PySem.Value.str (Str.ofString "/claim/cut.py") 477), (PySem.Value.int (156 : Int) 0), (PySem.Value.int (1 : Int) 0), (PySem.Value.int (0 : Int) 0), (PySem.Value.int (0 : Int) 0), (PySem.Value.int (3 : Int) 0), (PySem.Value.ref 214), (PySem.Value.bool Bool.true), (PySem.Value.int (181 : Int) 0), (PySem.Value.ref 215), PySem.Value.none, (PySem.Value.ref 216), (PySem.Value.ref 217), (PySem.Value.ref 218), (PySem.Value.int (481 : Int) 0), (PySem.Value.int (156 : Int) 0), (PySem.Value.str (Str.ofString "/claim/cut.py") 482)])) (List.toArray []))) ::
  (nat_lit 220, (PySem.Obj.mk (PySem.Value.type "function") none (PySem.Data.func (FuncData.mk (Str.ofString "_law_refused") (Str.ofString "_law_refused") (fPar (at1 25)) (fBod (at1 25)) (fSco (at1 25)) 3 [] PySem.Value.none PySem.Value.none PySem.Value.none (PySem.Value.str (Str.ofString "law_og0078_01") 416) none (PySem.Value.ref 219) PySem.Value.none 0)) (List.toArray []))) ::
  (nat_lit 221, (PySem.Obj.mk (PySem.Value.type "tuple") none (PySem.Data.seq (List.toArray []) 0) (List.toArray []))) ::
  (nat_lit 224, (PySem.Obj.mk (PySem.Value.type "code") none (PySem.Data.fields (List.toArray [(PySem.Value.str (Str.ofString "_law_counts_right") 484), (PySem.Value.str (Str.ofString "_law_counts_right") 485), (PySem.Value.str (Str.ofString "/claim/cut.py") 486), (PySem.Value.int (164 : Int) 0), (PySem.Value.int (6 : Int) 0), (PySem.Value.int (0 : Int) 0), (PySem.Value.int (0 : Int) 0), (PySem.Value.int (3 : Int) 0), (PySem.Value.ref 221), (PySem.Value.bool Bool.true), (PySem.Value.int (181 : Int) 0), (PySem.Value.ref 222), PySem.Value.none, PySem.Value.none, PySem.Value.none, (PySem.Value.ref 223), (PySem.Value.int (487 : Int) 0), (PySem.Value.int (164 : Int) 0), (PySem.Value.str (Str.ofString "/claim/cut.py") 488)])) (List.toArray []))) ::
  (nat_lit 225, (PySem.Obj.mk (PySem.Value.type "function") none (PySem.Data.func (FuncData.mk (Str.ofString "_law_counts_right") (Str.ofString "_law_counts_right") (fPar (at1 26)) (fBod (at1 26)) (fSco (at1 26)) 3 [] PySem.Value.none PySem.Value.none PySem.Value.none (PySem.Value.str (Str.ofString "law_og0078_01") 416) none (PySem.Value.ref 224) PySem.Value.none 0)) (List.toArray []))) ::
  (nat_lit 226, (PySem.Obj.mk (PySem.Value.type "tuple") none (PySem.Data.seq (List.toArray []) 0) (List.toArray []))) ::
  (nat_lit 228, (PySem.Obj.mk (PySem.Value.type "tuple") none (PySem.Data.seq (List.toArray [(PySem.Value.str (Str.ofString "octets") 493), (PySem.Value.str (Str.ofString "turn") 494), (PySem.Value.str (Str.ofString "row") 495), (PySem.Value.str (Str.ofString "given") 496), (PySem.Value.str (Str.ofString "one") 497)]) 0) (List.toArray []))) ::
  (nat_lit 229, (PySem.Obj.mk (PySem.Value.type "tuple") none (PySem.Data.seq (List.toArray []) 0) (List.toArray []))) ::
  (nat_lit 231, (PySem.Obj.mk (PySem.Value.type "code") none (PySem.Data.fields (List.toArray [(PySem.Value.str (Str.ofString "_law_back_right") 490), (PySem.Value.str (Str.ofString "_law_back_right") 491), (PySem.Value.str (Str.ofString "/claim/cut.py") 492), (PySem.Value.int (171 : Int) 0), (PySem.Value.int (2 : Int) 0), (PySem.Value.int (0 : Int) 0), (PySem.Value.int (0 : Int) 0), (PySem.Value.int (3 : Int) 0), (PySem.Value.ref 226), (PySem.Value.bool Bool.true), (PySem.Value.int (181 : Int) 0), (PySem.Value.ref 227), PySem.Value.none, (PySem.Value.ref 228), (PySem.Value.ref 229), (PySem.Value.ref 230), (PySem.Value.int (498 : Int) 0), (PySem.Value.int (171 : Int) 0), (PySem.Value.str (Str.ofString "/claim/cut.py") 499)])) (List.toArray []))) ::
  (nat_lit 232, (PySem.Obj.mk (PySem.Value.type "function") none (PySem.Data.func (FuncData.mk (Str.ofString "_law_back_right") (Str.ofString "_law_back_right") (fPar (at1 27)) (fBod (at1 27)) (fSco (at1 27)) 3 [] PySem.Value.none PySem.Value.none PySem.Value.none (PySem.Value.str (Str.ofString "law_og0078_01") 416) none (PySem.Value.ref 231) PySem.Value.none 0)) (List.toArray []))) ::
  (nat_lit 233, (PySem.Obj.mk (PySem.Value.type "tuple") none (PySem.Data.seq (List.toArray []) 0) (List.toArray []))) ::
  (nat_lit 236, (PySem.Obj.mk (PySem.Value.type "code") none (PySem.Data.fields (List.toArray [(PySem.Value.str (Str.ofString "law") 501), (PySem.Value.str (Str.ofString "law") 502), (PySem.Value.str (Str.ofString "/claim/cut.py") 503), (PySem.Value.int (178 : Int) 0), (PySem.Value.int (1 : Int) 0), (PySem.Value.int (0 : Int) 0), (PySem.Value.int (0 : Int) 0), (PySem.Value.int (3 : Int) 0), (PySem.Value.ref 233), (PySem.Value.bool Bool.true), (PySem.Value.int (181 : Int) 0), (PySem.Value.ref 234), PySem.Value.none, PySem.Value.none, PySem.Value.none, (PySem.Value.ref 235), (PySem.Value.int (504 : Int) 0), (PySem.Value.int (178 : Int) 0), (PySem.Value.str (Str.ofString "/claim/cut.py") 505)])) (List.toArray []))) ::
  (nat_lit 237, (PySem.Obj.mk (PySem.Value.type "function") none (PySem.Data.func (FuncData.mk (Str.ofString "law") (Str.ofString "law") (fPar (at1 28)) (fBod (at1 28)) (fSco (at1 28)) 3 [] PySem.Value.none PySem.Value.none PySem.Value.none (PySem.Value.str (Str.ofString "law_og0078_01") 416) none (PySem.Value.ref 236) PySem.Value.none 0)) (List.toArray []))) :: []
noncomputable abbrev hd.addrs : List Addr := nat_lit 2 :: nat_lit 3 :: nat_lit 15 :: nat_lit 17 :: nat_lit 18 :: nat_lit 20 :: nat_lit 21 :: nat_lit 22 :: nat_lit 29 :: nat_lit 30 :: nat_lit 31 :: nat_lit 33 :: nat_lit 34 :: nat_lit 36 :: nat_lit 37 :: nat_lit 38 :: nat_lit 40 :: nat_lit 41 :: nat_lit 43 :: nat_lit 44 :: nat_lit 45 :: nat_lit 46 :: nat_lit 47 :: nat_lit 48 :: nat_lit 51 :: nat_lit 58 :: nat_lit 59 :: nat_lit 60 :: nat_lit 63 :: nat_lit 65 :: nat_lit 66 :: nat_lit 68 :: nat_lit 69 :: nat_lit 70 :: nat_lit 72 :: nat_lit 73 :: nat_lit 75 :: nat_lit 76 :: nat_lit 77 :: nat_lit 79 :: nat_lit 80 :: nat_lit 82 :: nat_lit 83 :: nat_lit 84 :: nat_lit 86 :: nat_lit 87 :: nat_lit 89 :: nat_lit 90 :: nat_lit 98 :: nat_lit 100 :: nat_lit 101 :: nat_lit 103 :: nat_lit 104 :: nat_lit 105 :: nat_lit 107 :: nat_lit 108 :: nat_lit 110 :: nat_lit 111 :: nat_lit 112 :: nat_lit 114 :: nat_lit 115 :: nat_lit 117 :: nat_lit 118 :: nat_lit 119 :: nat_lit 121 :: nat_lit 122 :: nat_lit 124 :: nat_lit 125 :: nat_lit 126 :: nat_lit 128 :: nat_lit 129 :: nat_lit 131 :: nat_lit 132 :: nat_lit 133 :: nat_lit 134 :: nat_lit 135 :: nat_lit 136 :: nat_lit 137 :: nat_lit 140 :: nat_lit 142 :: nat_lit 143 :: nat_lit 145 :: nat_lit 146 :: nat_lit 147 :: nat_lit 149 :: nat_lit 150 :: nat_lit 152 :: nat_lit 153 :: nat_lit 154 :: nat_lit 157 :: nat_lit 158 :: nat_lit 159 :: nat_lit 162 :: nat_lit 163 :: nat_lit 164 :: nat_lit 166 :: nat_lit 167 :: nat_lit 169 :: nat_lit 170 :: nat_lit 171 :: nat_lit 174 :: nat_lit 175 :: nat_lit 176 :: nat_lit 178 :: nat_lit 179 :: nat_lit 181 :: nat_lit 182 :: nat_lit 183 :: nat_lit 185 :: nat_lit 186 :: nat_lit 188 :: nat_lit 189 :: nat_lit 190 :: nat_lit 193 :: nat_lit 194 :: nat_lit 195 :: nat_lit 197 :: nat_lit 198 :: nat_lit 200 :: nat_lit 201 :: nat_lit 202 :: nat_lit 205 :: nat_lit 206 :: nat_lit 207 :: nat_lit 209 :: nat_lit 210 :: nat_lit 212 :: nat_lit 213 :: nat_lit 214 :: nat_lit 216 :: nat_lit 217 :: nat_lit 219 :: nat_lit 220 :: nat_lit 221 :: nat_lit 224 :: nat_lit 225 :: nat_lit 226 :: nat_lit 228 :: nat_lit 229 :: nat_lit 231 :: nat_lit 232 :: nat_lit 233 :: nat_lit 236 :: nat_lit 237 :: []
noncomputable abbrev hd.hook : Hook := kHook hd.heap_39 hd.addrs (fun _ => by kernel_rfl)
noncomputable abbrev hd.xt : Shared → Bool := fun s => xlAt hd.view_39 [] s && recOk (RowW.records PySem.Challenge.rw_og0078_01.row.toRowW) s
noncomputable def hd.ob (P : Params) (k : Nat) : Obj := ((hd.heap_39 P).getD k (0, { cls := .none, data := .plain })).2
/-- the whole heap behind the top's run -/
noncomputable def hd.h1 : Params → Heap := fun P => ⟨List.toArray (
  (PySem.W.boot_o_0 P) ::
  (PySem.W.boot_o_1 P) ::
  (hd.ob P 0) ::
  (hd.ob P 1) ::
  (PySem.W.boot_o_4 P) ::
  (PySem.W.boot_o_5 P) ::
  (PySem.W.boot_o_6 P) ::
  (PySem.W.boot_o_7 P) ::
  (PySem.W.boot_o_8 P) ::
  (PySem.W.boot_o_9 P) ::
  (PySem.W.boot_o_10 P) ::
  (PySem.Obj.mk (PySem.Value.type "tuple") none (PySem.Data.seq (List.toArray []) 0) (List.toArray [])) ::
  (PySem.Obj.mk PySem.Value.none none (PySem.Data.fields (List.toArray [(PySem.Value.int (1 : Int) 0), (PySem.Value.int (0 : Int) 0), (PySem.Value.ref 20), (PySem.Value.int (5 : Int) 0), (PySem.Value.int (0 : Int) 0), (PySem.Value.ref 27), (PySem.Value.int (14 : Int) 0), (PySem.Value.int (0 : Int) 0), (PySem.Value.ref 56), (PySem.Value.int (17 : Int) 0), (PySem.Value.int (0 : Int) 0), (PySem.Value.ref 68), (PySem.Value.int (19 : Int) 0), (PySem.Value.int (0 : Int) 0), (PySem.Value.ref 75), (PySem.Value.int (28 : Int) 0), (PySem.Value.int (0 : Int) 0), (PySem.Value.ref 82), (PySem.Value.int (33 : Int) 0), (PySem.Value.int (0 : Int) 0), (PySem.Value.ref 89), (PySem.Value.int (38 : Int) 0), (PySem.Value.int (0 : Int) 0), (PySem.Value.ref 96), (PySem.Value.int (67 : Int) 0), (PySem.Value.int (0 : Int) 0), (PySem.Value.ref 145), (PySem.Value.int (73 : Int) 0), (PySem.Value.int (0 : Int) 0), (PySem.Value.ref 152), (PySem.Value.int (88 : Int) 0), (PySem.Value.int (0 : Int) 0), (PySem.Value.ref 157), (PySem.Value.int (94 : Int) 0), (PySem.Value.int (0 : Int) 0), (PySem.Value.ref 162), (PySem.Value.int (102 : Int) 0), (PySem.Value.int (0 : Int) 0), (PySem.Value.ref 169), (PySem.Value.int (113 : Int) 0), (PySem.Value.int (0 : Int) 0), (PySem.Value.ref 174), (PySem.Value.int (115 : Int) 0), (PySem.Value.int (0 : Int) 0), (PySem.Value.ref 181), (PySem.Value.int (132 : Int) 0), (PySem.Value.int (0 : Int) 0), (PySem.Value.ref 188), (PySem.Value.int (134 : Int) 0), (PySem.Value.int (0 : Int) 0), (PySem.Value.ref 193), (PySem.Value.int (136 : Int) 0), (PySem.Value.int (0 : Int) 0), (PySem.Value.ref 200), (PySem.Value.int (141 : Int) 0), (PySem.Value.int (0 : Int) 0), (PySem.Value.ref 205), (PySem.Value.int (146 : Int) 0), (PySem.Value.int (0 : Int) 0), (PySem.Value.ref 212), (PySem.Value.int (156 : Int) 0), (PySem.Value.int (0 : Int) 0), (PySem.Value.ref 219), (PySem.Value.int (164 : Int) 0), (PySem.Value.int (0 : Int) 0), (PySem.Value.ref 224), (PySem.Value.int (171 : Int) 0), (PySem.Value.int (0 : Int) 0), (PySem.Value.ref 231), (PySem.Value.int (178 : Int) 0), (PySem.Value.int (0 : Int) 0), (PySem.Value.ref 236)])) (List.toArray [])) ::
  (PySem.Obj.mk (PySem.Value.type "code") none (PySem.Data.fields (List.toArray [(PySem.Value.str (Str.ofString "<module>") 182), (PySem.Value.str (Str.ofString "<module>") 183), (PySem.Value.str (Str.ofString "/claim/cut.py") 184), (PySem.Value.int (1 : Int) 0), (PySem.Value.int (0 : Int) 0), (PySem.Value.int (0 : Int) 0), (PySem.Value.int (0 : Int) 0), (PySem.Value.int (0 : Int) 0), (PySem.Value.ref 11), (PySem.Value.bool Bool.false), (PySem.Value.int (181 : Int) 0), (PySem.Value.ref 12), PySem.Value.none, PySem.Value.none, PySem.Value.none, PySem.Value.none, (PySem.Value.int (185 : Int) 0), (PySem.Value.int (1 : Int) 0), (PySem.Value.str (Str.ofString "/claim/cut.py") 186)])) (List.toArray [])) ::
  (PySem.Obj.mk (PySem.Value.type "frame") none PySem.Data.plain (List.toArray [(some (PySem.Value.ref 13)), (some (PySem.Value.ref 3)), (some (PySem.Value.ref 3)), none, (some (PySem.Value.str (Str.ofString "__main__") 164)), none, (some (PySem.Value.ref 0))])) ::
  (hd.ob P 2) ::
  (PySem.Obj.mk PySem.Value.none none (PySem.Data.fields (List.toArray [])) (List.toArray [])) ::
  (hd.ob P 3) ::
  (hd.ob P 4) ::
  (PySem.Obj.mk PySem.Value.none none (PySem.Data.func (FuncData.mk (Str.ofString "_wall") (Str.ofString "_wall") (fPar (at1 0)) (fBod (at1 0)) (fSco (at1 0)) 0 [] PySem.Value.none PySem.Value.none PySem.Value.none PySem.Value.none none PySem.Value.none PySem.Value.none 0)) (List.toArray [])) ::
  (hd.ob P 5) ::
  (hd.ob P 6) ::
  (hd.ob P 7) ::
  (PySem.Obj.mk (PySem.Value.type "builtin_function_or_method") none (PySem.Data.fields (List.toArray [(PySem.Value.builtin "type.__prepare__"), (PySem.Value.type "type")])) (List.toArray [])) ::
  (PySem.Obj.mk (PySem.Value.type "dict") none (PySem.Data.dict (List.toArray [(PySem.DictEntry.mk (PySem.PyData.keyHash P (Str.ofString "__module__")) (PySem.Value.str (Str.ofString "__module__") 203) (PySem.Value.str (Str.ofString "ledgerspeak.errors") 194)), (PySem.DictEntry.mk (PySem.PyData.keyHash P (Str.ofString "__qualname__")) (PySem.Value.str (Str.ofString "__qualname__") 205) (PySem.Value.str (Str.ofString "LedgerError") 204)), (PySem.DictEntry.mk (PySem.PyData.keyHash P (Str.ofString "__firstlineno__")) (PySem.Value.str (Str.ofString "__firstlineno__") 207) (PySem.Value.int (5 : Int) 206)), (PySem.DictEntry.mk (PySem.PyData.keyHash P (Str.ofString "__init__")) (PySem.Value.str (Str.ofString "__init__") 218) (PySem.Value.ref 37)), (PySem.DictEntry.mk (PySem.PyData.keyHash P (Str.ofString "told")) (PySem.Value.str (Str.ofString "told") 225) (PySem.Value.ref 44)), (PySem.DictEntry.mk (PySem.PyData.keyHash P (Str.ofString "__static_attributes__")) (PySem.Value.str (Str.ofString "__static_attributes__") 228) (PySem.Value.ref 45))]) 6) (List.toArray [])) ::
  (PySem.Obj.mk (PySem.Value.type "tuple") none (PySem.Data.seq (List.toArray []) 0) (List.toArray [])) ::
  (PySem.Obj.mk PySem.Value.none none (PySem.Data.fields (List.toArray [(PySem.Value.int (7 : Int) 0), (PySem.Value.int (4 : Int) 0), (PySem.Value.ref 36), (PySem.Value.int (12 : Int) 0), (PySem.Value.int (4 : Int) 0), (PySem.Value.ref 43)])) (List.toArray [])) ::
  (PySem.Obj.mk (PySem.Value.type "code") none (PySem.Data.fields (List.toArray [(PySem.Value.str (Str.ofString "LedgerError") 198), (PySem.Value.str (Str.ofString "LedgerError") 199), (PySem.Value.str (Str.ofString "/claim/cut.py") 200), (PySem.Value.int (5 : Int) 0), (PySem.Value.int (0 : Int) 0), (PySem.Value.int (0 : Int) 0), (PySem.Value.int (0 : Int) 0), (PySem.Value.int (0 : Int) 0), (PySem.Value.ref 25), (PySem.Value.bool Bool.false), (PySem.Value.int (181 : Int) 0), (PySem.Value.ref 26), PySem.Value.none, PySem.Value.none, PySem.Value.none, PySem.Value.none, (PySem.Value.int (201 : Int) 0), (PySem.Value.int (5 : Int) 0), (PySem.Value.str (Str.ofString "/claim/cut.py") 202)])) (List.toArray [])) ::
  (PySem.Obj.mk (PySem.Value.type "frame") none PySem.Data.plain (List.toArray [(some (PySem.Value.ref 27)), (some (PySem.Value.ref 3)), (some (PySem.Value.ref 24)), none, (some (PySem.Value.str (Str.ofString "ledgerspeak.errors") 194)), none, (some (PySem.Value.ref 0))])) ::
  (hd.ob P 8) ::
  (hd.ob P 9) ::
  (hd.ob P 10) ::
  (PySem.Obj.mk PySem.Value.none none (PySem.Data.fields (List.toArray [])) (List.toArray [])) ::
  (hd.ob P 11) ::
  (hd.ob P 12) ::
  (PySem.Obj.mk PySem.Value.none none (PySem.Data.func (FuncData.mk (Str.ofString "__init__") (Str.ofString "LedgerError.__init__") (fPar (at2 2 0)) (fBod (at2 2 0)) (fSco (at2 2 0)) 0 [] PySem.Value.none PySem.Value.none PySem.Value.none PySem.Value.none none PySem.Value.none PySem.Value.none 0)) (List.toArray [])) ::
  (hd.ob P 13) ::
  (hd.ob P 14) ::
  (hd.ob P 15) ::
  (PySem.Obj.mk PySem.Value.none none (PySem.Data.fields (List.toArray [])) (List.toArray [])) ::
  (hd.ob P 16) ::
  (hd.ob P 17) ::
  (PySem.Obj.mk PySem.Value.none none (PySem.Data.func (FuncData.mk (Str.ofString "told") (Str.ofString "LedgerError.told") (fPar (at2 2 1)) (fBod (at2 2 1)) (fSco (at2 2 1)) 0 [] PySem.Value.none PySem.Value.none PySem.Value.none PySem.Value.none none PySem.Value.none PySem.Value.none 0)) (List.toArray [])) ::
  (hd.ob P 18) ::
  (hd.ob P 19) ::
  (hd.ob P 20) ::
  (hd.ob P 21) ::
  (hd.ob P 22) ::
  (hd.ob P 23) ::
  (PySem.Obj.mk (PySem.Value.type "super") none (PySem.Data.fields (List.toArray [(PySem.Value.ref 47), (PySem.Value.ref 47), (PySem.Value.ref 47)])) (List.toArray [])) ::
  (PySem.Obj.mk (PySem.Value.type "builtin_function_or_method") none (PySem.Data.fields (List.toArray [(PySem.Value.builtin "object.__init_subclass__"), (PySem.Value.ref 47)])) (List.toArray [])) ::
  (hd.ob P 24) ::
  (PySem.Obj.mk (PySem.Value.type "builtin_function_or_method") none (PySem.Data.fields (List.toArray [(PySem.Value.builtin "type.__prepare__"), (PySem.Value.type "type")])) (List.toArray [])) ::
  (PySem.Obj.mk (PySem.Value.type "dict") none (PySem.Data.dict (List.toArray [(PySem.DictEntry.mk (PySem.PyData.keyHash P (Str.ofString "__module__")) (PySem.Value.str (Str.ofString "__module__") 243) (PySem.Value.str (Str.ofString "ledgerspeak.errors") 194)), (PySem.DictEntry.mk (PySem.PyData.keyHash P (Str.ofString "__qualname__")) (PySem.Value.str (Str.ofString "__qualname__") 245) (PySem.Value.str (Str.ofString "RunFault") 244)), (PySem.DictEntry.mk (PySem.PyData.keyHash P (Str.ofString "__firstlineno__")) (PySem.Value.str (Str.ofString "__firstlineno__") 247) (PySem.Value.int (14 : Int) 246)), (PySem.DictEntry.mk (PySem.PyData.keyHash P (Str.ofString "__static_attributes__")) (PySem.Value.str (Str.ofString "__static_attributes__") 248) (PySem.Value.ref 58))]) 4) (List.toArray [])) ::
  (PySem.Obj.mk (PySem.Value.type "tuple") none (PySem.Data.seq (List.toArray []) 0) (List.toArray [])) ::
  (PySem.Obj.mk PySem.Value.none none (PySem.Data.fields (List.toArray [])) (List.toArray [])) ::
  (PySem.Obj.mk (PySem.Value.type "code") none (PySem.Data.fields (List.toArray [(PySem.Value.str (Str.ofString "RunFault") 238), (PySem.Value.str (Str.ofString "RunFault") 239), (PySem.Value.str (Str.ofString "/claim/cut.py") 240), (PySem.Value.int (14 : Int) 0), (PySem.Value.int (0 : Int) 0), (PySem.Value.int (0 : Int) 0), (PySem.Value.int (0 : Int) 0), (PySem.Value.int (0 : Int) 0), (PySem.Value.ref 54), (PySem.Value.bool Bool.false), (PySem.Value.int (181 : Int) 0), (PySem.Value.ref 55), PySem.Value.none, PySem.Value.none, PySem.Value.none, PySem.Value.none, (PySem.Value.int (241 : Int) 0), (PySem.Value.int (14 : Int) 0), (PySem.Value.str (Str.ofString "/claim/cut.py") 242)])) (List.toArray [])) ::
  (PySem.Obj.mk (PySem.Value.type "frame") none PySem.Data.plain (List.toArray [(some (PySem.Value.ref 56)), (some (PySem.Value.ref 3)), (some (PySem.Value.ref 53)), none, (some (PySem.Value.str (Str.ofString "ledgerspeak.errors") 194)), none, (some (PySem.Value.ref 0))])) ::
  (hd.ob P 25) ::
  (hd.ob P 26) ::
  (hd.ob P 27) ::
  (PySem.Obj.mk (PySem.Value.type "super") none (PySem.Data.fields (List.toArray [(PySem.Value.ref 60), (PySem.Value.ref 60), (PySem.Value.ref 60)])) (List.toArray [])) ::
  (PySem.Obj.mk (PySem.Value.type "builtin_function_or_method") none (PySem.Data.fields (List.toArray [(PySem.Value.builtin "object.__init_subclass__"), (PySem.Value.ref 60)])) (List.toArray [])) ::
  (hd.ob P 28) ::
  (PySem.Obj.mk PySem.Value.none none (PySem.Data.fields (List.toArray [])) (List.toArray [])) ::
  (hd.ob P 29) ::
  (hd.ob P 30) ::
  (PySem.Obj.mk PySem.Value.none none (PySem.Data.func (FuncData.mk (Str.ofString "lies_at") (Str.ofString "lies_at") (fPar (at1 5)) (fBod (at1 5)) (fSco (at1 5)) 0 [] PySem.Value.none PySem.Value.none PySem.Value.none PySem.Value.none none PySem.Value.none PySem.Value.none 0)) (List.toArray [])) ::
  (hd.ob P 31) ::
  (hd.ob P 32) ::
  (hd.ob P 33) ::
  (PySem.Obj.mk PySem.Value.none none (PySem.Data.fields (List.toArray [])) (List.toArray [])) ::
  (hd.ob P 34) ::
  (hd.ob P 35) ::
  (PySem.Obj.mk PySem.Value.none none (PySem.Data.func (FuncData.mk (Str.ofString "first_at") (Str.ofString "first_at") (fPar (at1 6)) (fBod (at1 6)) (fSco (at1 6)) 0 [] PySem.Value.none PySem.Value.none PySem.Value.none PySem.Value.none none PySem.Value.none PySem.Value.none 0)) (List.toArray [])) ::
  (hd.ob P 36) ::
  (hd.ob P 37) ::
  (hd.ob P 38) ::
  (PySem.Obj.mk PySem.Value.none none (PySem.Data.fields (List.toArray [])) (List.toArray [])) ::
  (hd.ob P 39) ::
  (hd.ob P 40) ::
  (PySem.Obj.mk PySem.Value.none none (PySem.Data.func (FuncData.mk (Str.ofString "stretch_begin") (Str.ofString "stretch_begin") (fPar (at1 9)) (fBod (at1 9)) (fSco (at1 9)) 0 [] PySem.Value.none PySem.Value.none PySem.Value.none PySem.Value.none none PySem.Value.none PySem.Value.none 0)) (List.toArray [])) ::
  (hd.ob P 41) ::
  (hd.ob P 42) ::
  (hd.ob P 43) ::
  (PySem.Obj.mk PySem.Value.none none (PySem.Data.fields (List.toArray [])) (List.toArray [])) ::
  (hd.ob P 44) ::
  (hd.ob P 45) ::
  (PySem.Obj.mk PySem.Value.none none (PySem.Data.func (FuncData.mk (Str.ofString "stretch_end") (Str.ofString "stretch_end") (fPar (at1 10)) (fBod (at1 10)) (fSco (at1 10)) 0 [] PySem.Value.none PySem.Value.none PySem.Value.none PySem.Value.none none PySem.Value.none PySem.Value.none 0)) (List.toArray [])) ::
  (hd.ob P 46) ::
  (hd.ob P 47) ::
  (PySem.Obj.mk (PySem.Value.type "tuple") none (PySem.Data.seq (List.toArray []) 0) (List.toArray [])) ::
  (PySem.Obj.mk (PySem.Value.type "builtin_function_or_method") none (PySem.Data.fields (List.toArray [(PySem.Value.builtin "type.__prepare__"), (PySem.Value.type "type")])) (List.toArray [])) ::
  (PySem.Obj.mk (PySem.Value.type "dict") none (PySem.Data.dict (List.toArray [(PySem.DictEntry.mk (PySem.PyData.keyHash P (Str.ofString "__module__")) (PySem.Value.str (Str.ofString "__module__") 302) (PySem.Value.str (Str.ofString "ledgerspeak.inspecting") 273)), (PySem.DictEntry.mk (PySem.PyData.keyHash P (Str.ofString "__qualname__")) (PySem.Value.str (Str.ofString "__qualname__") 304) (PySem.Value.str (Str.ofString "Seeker") 303)), (PySem.DictEntry.mk (PySem.PyData.keyHash P (Str.ofString "__firstlineno__")) (PySem.Value.str (Str.ofString "__firstlineno__") 306) (PySem.Value.int (38 : Int) 305)), (PySem.DictEntry.mk (PySem.PyData.keyHash P (Str.ofString "__init__")) (PySem.Value.str (Str.ofString "__init__") 317) (PySem.Value.ref 104)), (PySem.DictEntry.mk (PySem.PyData.keyHash P (Str.ofString "width")) (PySem.Value.str (Str.ofString "width") 324) (PySem.Value.ref 111)), (PySem.DictEntry.mk (PySem.PyData.keyHash P (Str.ofString "reach")) (PySem.Value.str (Str.ofString "reach") 332) (PySem.Value.ref 118)), (PySem.DictEntry.mk (PySem.PyData.keyHash P (Str.ofString "is_fit")) (PySem.Value.str (Str.ofString "is_fit") 341) (PySem.Value.ref 125)), (PySem.DictEntry.mk (PySem.PyData.keyHash P (Str.ofString "took")) (PySem.Value.str (Str.ofString "took") 349) (PySem.Value.ref 132)), (PySem.DictEntry.mk (PySem.PyData.keyHash P (Str.ofString "__static_attributes__")) (PySem.Value.str (Str.ofString "__static_attributes__") 356) (PySem.Value.ref 133))]) 9) (List.toArray [])) ::
  (PySem.Obj.mk (PySem.Value.type "tuple") none (PySem.Data.seq (List.toArray []) 0) (List.toArray [])) ::
  (PySem.Obj.mk PySem.Value.none none (PySem.Data.fields (List.toArray [(PySem.Value.int (40 : Int) 0), (PySem.Value.int (4 : Int) 0), (PySem.Value.ref 103), (PySem.Value.int (48 : Int) 0), (PySem.Value.int (4 : Int) 0), (PySem.Value.ref 110), (PySem.Value.int (51 : Int) 0), (PySem.Value.int (4 : Int) 0), (PySem.Value.ref 117), (PySem.Value.int (55 : Int) 0), (PySem.Value.int (4 : Int) 0), (PySem.Value.ref 124), (PySem.Value.int (64 : Int) 0), (PySem.Value.int (4 : Int) 0), (PySem.Value.ref 131)])) (List.toArray [])) ::
  (PySem.Obj.mk (PySem.Value.type "code") none (PySem.Data.fields (List.toArray [(PySem.Value.str (Str.ofString "Seeker") 297), (PySem.Value.str (Str.ofString "Seeker") 298), (PySem.Value.str (Str.ofString "/claim/cut.py") 299), (PySem.Value.int (38 : Int) 0), (PySem.Value.int (0 : Int) 0), (PySem.Value.int (0 : Int) 0), (PySem.Value.int (0 : Int) 0), (PySem.Value.int (0 : Int) 0), (PySem.Value.ref 94), (PySem.Value.bool Bool.false), (PySem.Value.int (181 : Int) 0), (PySem.Value.ref 95), PySem.Value.none, PySem.Value.none, PySem.Value.none, PySem.Value.none, (PySem.Value.int (300 : Int) 0), (PySem.Value.int (38 : Int) 0), (PySem.Value.str (Str.ofString "/claim/cut.py") 301)])) (List.toArray [])) ::
  (PySem.Obj.mk (PySem.Value.type "frame") none PySem.Data.plain (List.toArray [(some (PySem.Value.ref 96)), (some (PySem.Value.ref 3)), (some (PySem.Value.ref 93)), none, (some (PySem.Value.str (Str.ofString "ledgerspeak.inspecting") 273)), none, (some (PySem.Value.ref 0))])) ::
  (hd.ob P 48) ::
  (PySem.Obj.mk PySem.Value.none none (PySem.Data.fields (List.toArray [])) (List.toArray [])) ::
  (hd.ob P 49) ::
  (hd.ob P 50) ::
  (PySem.Obj.mk PySem.Value.none none (PySem.Data.func (FuncData.mk (Str.ofString "__init__") (Str.ofString "Seeker.__init__") (fPar (at2 11 0)) (fBod (at2 11 0)) (fSco (at2 11 0)) 0 [] PySem.Value.none PySem.Value.none PySem.Value.none PySem.Value.none none PySem.Value.none PySem.Value.none 0)) (List.toArray [])) ::
  (hd.ob P 51) ::
  (hd.ob P 52) ::
  (hd.ob P 53) ::
  (PySem.Obj.mk PySem.Value.none none (PySem.Data.fields (List.toArray [])) (List.toArray [])) ::
  (hd.ob P 54) ::
  (hd.ob P 55) ::
  (PySem.Obj.mk PySem.Value.none none (PySem.Data.func (FuncData.mk (Str.ofString "width") (Str.ofString "Seeker.width") (fPar (at2 11 1)) (fBod (at2 11 1)) (fSco (at2 11 1)) 0 [] PySem.Value.none PySem.Value.none PySem.Value.none PySem.Value.none none PySem.Value.none PySem.Value.none 0)) (List.toArray [])) ::
  (hd.ob P 56) ::
  (hd.ob P 57) ::
  (hd.ob P 58) ::
  (PySem.Obj.mk PySem.Value.none none (PySem.Data.fields (List.toArray [])) (List.toArray [])) ::
  (hd.ob P 59) ::
  (hd.ob P 60) ::
  (PySem.Obj.mk PySem.Value.none none (PySem.Data.func (FuncData.mk (Str.ofString "reach") (Str.ofString "Seeker.reach") (fPar (at2 11 2)) (fBod (at2 11 2)) (fSco (at2 11 2)) 0 [] PySem.Value.none PySem.Value.none PySem.Value.none PySem.Value.none none PySem.Value.none PySem.Value.none 0)) (List.toArray [])) ::
  (hd.ob P 61) ::
  (hd.ob P 62) ::
  (hd.ob P 63) ::
  (PySem.Obj.mk PySem.Value.none none (PySem.Data.fields (List.toArray [])) (List.toArray [])) ::
  (hd.ob P 64) ::
  (hd.ob P 65) ::
  (PySem.Obj.mk PySem.Value.none none (PySem.Data.func (FuncData.mk (Str.ofString "is_fit") (Str.ofString "Seeker.is_fit") (fPar (at2 11 3)) (fBod (at2 11 3)) (fSco (at2 11 3)) 0 [] PySem.Value.none PySem.Value.none PySem.Value.none PySem.Value.none none PySem.Value.none PySem.Value.none 0)) (List.toArray [])) ::
  (hd.ob P 66) ::
  (hd.ob P 67) ::
  (hd.ob P 68) ::
  (PySem.Obj.mk PySem.Value.none none (PySem.Data.fields (List.toArray [])) (List.toArray [])) ::
  (hd.ob P 69) ::
  (hd.ob P 70) ::
  (PySem.Obj.mk PySem.Value.none none (PySem.Data.func (FuncData.mk (Str.ofString "took") (Str.ofString "Seeker.took") (fPar (at2 11 4)) (fBod (at2 11 4)) (fSco (at2 11 4)) 0 [] PySem.Value.none PySem.Value.none PySem.Value.none PySem.Value.none none PySem.Value.none PySem.Value.none 0)) (List.toArray [])) ::
  (hd.ob P 71) ::
  (hd.ob P 72) ::
  (hd.ob P 73) ::
  (hd.ob P 74) ::
  (hd.ob P 75) ::
  (hd.ob P 76) ::
  (hd.ob P 77) ::
  (PySem.Obj.mk (PySem.Value.type "super") none (PySem.Data.fields (List.toArray [(PySem.Value.ref 135), (PySem.Value.ref 135), (PySem.Value.ref 135)])) (List.toArray [])) ::
  (PySem.Obj.mk (PySem.Value.type "builtin_function_or_method") none (PySem.Data.fields (List.toArray [(PySem.Value.builtin "object.__init_subclass__"), (PySem.Value.ref 135)])) (List.toArray [])) ::
  (hd.ob P 78) ::
  (PySem.Obj.mk PySem.Value.none none (PySem.Data.fields (List.toArray [])) (List.toArray [])) ::
  (hd.ob P 79) ::
  (hd.ob P 80) ::
  (PySem.Obj.mk PySem.Value.none none (PySem.Data.func (FuncData.mk (Str.ofString "seeker_of") (Str.ofString "seeker_of") (fPar (at1 12)) (fBod (at1 12)) (fSco (at1 12)) 0 [] PySem.Value.none PySem.Value.none PySem.Value.none PySem.Value.none none PySem.Value.none PySem.Value.none 0)) (List.toArray [])) ::
  (hd.ob P 81) ::
  (hd.ob P 82) ::
  (hd.ob P 83) ::
  (PySem.Obj.mk PySem.Value.none none (PySem.Data.fields (List.toArray [])) (List.toArray [])) ::
  (hd.ob P 84) ::
  (hd.ob P 85) ::
  (PySem.Obj.mk PySem.Value.none none (PySem.Data.func (FuncData.mk (Str.ofString "fits_in") (Str.ofString "fits_in") (fPar (at1 13)) (fBod (at1 13)) (fSco (at1 13)) 0 [] PySem.Value.none PySem.Value.none PySem.Value.none PySem.Value.none none PySem.Value.none PySem.Value.none 0)) (List.toArray [])) ::
  (hd.ob P 86) ::
  (hd.ob P 87) ::
  (hd.ob P 88) ::
  (PySem.Obj.mk PySem.Value.none none (PySem.Data.fields (List.toArray [])) (List.toArray [])) ::
  (PySem.Obj.mk PySem.Value.none none (PySem.Data.func (FuncData.mk (Str.ofString "tallied") (Str.ofString "tallied") (fPar (at1 14)) (fBod (at1 14)) (fSco (at1 14)) 0 [] PySem.Value.none PySem.Value.none PySem.Value.none PySem.Value.none none PySem.Value.none PySem.Value.none 0)) (List.toArray [])) ::
  (hd.ob P 89) ::
  (hd.ob P 90) ::
  (hd.ob P 91) ::
  (PySem.Obj.mk PySem.Value.none none (PySem.Data.fields (List.toArray [])) (List.toArray [])) ::
  (PySem.Obj.mk PySem.Value.none none (PySem.Data.func (FuncData.mk (Str.ofString "replaced_in") (Str.ofString "replaced_in") (fPar (at1 15)) (fBod (at1 15)) (fSco (at1 15)) 0 [] PySem.Value.none PySem.Value.none PySem.Value.none PySem.Value.none none PySem.Value.none PySem.Value.none 0)) (List.toArray [])) ::
  (hd.ob P 92) ::
  (hd.ob P 93) ::
  (hd.ob P 94) ::
  (PySem.Obj.mk PySem.Value.none none (PySem.Data.fields (List.toArray [])) (List.toArray [])) ::
  (hd.ob P 95) ::
  (hd.ob P 96) ::
  (PySem.Obj.mk PySem.Value.none none (PySem.Data.func (FuncData.mk (Str.ofString "converted") (Str.ofString "converted") (fPar (at1 16)) (fBod (at1 16)) (fSco (at1 16)) 0 [] PySem.Value.none PySem.Value.none PySem.Value.none PySem.Value.none none PySem.Value.none PySem.Value.none 0)) (List.toArray [])) ::
  (hd.ob P 97) ::
  (hd.ob P 98) ::
  (hd.ob P 99) ::
  (PySem.Obj.mk PySem.Value.none none (PySem.Data.fields (List.toArray [])) (List.toArray [])) ::
  (PySem.Obj.mk PySem.Value.none none (PySem.Data.func (FuncData.mk (Str.ofString "_law_pen") (Str.ofString "_law_pen") (fPar (at1 18)) (fBod (at1 18)) (fSco (at1 18)) 0 [] PySem.Value.none PySem.Value.none PySem.Value.none PySem.Value.none none PySem.Value.none PySem.Value.none 0)) (List.toArray [])) ::
  (hd.ob P 100) ::
  (hd.ob P 101) ::
  (hd.ob P 102) ::
  (PySem.Obj.mk PySem.Value.none none (PySem.Data.fields (List.toArray [])) (List.toArray [])) ::
  (hd.ob P 103) ::
  (hd.ob P 104) ::
  (PySem.Obj.mk PySem.Value.none none (PySem.Data.func (FuncData.mk (Str.ofString "_law_draw") (Str.ofString "_law_draw") (fPar (at1 19)) (fBod (at1 19)) (fSco (at1 19)) 0 [] PySem.Value.none PySem.Value.none PySem.Value.none PySem.Value.none none PySem.Value.none PySem.Value.none 0)) (List.toArray [])) ::
  (hd.ob P 105) ::
  (hd.ob P 106) ::
  (hd.ob P 107) ::
  (PySem.Obj.mk PySem.Value.none none (PySem.Data.fields (List.toArray [])) (List.toArray [])) ::
  (hd.ob P 108) ::
  (hd.ob P 109) ::
  (PySem.Obj.mk PySem.Value.none none (PySem.Data.func (FuncData.mk (Str.ofString "_law_pick") (Str.ofString "_law_pick") (fPar (at1 20)) (fBod (at1 20)) (fSco (at1 20)) 0 [] PySem.Value.none PySem.Value.none PySem.Value.none PySem.Value.none none PySem.Value.none PySem.Value.none 0)) (List.toArray [])) ::
  (hd.ob P 110) ::
  (hd.ob P 111) ::
  (hd.ob P 112) ::
  (PySem.Obj.mk PySem.Value.none none (PySem.Data.fields (List.toArray [])) (List.toArray [])) ::
  (PySem.Obj.mk PySem.Value.none none (PySem.Data.func (FuncData.mk (Str.ofString "_law_text") (Str.ofString "_law_text") (fPar (at1 21)) (fBod (at1 21)) (fSco (at1 21)) 0 [] PySem.Value.none PySem.Value.none PySem.Value.none PySem.Value.none none PySem.Value.none PySem.Value.none 0)) (List.toArray [])) ::
  (hd.ob P 113) ::
  (hd.ob P 114) ::
  (hd.ob P 115) ::
  (PySem.Obj.mk PySem.Value.none none (PySem.Data.fields (List.toArray [])) (List.toArray [])) ::
  (hd.ob P 116) ::
  (hd.ob P 117) ::
  (PySem.Obj.mk PySem.Value.none none (PySem.Data.func (FuncData.mk (Str.ofString "_law_cases") (Str.ofString "_law_cases") (fPar (at1 22)) (fBod (at1 22)) (fSco (at1 22)) 0 [] PySem.Value.none PySem.Value.none PySem.Value.none PySem.Value.none none PySem.Value.none PySem.Value.none 0)) (List.toArray [])) ::
  (hd.ob P 118) ::
  (hd.ob P 119) ::
  (hd.ob P 120) ::
  (PySem.Obj.mk PySem.Value.none none (PySem.Data.fields (List.toArray [])) (List.toArray [])) ::
  (PySem.Obj.mk PySem.Value.none none (PySem.Data.func (FuncData.mk (Str.ofString "_law_due") (Str.ofString "_law_due") (fPar (at1 23)) (fBod (at1 23)) (fSco (at1 23)) 0 [] PySem.Value.none PySem.Value.none PySem.Value.none PySem.Value.none none PySem.Value.none PySem.Value.none 0)) (List.toArray [])) ::
  (hd.ob P 121) ::
  (hd.ob P 122) ::
  (hd.ob P 123) ::
  (PySem.Obj.mk PySem.Value.none none (PySem.Data.fields (List.toArray [])) (List.toArray [])) ::
  (hd.ob P 124) ::
  (hd.ob P 125) ::
  (PySem.Obj.mk PySem.Value.none none (PySem.Data.func (FuncData.mk (Str.ofString "_law_ends") (Str.ofString "_law_ends") (fPar (at1 24)) (fBod (at1 24)) (fSco (at1 24)) 0 [] PySem.Value.none PySem.Value.none PySem.Value.none PySem.Value.none none PySem.Value.none PySem.Value.none 0)) (List.toArray [])) ::
  (hd.ob P 126) ::
  (hd.ob P 127) ::
  (hd.ob P 128) ::
  (PySem.Obj.mk PySem.Value.none none (PySem.Data.fields (List.toArray [])) (List.toArray [])) ::
  (hd.ob P 129) ::
  (hd.ob P 130) ::
  (PySem.Obj.mk PySem.Value.none none (PySem.Data.func (FuncData.mk (Str.ofString "_law_refused") (Str.ofString "_law_refused") (fPar (at1 25)) (fBod (at1 25)) (fSco (at1 25)) 0 [] PySem.Value.none PySem.Value.none PySem.Value.none PySem.Value.none none PySem.Value.none PySem.Value.none 0)) (List.toArray [])) ::
  (hd.ob P 131) ::
  (hd.ob P 132) ::
  (hd.ob P 133) ::
  (PySem.Obj.mk PySem.Value.none none (PySem.Data.fields (List.toArray [])) (List.toArray [])) ::
  (PySem.Obj.mk PySem.Value.none none (PySem.Data.func (FuncData.mk (Str.ofString "_law_counts_right") (Str.ofString "_law_counts_right") (fPar (at1 26)) (fBod (at1 26)) (fSco (at1 26)) 0 [] PySem.Value.none PySem.Value.none PySem.Value.none PySem.Value.none none PySem.Value.none PySem.Value.none 0)) (List.toArray [])) ::
  (hd.ob P 134) ::
  (hd.ob P 135) ::
  (hd.ob P 136) ::
  (PySem.Obj.mk PySem.Value.none none (PySem.Data.fields (List.toArray [])) (List.toArray [])) ::
  (hd.ob P 137) ::
  (hd.ob P 138) ::
  (PySem.Obj.mk PySem.Value.none none (PySem.Data.func (FuncData.mk (Str.ofString "_law_back_right") (Str.ofString "_law_back_right") (fPar (at1 27)) (fBod (at1 27)) (fSco (at1 27)) 0 [] PySem.Value.none PySem.Value.none PySem.Value.none PySem.Value.none none PySem.Value.none PySem.Value.none 0)) (List.toArray [])) ::
  (hd.ob P 139) ::
  (hd.ob P 140) ::
  (hd.ob P 141) ::
  (PySem.Obj.mk PySem.Value.none none (PySem.Data.fields (List.toArray [])) (List.toArray [])) ::
  (PySem.Obj.mk PySem.Value.none none (PySem.Data.func (FuncData.mk (Str.ofString "law") (Str.ofString "law") (fPar (at1 28)) (fBod (at1 28)) (fSco (at1 28)) 0 [] PySem.Value.none PySem.Value.none PySem.Value.none PySem.Value.none none PySem.Value.none PySem.Value.none 0)) (List.toArray [])) ::
  (hd.ob P 142) ::
  (hd.ob P 143) ::
  []), (PySem.Life.mk [] [] [] 0 [] [] Bool.false (List.toArray []) [] 0 Bool.false Bool.false Bool.false (0 : Int) [(2000 : Int), (10 : Int), (10 : Int)] Bool.false 0 Bool.true [] [] 0 Bool.false)⟩
/-- the top's run, from the heap that the library's boot leaves (boot_open) -/
theorem top_run : ∀ (w : World) (os : OsState), topRun treeTable thePr w 11 (some (Value.ref 6)) 1535 ⟨boot_heap w.params, Array.mk [], boot_drawn, boot_toks, os⟩ (topStub thePr) = some ⟨hd.h1 w.params, Array.mk [], {}, 507, os⟩ := fun w os => by
  rw [PySem.W.Fast.te14082659384304107361, PySem.W.Fast.te14364793385576792824] -- the library's twins of topRun and treeTable
  kernel_rfl
theorem top_bound : ∀ (w : World) (os : OsState), (staticsOk (importedModules thePr.main.body) (boot_heap w.params) (hd.h1 w.params) && namesBound thePr (hd.h1 w.params) && gensDone ⟨hd.h1 w.params, Array.mk [], {}, 507, os⟩ && laidKept (boot_heap w.params) (hd.h1 w.params)) = true := fun w os => by kernel_rfl
theorem top_seen : ∀ (w : World) (os : OsState), openSeen hd.view_39 [Str.ofString "LedgerError"] (importedModules thePr.main.body) hd.xt true ⟨hd.h1 w.params, Array.mk [], {}, 507, os⟩ = openGood hd.view_39 [Str.ofString "LedgerError"] := fun w os => by
  rw [PySem.W.Fast.te4187177175401517315] -- the library's twin of openSeen
  kernel_rfl
theorem top_hook : ∀ (w : World) (os : OsState), Hook.obs hd.hook ⟨hd.h1 w.params, Array.mk [], {}, 507, os⟩ = Hook.val hd.hook w := fun w os => by kernel_rfl
theorem top_looks : ∀ w : World, (fun os => ((staticsOk (importedModules thePr.main.body) (boot_heap w.params) (hd.h1 w.params) && namesBound thePr (hd.h1 w.params) && gensDone ⟨hd.h1 w.params, Array.mk [], {}, 507, os⟩ && laidKept (boot_heap w.params) (hd.h1 w.params)),
    openSeen hd.view_39 [Str.ofString "LedgerError"] (importedModules thePr.main.body) hd.xt true ⟨hd.h1 w.params, Array.mk [], {}, 507, os⟩, Hook.obs hd.hook ⟨hd.h1 w.params, Array.mk [], {}, 507, os⟩)) = fun _ => (true, openGood hd.view_39 [Str.ofString "LedgerError"], Hook.val hd.hook w) := fun w => funext fun os => by rw [top_bound w os, top_seen w os, top_hook w os]
theorem top_opening : opening thePr = plainProg thePr.main.scope.names := by kernel_rfl
theorem top_fences : ∀ s, fenceModules? thePr s = some s := fun s => by kernel_rfl
theorem top_size : ∀ w : World, ((boot_heap w.params).isNs mainGlobals && (Array.mk [] : Array GenState).size == 0, (boot_heap w.params).objs.size, (boot_heap w.params).nsMap mainGlobals "__annotations__") = (true, 11, some (Value.ref 6)) := fun w => by kernel_rfl
theorem hleft : LeftO PySem.Challenge.rw_og0078_01.row.toRowW.prog hd.view_39 [Str.ofString "LedgerError"] hd.xt (Hook.obs hd.hook) (Hook.val hd.hook) 3156 :=
  LeftO.of_pieces (p := thePr) (boot_open top_opening (by decide) top_fences) top_size top_run (by decide) top_looks


/-- the walk of the top is over: its own lines are put off -/
theorem top_off : True := by
  w_top off
  trivial
/-! What the law's row must say of its own text, look by look: each look is a small kernel check of its own (as one check it takes 3 GB). The library's twins of the slow looks stand ahead. -/
theorem road_of {p : Program} {a : Bool} {l : List Str} (h1 : (importedModules p.main.body).all cThrough.contains = a) (h2 : (["vars", "dir", "locals"] : List Str).filter (readsOut p p.main.body) = l) (h3 : noRoadLSs { strict := !a, foot := none, bare := l } p.main.body = true) :
    noRoadLSs { strict := !(importedModules p.main.body).all cThrough.contains, foot := none, bare := (["vars", "dir", "locals"] : List Str).filter (readsOut p p.main.body) } p.main.body = true := by
  rw [h1, h2]
  exact h3
theorem said_text : looksOpen PySem.Challenge.rw_og0078_01.row.prog = true := by
  unfold looksOpen
  with_reducible repeat' apply look_both
  all_goals first
    | (with_reducible refine road_of (a := true) (l := []) ?_ ?_ ?_
       · decide +kernel
       · rw [PySem.W.Fast.te13343964577679436407] -- the library's twin of readsOut
         decide +kernel
       · rw [PySem.W.Fast.te8326940854005059898] -- noRoadLSs
         decide +kernel)
    | (rw [PySem.W.Fast.te8377067652309620493]; decide +kernel) -- namesResolve
    | (rw [PySem.W.Fast.te17119622794617984870, PySem.W.Fast.te17868728402115742887]; decide +kernel) -- namesMeet, attrL
    | decide +kernel
theorem said_row : PySem.Challenge.rw_og0078_01.row.wellSaid = true := by
  unfold OpenRow.wellSaid OpenRow.partSaid
  with_reducible repeat' apply look_both
  all_goals first
    | (with_reducible exact said_text)
    | decide +kernel
theorem said_law : PySem.Challenge.rw_og0078_01.wellSaid = true := by
  unfold OpenLaw.wellSaid
  with_reducible repeat' apply look_both
  all_goals first
    | (with_reducible exact said_row)
    | (rw [PySem.W.Fast.te8326940854005059898]; decide +kernel)
    | (rw [PySem.W.Fast.te17119622794617984870]; decide +kernel)
    | (rw [PySem.W.Fast.te8179353310426384613]; decide +kernel) -- noClassBlock
    | (rw [PySem.W.Fast.te16286561074155671207]; decide +kernel) -- namesIt
    | (rw [PySem.W.Fast.te10501279942588096481]; decide +kernel) -- footLine
    | (rw [PySem.W.Fast.named_eq]; decide +kernel)
    | decide +kernel
theorem said_chains : (chainsOk hd.view_39 && opensWell PySem.Challenge.rw_og0078_01.row.prog && (frees PySem.Challenge.rw_og0078_01.row.toRowW && PySem.Challenge.rw_og0078_01.row.within.isEmpty)) = true := by
  with_reducible repeat' apply look_both
  all_goals decide +kernel


def Stop (P : Prop) : Prop := P
theorem Stop.of {P : Prop} (h : Stop P) : P := h
theorem Stop.go {P : Prop} (h : P) : Stop P := h

def Ct (w : World) (f : Addr) (vs : List Value) (d u : Nat) (news : List (Addr × Obj)) (Post : Value → List (Addr × Obj) → Prop) : Prop :=
  ∀ (loose : List Str) (mean : ExcName → Option Value) (mg mb : Str → Option Value) (dp un : Nat) (gd : Option (List Code)) (cn : Str) (cs : Scope) (a : Addr) (ccd : Value) (cl : List (Str × Addr)) (outer : List Env) (A₀ : Around) (base h₀ : Heap) (L : Addr) (m : Str → Option Value) (s : Shared) (Q E : Value → Shared → Prop),
    Below A₀ base outer h₀ → Fr h₀ L s.heap m → (Mine.hd.heap_39 w.params).In h₀ → News h₀ L s.heap news → Top Mine.hd.view_39 loose mean mg mb h₀ → cs.kind = .function → dp + d < recursionLimit → un + u < cLine →
    (∀ r news' h' tk', Fr h₀ L h' m → News h₀ L h' news' → Post r news' → Q r { s with heap := h', toks := tk' }) →
    wpAny (model PySem.Challenge.rw_og0078_01.row.prog w) (ktrTop dp un gd cn cs L a ccd cl outer) (call (.ref f) vs) Q E s
theorem Ct.use {w : World} {f : Addr} {vs : List Value} {d u : Nat} {news : List (Addr × Obj)} {Post : Value → List (Addr × Obj) → Prop} (C : Ct w f vs d u news Post)
    {loose : List Str} {mean : ExcName → Option Value} {mg mb : Str → Option Value} {dp un : Nat} {gd : Option (List Code)} {cn : Str} {cs : Scope} {a : Addr} {ccd : Value} {cl : List (Str × Addr)} {outer : List Env} {A₀ : Around} {base h₀ : Heap} {L : Addr} {m : Str → Option Value} {s : Shared} {Q E : Value → Shared → Prop}
    (B : Below A₀ base outer h₀) (F : Fr h₀ L s.heap m) (X : (Mine.hd.heap_39 w.params).In h₀) (N : News h₀ L s.heap news) (T : Top Mine.hd.view_39 loose mean mg mb h₀) (hk : cs.kind = .function) (hd : dp + d < recursionLimit) (hu : un + u < cLine)
    (ret : ∀ r news' h' tk', Fr h₀ L h' m → News h₀ L h' news' → Post r news' → Q r { s with heap := h', toks := tk' }) :
    wpAny (model PySem.Challenge.rw_og0078_01.row.prog w) (ktrTop dp un gd cn cs L a ccd cl outer) (call (.ref f) vs) Q E s :=
  C _ _ _ _ _ _ _ _ _ _ _ _ _ _ _ _ _ _ _ _ _ B F X N T hk hd hu ret
/-- a call that leaves the ledger as it was -/
abbrev Pure (news : List (Addr × Obj)) (P : Value → Prop) : Value → List (Addr × Obj) → Prop := fun r news' => news = news' ∧ P r
theorem lt_all {d : Nat} {l : List (Addr × Obj)} (h : AllLt d l) : ∀ p ∈ l, p.1 < d := by
  induction l with
  | nil => intro p hp; cases hp
  | cons q r ih =>
    intro p hp
    rcases List.mem_cons.mp hp with e | hp
    · rw [e]; exact h.1
    · exact ih h.2 p hp
theorem ints_push {vs : Array Value} {ns : List Int} {n : Int} {t : Tok} (h : IntsAre vs.toList ns) : IntsAre (vs.push (.int n t)).toList (ns ++ [n]) := by
  rw [Array.toList_push]
  generalize vs.toList = l at h
  induction h with
  | nil => exact .cons n t .nil
  | cons a u _ ih => exact .cons a u ih
theorem ints_push_take {vs : Array Value} {ns : List Int} {n k : Int} {t : Tok} {i : Nat} (h : IntsAre vs.toList (ns.take i)) (hk : ns[i]? = some k) (e : n = k) : IntsAre (vs.push (.int n t)).toList (ns.take (i + 1)) := by
  subst e
  rw [List.take_add_one, hk]
  exact ints_push h
theorem ints_size {vs : Array Value} {ns : List Int} (h : IntsAre vs.toList ns) : vs.size = ns.length := by
  have := h.length
  simpa using this
/-- a frame's map, told at two names alone -/
theorem norm2 {x y : Str} {m m' : Str → Option Value} (h : ∀ z, z ≠ x → z ≠ y → m' z = m z) : ∃ va vo, m' = fun z => if z = x then vo else if z = y then va else m z := by
  refine ⟨m' y, m' x, ?_⟩
  funext z
  by_cases h1 : z = x
  · simp [h1]
  · by_cases h2 : z = y
    · rw [if_neg h1, if_pos h2, h2]
    · rw [if_neg h1, if_neg h2]; exact h z h1 h2
theorem norm1 {x : Str} {m m' : Str → Option Value} (h : ∀ z, z ≠ x → m' z = m z) : ∃ vo, m' = fun z => if z = x then vo else m z := by
  refine ⟨m' x, ?_⟩
  funext z
  by_cases h1 : z = x
  · simp [h1]
  · simp [h1, h z h1]
theorem norm4 {a b c d : Str} {m m' : Str → Option Value} {v : Value} (hv : m' a = some v) (h : ∀ z, z ≠ a → z ≠ b → z ≠ c → z ≠ d → m' z = m z) :
    ∃ vb vc vd, m' = fun z => if z = a then some v else if z = b then vb else if z = c then vc else if z = d then vd else m z := by
  refine ⟨m' b, m' c, m' d, ?_⟩
  funext z
  by_cases h1 : z = a
  · rw [if_pos h1, h1, hv]
  · rw [if_neg h1]
    by_cases h2 : z = b
    · rw [if_pos h2, h2]
    · rw [if_neg h2]
      by_cases h3 : z = c
      · rw [if_pos h3, h3]
      · rw [if_neg h3]
        by_cases h4 : z = d
        · rw [if_pos h4, h4]
        · rw [if_neg h4]; exact h z h1 h2 h3 h4
theorem norm3 {a b c : Str} {m m' : Str → Option Value} {v : Value} (hv : m' a = some v) (h : ∀ z, z ≠ a → z ≠ b → z ≠ c → m' z = m z) :
    ∃ vb vc, m' = fun z => if z = a then some v else if z = b then vb else if z = c then vc else m z := by
  refine ⟨m' b, m' c, ?_⟩
  funext z
  by_cases h1 : z = a
  · rw [if_pos h1, h1, hv]
  · rw [if_neg h1]
    by_cases h2 : z = b
    · rw [if_pos h2, h2]
    · rw [if_neg h2]
      by_cases h3 : z = c
      · rw [if_pos h3, h3]
      · rw [if_neg h3]; exact h z h1 h2 h3


section
variable {prog : Program} {w : World} {M : Model} {A : Around} {env : Env} {E : Value → Shared → Prop} {hp : Heap} {g : Array GenState} {d : Drawn} {tk : Nat} {o : OsState} {Q : Value → Shared → Prop} {a b : Int} {t u : Tok}
theorem flat_store {h₀ : Heap} {L ad : Addr} {m : Str → Option Value} {cn : Str} {cs : Scope} {ccd v : Value} {cl : List (Str × Addr)} {x : Str} {Q : Unit → Shared → Prop} {news : List (Addr × Obj)} (F : Fr h₀ L hp m) (N : News h₀ L hp news)
    (h : ∀ h' k', Fr h₀ L h' (fun y => if y = x then some v else m y) → News h₀ L h' news → Q () ⟨h', g, d, k', o⟩) (hk : cs.kind = .function) (hx : (envX cn cs L ad ccd cl).kindOf x = some .local) : wpAny M A (storeName (envX cn cs L ad ccd cl) x v) Q E ⟨hp, g, d, tk, o⟩ := storeX_L F N (fun h' F' N' => h h' _ F' N') hk hx
/-- rules whose states are written flat: the proof's terms stay small -/
theorem flat_int {i : Int} {k pos} (h : Q (.int i tk) ⟨hp, g, d, tk + 1, o⟩) : wpAny M A (eval (.Constant (.int i) k pos) env) Q E ⟨hp, g, d, tk, o⟩ := wpAny_Constant_int h
theorem flat_add (h : Q (.int (a + b) tk) ⟨hp, g, d, tk + 1, o⟩) : wpAny (model prog w) A (binaryOp .Add (.int a t) (.int b u)) Q E ⟨hp, g, d, tk, o⟩ := add_int h
theorem flat_sub (h : Q (.int (a - b) tk) ⟨hp, g, d, tk + 1, o⟩) : wpAny (model prog w) A (binaryOp .Sub (.int a t) (.int b u)) Q E ⟨hp, g, d, tk, o⟩ := sub_int h
end
theorem bI_inj {b c : Array UInt8} (h : KBw.bInts b = KBw.bInts c) : b = c := by
  have h2 : b.toList = c.toList := by
    unfold KBw.bInts at h
    refine (List.map_inj_right (f := fun c : UInt8 => (c.toNat : Int)) ?_).mp h
    intro x y e
    have : x.toNat = y.toNat := by exact_mod_cast e
    exact UInt8.toNat_inj.mp this
  exact Array.toList_inj.mp h2
theorem bI_beq {b c : Array UInt8} {kb kc : List Int} (hb : KBw.bInts b = kb) (hc : KBw.bInts c = kc) : (b.toList == c.toList) = decide (kb = kc) := by
  subst hb hc
  by_cases h : b = c
  · subst h; simp
  · have h1 : ¬ b.toList = c.toList := fun e => h (Array.toList_inj.mp e)
    have h2 : ¬ KBw.bInts b = KBw.bInts c := fun e => h (bI_inj e)
    rw [decide_eq_false h2, beq_eq_false_iff_ne]; exact h1
theorem clip_nat {n : Nat} {i : Int} (h : 0 ≤ i) : clipAt n i = min i.toNat n := by
  obtain ⟨k, rfl⟩ := Int.eq_ofNat_of_zero_le h
  exact clipAt_nat n k
theorem take_one {ko : List Int} {c : Int} (i : Int) (h0 : 0 ≤ i) : decide ((ko.drop (clipAt ko.length i)).take (clipAt ko.length (i + 1) - clipAt ko.length i) = [c]) = decide (ko[i.toNat]? = some c) := by
  rw [clip_nat h0, clip_nat (by omega)]
  congr 1
  rw [eq_iff_iff]
  cases h : ko[i.toNat]? with
  | none =>
    have : ko.length ≤ i.toNat := by simpa using h
    rw [Nat.min_eq_right this, List.drop_length]; simp
  | some d =>
    obtain ⟨hi, he⟩ := List.getElem?_eq_some_iff.mp h
    rw [Nat.min_eq_left (by omega), Nat.min_eq_left (by omega), show (i+1).toNat - i.toNat = 1 by omega, List.drop_eq_getElem_cons hi]; simp [he]



theorem lies_at_ct (w : World) (o x : Array UInt8) (ko : List Int) (c : Int) (i : Int) (t1 t2 t3 : Tok) (news : List (Addr × Obj)) (ho : KBw.bInts o = ko) (hx : KBw.bInts x = [c]) (hz : ko.length ≤ 1000) (h0 : 0 ≤ i) (h1 : i ≤ 1000) :
    Ct w 69 [.bytes o t1, .bytes x t2, .int i t3] 1 8 news (Pure news fun r => r = .bool (decide (ko[i.toNat]? = some c))) := by
  unfold Ct
  k_fill
  intro loose mean mg mb dp un gd cn cs a ccd cl outer A₀ base h₀ L m s Q E B F X N T hk hd hu hret
  refine wpAny_call ?_
  k_dflt (refine' code_def (binds := [(Str.ofString "octets", .bytes o t1), (Str.ofString "wanted", .bytes x t2), (Str.ofString "at", .int i t3)]) ?k1 ?k2 ?k3 ?k4 ?k5 ?kA ?kF ?kK ?k6 ?k7 ?k8 ?k9 ?kB ?_ ?c2 ?c3 ?c4 ?c5; (case kA => exact rfl); (case kF => exact rfl); (case kK => assumption); (case k1 => k_asm); (case k2 => k_asm); (case k3 => k_asm); (case k4 => k_asm); (case k5 => k_asm); (case k6 => k_is); (case k7 => k_is); (case k8 => ktr_room); (case k9 => exact BindsTo.of_eq rfl); (case c5 => decide); (case kB => exact locs rfl); (case c2 => exact rfl); (case c3 => exact rfl); (case c4 => exact rfl); k_whole)
  intro g' L' h' FG' F' N' B' X' T'
  dsimp only
  (try k_fold)
  (repeat' (first | (k_unfold; (try dsimp only)) | (k_end; kc_close) | (with_reducible first | ((show wpAny _ _ (eval (Expr.Constant (Const.int _) _ _) _) _ _ _); refine flat_int ?_) | ((show wpAny _ _ (binaryOp Operator.Add (Value.int _ _) (Value.int _ _)) _ _ _); refine flat_add ?_) | ((show wpAny _ _ (binaryOp Operator.Sub (Value.int _ _) (Value.int _ _)) _ _ _); refine flat_sub ?_) | ((show wpAny _ _ (eval (Expr.BinOp _ _ _ _) _) _ _ _); k_fold; k_dflt walk1) | ((show wpAny _ _ (eval (Expr.Compare _ _ _ _) _) _ _ _); k_fold; k_dflt walk1)) | walk1 | (dsimp only; walk1) | (leave1; walk_say "STEP leave1"; try dsimp only) | fail "no step"))
  refine hret _ _ _ _ (by k_asm) (by k_asm) ⟨rfl, ?_⟩
  rw [bI_beq (by assumption) hx]; exact congrArg Value.bool (take_one i h0)


section
open PySem.Spec
variable {prog : Program} {w : World} {A : Around} {E : Value → Shared → Prop} {s : Shared} {env : Env} {h₀ : Heap} {x : Str} {body : List Stmt} {Q : Flow → Shared → Prop}
/-- what a turn of a loop has to leave -/
def TurnEnd (h₀ : Heap) (L I : Addr) (own : List (Addr × Obj)) (J : (Str → Option Value) → List (Addr × Obj) → Prop) (s₁ : Shared) (Q : Flow → Shared → Prop) (f : Flow) (s₂ : Shared) : Prop :=
  match f with
  | .ret v => Q (.ret v) s₂
  | .brk => Q .next s₂
  | _ => ∃ h' tk m' news', s₂ = { s₁ with heap := h', toks := tk } ∧ Fr h₀ L h' m' ∧ News h₀ L h' (news' ++ own) ∧ (∀ p ∈ news', p.1 ≠ I) ∧ J m' news'
theorem TurnEnd.next {L I : Addr} {own news' : List (Addr × Obj)} {J : (Str → Option Value) → List (Addr × Obj) → Prop} {s₁ : Shared} {h' : Heap} {tk : Nat} {m' : Str → Option Value} (F : Fr h₀ L h' m') (N : News h₀ L h' (news' ++ own)) (off : ∀ p ∈ news', p.1 ≠ I) (hj : J m' news') :
    TurnEnd h₀ L I own J s₁ Q .next { s₁ with heap := h', toks := tk } := ⟨h', tk, m', news', rfl, F, N, off, hj⟩
theorem TurnEnd.cont {L I : Addr} {own news' : List (Addr × Obj)} {J : (Str → Option Value) → List (Addr × Obj) → Prop} {s₁ : Shared} {h' : Heap} {tk : Nat} {m' : Str → Option Value} (F : Fr h₀ L h' m') (N : News h₀ L h' (news' ++ own)) (off : ∀ p ∈ news', p.1 ≠ I) (hj : J m' news') :
    TurnEnd h₀ L I own J s₁ Q .cont { s₁ with heap := h', toks := tk } := ⟨h', tk, m', news', rfl, F, N, off, hj⟩
theorem TurnEnd.ret {L I : Addr} {own : List (Addr × Obj)} {J : (Str → Option Value) → List (Addr × Obj) → Prop} {s₁ s₂ : Shared} {v : Value} (h : Q (.ret v) s₂) :
    TurnEnd h₀ L I own J s₁ Q (.ret v) s₂ := h
theorem news_swap {L : Addr} {h : Heap} {a b : List (Addr × Obj)} (N : News h₀ L h (a ++ b)) : News h₀ L h (b ++ a) := fun p hp => N p ((List.mem_append.mp hp).elim (fun h => List.mem_append.mpr (.inr h)) fun h => List.mem_append.mpr (.inl h))
theorem own_off {I : Addr} {own news : List (Addr × Obj)} (hoff : ∀ p ∈ news, p.1 ≠ I) (hsub : ∀ p ∈ own, p.1 ∈ [I]) : OwnOff own (news.map (·.1)) := by
  intro p hp b hb e
  obtain ⟨q, hq, rfl⟩ := List.mem_map.mp hb
  exact hoff q hq (e ▸ List.mem_singleton.mp (hsub p hp))
theorem iter_J {I : Addr} {fp : List Addr} {n : Nat} {P : Nat → Value → Prop} {St : Nat → Heap → Prop} {m₀ : Str → Option Value} {news : List (Addr × Obj)} (J : Nat → (Str → Option Value) → List (Addr × Obj) → Prop)
    (W : Walks prog w A I fp [I] n P St) (hLf : env.locals ∉ fp) (hI : h₀.get? I = none) (hnI : ∀ p ∈ news, p.1 ≠ I) (hst : St 0 s.heap) (F : Fr h₀ env.locals s.heap m₀) (N : News h₀ env.locals s.heap news) (hj : J 0 m₀ news)
    (turn : ∀ i v m₁ news₁ h tk own, i < n → P i v → J i m₁ news₁ → (∀ p ∈ news₁, p.1 ≠ I) → St (i + 1) h → (∀ p ∈ own, p.1 ∈ fp) → (∀ b ∈ fp, h₀.get? b = none → ∀ o, h.get? b = some o → (b, o) ∈ own) → Fr h₀ env.locals h (fun y => if y = x then some v else m₁ y) → News h₀ env.locals h (news₁ ++ own) →
      wpAny (model prog w) A (execs body env) (TurnEnd h₀ env.locals I own (J (i + 1)) { s with heap := h, toks := tk } Q) E { s with heap := h, toks := tk })
    (done : ∀ m₁ news₁ h tk, J n m₁ news₁ → Fr h₀ env.locals h m₁ → News h₀ env.locals h news₁ → Q .next { s with heap := h, toks := tk }) :
    LoopAtV prog w A h₀ env x body Q E (.ref I) s := by
  refine ⟨I, fp, [I], n, P, St, m₀, news, J, rfl, W, hLf, ?_, ?_, hst, F, N, hj, ?_, ?_⟩
  · intro b hb; rw [List.mem_singleton.mp hb]; exact hI
  · intro p hp hb; exact hnI p hp (List.mem_singleton.mp hb)
  · rintro i v m₁ news₁ s₁ own ⟨hh', tk', rfl⟩ hin hP hJ hoff hsub _ hown hst' F₁ N₁
    refine wpAny_mono (turn i v m₁ news₁ hh' tk' own hin hP hJ (fun p hp e => hoff p hp (e ▸ List.mem_singleton_self _)) hst' hsub hown F₁ (news_swap N₁)) (fun f s₂ p => ?_) fun _ _ e => e
    have fin : (∃ h' tk m' news', s₂ = { s with heap := h', toks := tk } ∧ Fr h₀ env.locals h' m' ∧ News h₀ env.locals h' (news' ++ own) ∧ (∀ p ∈ news', p.1 ≠ I) ∧ J (i + 1) m' news') → LoopStepU h₀ env.locals [I] own (J (i + 1)) { s with heap := hh', toks := tk' } .next s₂ := by
      rintro ⟨h', tk, m', news', e, F', N', ho, hm⟩
      exact ⟨rfl, h', tk, m', news', e, F', news_swap N', fun p hp hb => ho p hp (List.mem_singleton.mp hb), hm⟩
    cases f with
    | ret v => exact .ret p
    | brk => exact .brk p
    | next => exact .next (fin p)
    | cont => exact .cont (fin p)
  · rintro h' tk m' news' F' N' _ hJ
    exact done m' news' h' tk hJ F' N'
theorem iter_range {r : Addr} {a₀ b₀ c₀ : Int} {t₀ u₀ v₀ : Tok} {m₀ : Str → Option Value} {news : List (Addr × Obj)} (n : Nat) (J : Nat → (Str → Option Value) → List (Addr × Obj) → Prop)
    (hh : A.handled = none) (hr : IsRange s.heap r a₀ b₀ c₀ t₀ u₀ v₀) (hsmall : Builtin.Range.small a₀ b₀ c₀ = true) (hn : Builtin.Range.rangeSize a₀ b₀ c₀ = (n : Int)) (F : Fr h₀ env.locals s.heap m₀) (N : News h₀ env.locals s.heap news) (hj : J 0 m₀ news)
    (turn : ∀ I i t m₁ news₁ h tk own, i < n → J i m₁ news₁ → (∀ p ∈ news₁, p.1 ≠ I) → (∃ o, (I, o) ∈ own ∧ o.cls = .type "range_iterator") → OwnOff own (news₁.map (·.1)) → Fr h₀ env.locals h (fun y => if y = x then some (.int (a₀ + i * c₀) t) else m₁ y) → News h₀ env.locals h (news₁ ++ own) →
      wpAny (model prog w) A (execs body env) (TurnEnd h₀ env.locals I own (J (i + 1)) { s with heap := h, toks := tk } Q) E { s with heap := h, toks := tk })
    (done : ∀ m₁ news₁ h tk, J n m₁ news₁ → Fr h₀ env.locals h m₁ → News h₀ env.locals h news₁ → Q .next { s with heap := h, toks := tk }) :
    wpAny (model prog w) A (pyIter (.ref r)) (fun it s₂ => LoopAtV prog w A h₀ env x body Q E it s₂) E s := by
  refine wpAny_pyIter_range hr hsmall ?_
  refine iter_J J (Walks.range hh s.heap.objs.size a₀ c₀ n) (fun hm => absurd F.ns.lt ((List.mem_singleton.mp hm) ▸ Nat.lt_irrefl _)) (next_is_new F) (fun p hp e => absurd (Heap.lt_size (N p hp).1) (e ▸ Nat.lt_irrefl _))
    (by show IsRangeIter _ _ _ _ _; rw [hn]; simpa using Heap.get?_push_size _ rfl) (F.push _) (fun p hp => ⟨Heap.get?_push_of_some _ (N p hp).1, (N p hp).2⟩) hj ?_ done
  rintro i v m₁ news₁ h tk own hi ⟨t, rfl⟩ hJ hoff hst hsub hown F₁ N₁
  exact turn _ i t m₁ news₁ h tk own hi hJ hoff ⟨_, hown _ (by simp) (next_is_new F) _ hst, rfl⟩ (own_off hoff hsub) F₁ N₁
theorem iter_bytes {b : Array UInt8} {tb : Tok} {ks : List Int} {m₀ : Str → Option Value} {news : List (Addr × Obj)} (J : Nat → (Str → Option Value) → List (Addr × Obj) → Prop)
    (hh : A.handled = none) (hb : KBw.bInts b = ks) (F : Fr h₀ env.locals s.heap m₀) (N : News h₀ env.locals s.heap news) (hj : J 0 m₀ news)
    (turn : ∀ I i k t m₁ news₁ h tk own, ks[i]? = some k → 0 ≤ k → k < 256 → J i m₁ news₁ → (∀ p ∈ news₁, p.1 ≠ I) → (∃ o, (I, o) ∈ own ∧ o.cls = .type "bytes_iterator") → OwnOff own (news₁.map (·.1)) → Fr h₀ env.locals h (fun y => if y = x then some (.int k t) else m₁ y) → News h₀ env.locals h (news₁ ++ own) →
      wpAny (model prog w) A (execs body env) (TurnEnd h₀ env.locals I own (J (i + 1)) { s with heap := h, toks := tk } Q) E { s with heap := h, toks := tk })
    (done : ∀ m₁ news₁ h tk, J ks.length m₁ news₁ → Fr h₀ env.locals h m₁ → News h₀ env.locals h news₁ → Q .next { s with heap := h, toks := tk }) :
    wpAny (model prog w) A (pyIter (.bytes b tb)) (fun it s₂ => LoopAtV prog w A h₀ env x body Q E it s₂) E s := by
  subst hb
  rw [KBw.ints_length] at done
  refine KBw.pyIter_bytes ?_
  refine iter_J J (KBw.walks hh s.heap.objs.size b tb) (fun hm => absurd F.ns.lt ((List.mem_singleton.mp hm) ▸ Nat.lt_irrefl _)) (next_is_new F) (fun p hp e => absurd (Heap.lt_size (N p hp).1) (e ▸ Nat.lt_irrefl _))
    ⟨_, Heap.get?_push_size _ rfl, rfl, rfl⟩ (F.push _) (fun p hp => ⟨Heap.get?_push_of_some _ (N p hp).1, (N p hp).2⟩) hj ?_ done
  rintro i v m₁ news₁ h tk own hi ⟨c, u, hc, rfl⟩ hJ hoff ⟨o, ho, hcl, hd⟩ hsub hown F₁ N₁
  have hin := KBw.ints_in (b := b) (k := (c.toNat : Int)) (List.mem_of_getElem? (KBw.ints_get hc))
  exact turn _ i _ u m₁ news₁ h tk own (KBw.ints_get hc) hin.1 hin.2 hJ hoff ⟨_, hown _ (by simp) (next_is_new F) _ ho, hcl⟩ (own_off hoff hsub) F₁ N₁
end
/-- the frame's names, newest first -/
noncomputable abbrev lk (l : List (Str × Value)) : Str → Option Value := fun y => l.lookup y
local macro_rules | `(tactic| walk_at "pyIter ref") => `(tactic| refine Stop.of ?_)
local macro_rules | `(tactic| walk_at "pyIter bytes") => `(tactic| refine Stop.of ?_)
local macro_rules | `(tactic| walk_at "exec For Name Call cons nil") => `(tactic| refine Stop.of ?_)
local macro_rules | `(tactic| walk_at "TurnEnd") => `(tactic| (refine TurnEnd.ret ?_))
local macro_rules | `(tactic| k_all) => `(tactic| assumption)
local macro_rules | `(tactic| k_room) => `(tactic| ktr_room)


noncomputable def firstI (ko : List Int) (c : Int) : Int := match ko.findIdx? (· == c) with | some i => (i : Int) | none => -1
theorem firstI_at {ko : List Int} {c : Int} {i : Nat} (h : ko[i]? = some c) (hn : ∀ j < i, ko[j]? ≠ some c) : firstI ko c = (i : Int) := by
  unfold firstI
  have : ko.findIdx? (· == c) = some i := by
    rw [List.findIdx?_eq_some_iff_getElem]
    obtain ⟨hi, e⟩ := List.getElem?_eq_some_iff.mp h
    refine ⟨hi, by simp [e], fun j hj => ?_⟩
    have := hn j hj
    rw [List.getElem?_eq_getElem (by omega)] at this
    simpa using this
  rw [this]
theorem firstI_none {ko : List Int} {c : Int} (hn : ∀ j < ko.length, ko[j]? ≠ some c) : firstI ko c = -1 := by
  unfold firstI
  have : ko.findIdx? (· == c) = none := by
    rw [List.findIdx?_eq_none_iff]
    intro x hx
    obtain ⟨j, hj, rfl⟩ := List.mem_iff_getElem.mp hx
    have := hn j hj
    rw [List.getElem?_eq_getElem hj] at this
    simpa using this
  rw [this]
theorem map_start (x : Str) (m : Str → Option Value) : ∃ v, m = fun y => if y = x then v else m y := ⟨m x, by funext y; by_cases h : y = x <;> simp [h]⟩
theorem map_over (x : Str) (m : Str → Option Value) (u v : Option Value) : ∃ v', (fun y => if y = x then u else (fun y => if y = x then v else m y) y) = fun y => if y = x then v' else m y := ⟨u, by funext y; by_cases h : y = x <;> simp [h]⟩
theorem range1_size (n : Nat) : Builtin.Range.rangeSize 0 (n : Int) 1 = (n : Int) := by
  simp [Builtin.Range.rangeSize]; omega
theorem first_at_ct (w : World) (o x : Array UInt8) (ko : List Int) (c : Int) (t1 t2 t3 : Tok) (news : List (Addr × Obj)) (ho : KBw.bInts o = ko) (hx : KBw.bInts x = [c]) (hz : ko.length ≤ 1000) :
    Ct w 76 [.bytes o t1, .bytes x t2, .int 0 t3] 2 16 news (Pure news fun r => ∃ t, r = .int (firstI ko c) t) := by
  unfold Ct
  k_fill
  intro loose mean mg mb dp un gd cn cs a ccd cl outer A₀ base h₀ L m s Q E B F X N T hk hd hu hret
  have hx' : ∃ kx, KBw.bInts x = kx ∧ kx.length = 1 := ⟨_, hx, rfl⟩
  obtain ⟨kx, hkx, hkl⟩ := hx'
  refine wpAny_call ?_
  k_dflt (refine' code_def (binds := [(Str.ofString "octets", .bytes o t1), (Str.ofString "wanted", .bytes x t2), (Str.ofString "begin", .int 0 t3)]) ?k1 ?k2 ?k3 ?k4 ?k5 ?kA ?kF ?kK ?k6 ?k7 ?k8 ?k9 ?kB ?_ ?c2 ?c3 ?c4 ?c5; (case kA => exact rfl); (case kF => exact rfl); (case kK => assumption); (case k1 => k_asm); (case k2 => k_asm); (case k3 => k_asm); (case k4 => k_asm); (case k5 => k_asm); (case k6 => k_is); (case k7 => k_is); (case k8 => ktr_room); (case k9 => exact BindsTo.of_eq rfl); (case c5 => decide); (case kB => exact locs rfl); (case c2 => exact rfl); (case c3 => exact rfl); (case c4 => exact rfl); k_whole)
  intro g' L' h' FG' F' N' B' X' T'
  dsimp only
  (try k_fold)
  (repeat' (first | (k_unfold; (try dsimp only)) | (k_end; kc_close) | (with_reducible first | (k_here; (show wpAny _ _ (call (Value.ref 69) _) _ _ _); (try k_fold); (k_dflt (refine' Ct.use (lies_at_ct _ _ _ _ _ _ _ _ _ _ (by assumption) (by assumption) (by omega) (by omega) (by omega)) ?k1 ?k2 ?k3 ?k4 ?k5 ?kK ?kd ?ku ?_; (case k1 => k_asm); (case k2 => k_asm); (case k3 => k_asm); (case k4 => k_asm); (case k5 => k_asm); (case kK => first | exact rfl | assumption); (case kd => ktr_room); (case ku => ktr_units))); (intro _ _ _ _ _ _ hp9; obtain ⟨he9, hr9⟩ := hp9; subst he9; subst hr9); (try dsimp only); (try k_fold)) | ((show wpAny _ _ (eval (Expr.Constant (Const.int _) _ _) _) _ _ _); refine flat_int ?_) | ((show wpAny _ _ (binaryOp Operator.Add (Value.int _ _) (Value.int _ _)) _ _ _); refine flat_add ?_) | ((show wpAny _ _ (binaryOp Operator.Sub (Value.int _ _) (Value.int _ _)) _ _ _); refine flat_sub ?_) | ((show wpAny _ _ (eval (Expr.BinOp _ _ _ _) _) _ _ _); k_fold; k_dflt walk1) | ((show wpAny _ _ (eval (Expr.Compare _ _ _ _) _) _ _ _); k_fold; k_dflt walk1)) | walk1 | (dsimp only; first | (with_reducible first | (k_here; (show wpAny _ _ (call (Value.ref 69) _) _ _ _); (try k_fold); (k_dflt (refine' Ct.use (lies_at_ct _ _ _ _ _ _ _ _ _ _ (by assumption) (by assumption) (by omega) (by omega) (by omega)) ?k1 ?k2 ?k3 ?k4 ?k5 ?kK ?kd ?ku ?_; (case k1 => k_asm); (case k2 => k_asm); (case k3 => k_asm); (case k4 => k_asm); (case k5 => k_asm); (case kK => first | exact rfl | assumption); (case kd => ktr_room); (case ku => ktr_units))); (intro _ _ _ _ _ _ hp9; obtain ⟨he9, hr9⟩ := hp9; subst he9; subst hr9); (try dsimp only); (try k_fold))) | walk1) | (leave1; walk_say "STEP leave1"; try dsimp only) | fail "no step"))
  all_goals try (exfalso; omega)
  refine Stop.go ?_
  (try k_fold)
  refine (For_invV g' rfl rfl ?_)
  (repeat' (first | (k_unfold; (try dsimp only)) | (k_end; kc_close) | (with_reducible first | (k_here; (show wpAny _ _ (call (Value.ref 69) _) _ _ _); (try k_fold); (k_dflt (refine' Ct.use (lies_at_ct _ _ _ _ _ _ _ _ _ _ (by assumption) (by assumption) (by omega) (by omega) (by omega)) ?k1 ?k2 ?k3 ?k4 ?k5 ?kK ?kd ?ku ?_; (case k1 => k_asm); (case k2 => k_asm); (case k3 => k_asm); (case k4 => k_asm); (case k5 => k_asm); (case kK => first | exact rfl | assumption); (case kd => ktr_room); (case ku => ktr_units))); (intro _ _ _ _ _ _ hp9; obtain ⟨he9, hr9⟩ := hp9; subst he9; subst hr9); (try dsimp only); (try k_fold)) | ((show wpAny _ _ (eval (Expr.Constant (Const.int _) _ _) _) _ _ _); refine flat_int ?_) | ((show wpAny _ _ (binaryOp Operator.Add (Value.int _ _) (Value.int _ _)) _ _ _); refine flat_add ?_) | ((show wpAny _ _ (binaryOp Operator.Sub (Value.int _ _) (Value.int _ _)) _ _ _); refine flat_sub ?_) | ((show wpAny _ _ (eval (Expr.BinOp _ _ _ _) _) _ _ _); k_fold; k_dflt walk1) | ((show wpAny _ _ (eval (Expr.Compare _ _ _ _) _) _ _ _); k_fold; k_dflt walk1)) | walk1 | (dsimp only; first | (with_reducible first | (k_here; (show wpAny _ _ (call (Value.ref 69) _) _ _ _); (try k_fold); (k_dflt (refine' Ct.use (lies_at_ct _ _ _ _ _ _ _ _ _ _ (by assumption) (by assumption) (by omega) (by omega) (by omega)) ?k1 ?k2 ?k3 ?k4 ?k5 ?kK ?kd ?ku ?_; (case k1 => k_asm); (case k2 => k_asm); (case k3 => k_asm); (case k4 => k_asm); (case k5 => k_asm); (case kK => first | exact rfl | assumption); (case kd => ktr_room); (case ku => ktr_units))); (intro _ _ _ _ _ _ hp9; obtain ⟨he9, hr9⟩ := hp9; subst he9; subst hr9); (try dsimp only); (try k_fold))) | walk1) | (leave1; walk_say "STEP leave1"; try dsimp only) | fail "no step"))
  let J9 : Nat → (Str → Option Value) → List (Addr × Obj) → Prop := (fun i m₁ news₁ => news₁ = news ∧ (∃ v, m₁ = fun y => if y = Str.ofString "at" then v else lk [(Str.ofString "begin", .int 0 t3), (Str.ofString "wanted", .bytes x t2), (Str.ofString "octets", .bytes o t1)] y) ∧ ∀ j < i, ko[j]? ≠ some c)
  refine Stop.go (iter_range ko.length J9
    rfl (by assumption) (small_one (by decide) (by decide) (by omega) (by omega)) (range1_size _) (by assumption) (by assumption) ⟨rfl, map_start _ _, fun _ h => absurd h (Nat.not_lt_zero _)⟩ ?_ ?_)
  · intro I i t m₁ news₁ h tk own hi hz1 hoff hown hsep F₁ N₁
    (try k_fold)
    obtain ⟨rfl, ⟨v, rfl⟩, hj⟩ := hz1
    (repeat' (first | (k_unfold; (try dsimp only)) | (k_end; kc_close) | (with_reducible first | (k_here; (show wpAny _ _ (call (Value.ref 69) _) _ _ _); (try k_fold); (k_dflt (refine' Ct.use (lies_at_ct _ _ _ _ _ _ _ _ _ _ (by assumption) (by assumption) (by omega) (by omega) (by omega)) ?k1 ?k2 ?k3 ?k4 ?k5 ?kK ?kd ?ku ?_; (case k1 => k_asm); (case k2 => k_asm); (case k3 => k_asm); (case k4 => k_asm); (case k5 => k_asm); (case kK => first | exact rfl | assumption); (case kd => ktr_room); (case ku => ktr_units))); (intro _ _ _ _ _ _ hp9; obtain ⟨he9, hr9⟩ := hp9; subst he9; subst hr9); (try dsimp only); (try k_fold)) | ((show wpAny _ _ (eval (Expr.Constant (Const.int _) _ _) _) _ _ _); refine flat_int ?_) | ((show wpAny _ _ (binaryOp Operator.Add (Value.int _ _) (Value.int _ _)) _ _ _); refine flat_add ?_) | ((show wpAny _ _ (binaryOp Operator.Sub (Value.int _ _) (Value.int _ _)) _ _ _); refine flat_sub ?_) | ((show wpAny _ _ (eval (Expr.BinOp _ _ _ _) _) _ _ _); k_fold; k_dflt walk1) | ((show wpAny _ _ (eval (Expr.Compare _ _ _ _) _) _ _ _); k_fold; k_dflt walk1)) | walk1 | (dsimp only; first | (with_reducible first | (k_here; (show wpAny _ _ (call (Value.ref 69) _) _ _ _); (try k_fold); (k_dflt (refine' Ct.use (lies_at_ct _ _ _ _ _ _ _ _ _ _ (by assumption) (by assumption) (by omega) (by omega) (by omega)) ?k1 ?k2 ?k3 ?k4 ?k5 ?kK ?kd ?ku ?_; (case k1 => k_asm); (case k2 => k_asm); (case k3 => k_asm); (case k4 => k_asm); (case k5 => k_asm); (case kK => first | exact rfl | assumption); (case kd => ktr_room); (case ku => ktr_units))); (intro _ _ _ _ _ _ hp9; obtain ⟨he9, hr9⟩ := hp9; subst he9; subst hr9); (try dsimp only); (try k_fold))) | walk1) | (leave1; walk_say "STEP leave1"; try dsimp only) | fail "no step"))
    · have hc : ko[(0 + (i : Int) * 1).toNat]? = some c := by assumption
      rw [show (0 + (i : Int) * 1).toNat = i by omega] at hc
      refine hret _ _ _ _ (by k_asm) (fun p hp => (show News h₀ L _ (news₁ ++ own) by k_asm) p (List.mem_append_left _ hp)) ⟨rfl, _, congrArg (Value.int · _) (by rw [firstI_at hc hj]; omega)⟩
    · have hc : ¬ ko[(0 + (i : Int) * 1).toNat]? = some c := by assumption
      rw [show (0 + (i : Int) * 1).toNat = i by omega] at hc
      refine TurnEnd.next (by k_asm) (by k_asm) hoff ⟨rfl, map_over _ _ _ _, fun j hj' => ?_⟩
      rcases Nat.lt_succ_iff_lt_or_eq.mp hj' with h1 | h1
      · exact hj j h1
      · exact h1 ▸ hc
  · intro m₁ news₁ h tk hz1 F₁ N₁
    (try k_fold)
    obtain ⟨rfl, ⟨v, rfl⟩, hj⟩ := hz1
    (repeat' (first | (k_unfold; (try dsimp only)) | (k_end; kc_close) | (with_reducible first | (k_here; (show wpAny _ _ (call (Value.ref 69) _) _ _ _); (try k_fold); (k_dflt (refine' Ct.use (lies_at_ct _ _ _ _ _ _ _ _ _ _ (by assumption) (by assumption) (by omega) (by omega) (by omega)) ?k1 ?k2 ?k3 ?k4 ?k5 ?kK ?kd ?ku ?_; (case k1 => k_asm); (case k2 => k_asm); (case k3 => k_asm); (case k4 => k_asm); (case k5 => k_asm); (case kK => first | exact rfl | assumption); (case kd => ktr_room); (case ku => ktr_units))); (intro _ _ _ _ _ _ hp9; obtain ⟨he9, hr9⟩ := hp9; subst he9; subst hr9); (try dsimp only); (try k_fold)) | ((show wpAny _ _ (eval (Expr.Constant (Const.int _) _ _) _) _ _ _); refine flat_int ?_) | ((show wpAny _ _ (binaryOp Operator.Add (Value.int _ _) (Value.int _ _)) _ _ _); refine flat_add ?_) | ((show wpAny _ _ (binaryOp Operator.Sub (Value.int _ _) (Value.int _ _)) _ _ _); refine flat_sub ?_) | ((show wpAny _ _ (eval (Expr.BinOp _ _ _ _) _) _ _ _); k_fold; k_dflt walk1) | ((show wpAny _ _ (eval (Expr.Compare _ _ _ _) _) _ _ _); k_fold; k_dflt walk1)) | walk1 | (dsimp only; first | (with_reducible first | (k_here; (show wpAny _ _ (call (Value.ref 69) _) _ _ _); (try k_fold); (k_dflt (refine' Ct.use (lies_at_ct _ _ _ _ _ _ _ _ _ _ (by assumption) (by assumption) (by omega) (by omega) (by omega)) ?k1 ?k2 ?k3 ?k4 ?k5 ?kK ?kd ?ku ?_; (case k1 => k_asm); (case k2 => k_asm); (case k3 => k_asm); (case k4 => k_asm); (case k5 => k_asm); (case kK => first | exact rfl | assumption); (case kd => ktr_room); (case ku => ktr_units))); (intro _ _ _ _ _ _ hp9; obtain ⟨he9, hr9⟩ := hp9; subst he9; subst hr9); (try dsimp only); (try k_fold))) | walk1) | (leave1; walk_say "STEP leave1"; try dsimp only) | fail "no step"))
    exact hret _ _ _ _ (by k_asm) (by k_asm) ⟨rfl, _, by rw [firstI_none hj]⟩



/-- before and after: nothing, or one octet -/
def OptB (v : Value) (c : Option Int) : Prop := match c with
  | none => v = .none
  | some c => ∃ b t, v = .bytes b t ∧ KBw.bInts b = [c]
noncomputable def beginOf (ko : List Int) (c : Option Int) : Int := match c with
  | none => 0
  | some c => if firstI ko c < 0 then (ko.length : Int) else firstI ko c + 1
noncomputable def endOf (ko : List Int) (c : Option Int) : Int := match c with
  | none => (ko.length : Int)
  | some c => if firstI ko c < 0 then (ko.length : Int) else firstI ko c
theorem begin_ct (w : World) (o : Array UInt8) (v : Value) (ko : List Int) (c : Option Int) (t1 : Tok) (news : List (Addr × Obj)) (ho : KBw.bInts o = ko) (hv : OptB v c) (hz : ko.length ≤ 1000) :
    Ct w 83 [.bytes o t1, v] 3 24 news (Pure news fun r => ∃ t, r = .int (beginOf ko c) t) := by
  cases c with
  | none =>
    obtain rfl : v = .none := hv
    unfold Ct
    k_fill
    intro loose mean mg mb dp un gd cn cs a ccd cl outer A₀ base h₀ L m s Q E B F X N T hk hd hu hret
    refine wpAny_call ?_
    k_dflt (refine' code_def (binds := [(Str.ofString "octets", .bytes o t1), (Str.ofString "after", .none)]) ?k1 ?k2 ?k3 ?k4 ?k5 ?kA ?kF ?kK ?k6 ?k7 ?k8 ?k9 ?kB ?_ ?c2 ?c3 ?c4 ?c5; (case kA => exact rfl); (case kF => exact rfl); (case kK => assumption); (case k1 => k_asm); (case k2 => k_asm); (case k3 => k_asm); (case k4 => k_asm); (case k5 => k_asm); (case k6 => k_is); (case k7 => k_is); (case k8 => ktr_room); (case k9 => exact BindsTo.of_eq rfl); (case c5 => decide); (case kB => exact locs rfl); (case c2 => exact rfl); (case c3 => exact rfl); (case c4 => exact rfl); k_whole)
    intro g' L' h' FG' F' N' B' X' T'
    dsimp only
    (try k_fold)
    (repeat' (first | (k_unfold; (try dsimp only)) | (k_end; kc_close) | (with_reducible first | (k_here; (show wpAny _ _ (call (Value.ref 76) _) _ _ _); (try k_fold); (k_dflt (refine' Ct.use (first_at_ct _ _ _ _ _ _ _ _ _ (by assumption) (by assumption) (by omega)) ?k1 ?k2 ?k3 ?k4 ?k5 ?kK ?kd ?ku ?_; (case k1 => k_asm); (case k2 => k_asm); (case k3 => k_asm); (case k4 => k_asm); (case k5 => k_asm); (case kK => first | exact rfl | assumption); (case kd => ktr_room); (case ku => ktr_units))); (intro _ _ _ _ _ _ hp9; obtain ⟨he9, _, hr9⟩ := hp9; subst he9; subst hr9); (try dsimp only); (try k_fold)) | ((show wpAny _ _ (eval (Expr.Constant (Const.int _) _ _) _) _ _ _); refine flat_int ?_) | ((show wpAny _ _ (binaryOp Operator.Add (Value.int _ _) (Value.int _ _)) _ _ _); refine flat_add ?_) | ((show wpAny _ _ (binaryOp Operator.Sub (Value.int _ _) (Value.int _ _)) _ _ _); refine flat_sub ?_) | ((show wpAny _ _ (eval (Expr.BinOp _ _ _ _) _) _ _ _); k_fold; k_dflt walk1) | ((show wpAny _ _ (eval (Expr.Compare _ _ _ _) _) _ _ _); k_fold; k_dflt walk1)) | walk1 | (dsimp only; first | (with_reducible first | (k_here; (show wpAny _ _ (call (Value.ref 76) _) _ _ _); (try k_fold); (k_dflt (refine' Ct.use (first_at_ct _ _ _ _ _ _ _ _ _ (by assumption) (by assumption) (by omega)) ?k1 ?k2 ?k3 ?k4 ?k5 ?kK ?kd ?ku ?_; (case k1 => k_asm); (case k2 => k_asm); (case k3 => k_asm); (case k4 => k_asm); (case k5 => k_asm); (case kK => first | exact rfl | assumption); (case kd => ktr_room); (case ku => ktr_units))); (intro _ _ _ _ _ _ hp9; obtain ⟨he9, _, hr9⟩ := hp9; subst he9; subst hr9); (try dsimp only); (try k_fold))) | walk1) | (leave1; walk_say "STEP leave1"; try dsimp only) | fail "no step"))
    exact hret _ _ _ _ (by k_asm) (by k_asm) ⟨rfl, _, rfl⟩
  | some c =>
    obtain ⟨x, t2, rfl, hx⟩ := hv
    unfold Ct
    k_fill
    intro loose mean mg mb dp un gd cn cs a ccd cl outer A₀ base h₀ L m s Q E B F X N T hk hd hu hret
    refine wpAny_call ?_
    k_dflt (refine' code_def (binds := [(Str.ofString "octets", .bytes o t1), (Str.ofString "after", .bytes x t2)]) ?k1 ?k2 ?k3 ?k4 ?k5 ?kA ?kF ?kK ?k6 ?k7 ?k8 ?k9 ?kB ?_ ?c2 ?c3 ?c4 ?c5; (case kA => exact rfl); (case kF => exact rfl); (case kK => assumption); (case k1 => k_asm); (case k2 => k_asm); (case k3 => k_asm); (case k4 => k_asm); (case k5 => k_asm); (case k6 => k_is); (case k7 => k_is); (case k8 => ktr_room); (case k9 => exact BindsTo.of_eq rfl); (case c5 => decide); (case kB => exact locs rfl); (case c2 => exact rfl); (case c3 => exact rfl); (case c4 => exact rfl); k_whole)
    intro g' L' h' FG' F' N' B' X' T'
    dsimp only
    (try k_fold)
    (repeat' (first | (k_unfold; (try dsimp only)) | (k_end; kc_close) | (with_reducible first | (k_here; (show wpAny _ _ (call (Value.ref 76) _) _ _ _); (try k_fold); (k_dflt (refine' Ct.use (first_at_ct _ _ _ _ _ _ _ _ _ (by assumption) (by assumption) (by omega)) ?k1 ?k2 ?k3 ?k4 ?k5 ?kK ?kd ?ku ?_; (case k1 => k_asm); (case k2 => k_asm); (case k3 => k_asm); (case k4 => k_asm); (case k5 => k_asm); (case kK => first | exact rfl | assumption); (case kd => ktr_room); (case ku => ktr_units))); (intro _ _ _ _ _ _ hp9; obtain ⟨he9, _, hr9⟩ := hp9; subst he9; subst hr9); (try dsimp only); (try k_fold)) | ((show wpAny _ _ (eval (Expr.Constant (Const.int _) _ _) _) _ _ _); refine flat_int ?_) | ((show wpAny _ _ (binaryOp Operator.Add (Value.int _ _) (Value.int _ _)) _ _ _); refine flat_add ?_) | ((show wpAny _ _ (binaryOp Operator.Sub (Value.int _ _) (Value.int _ _)) _ _ _); refine flat_sub ?_) | ((show wpAny _ _ (eval (Expr.BinOp _ _ _ _) _) _ _ _); k_fold; k_dflt walk1) | ((show wpAny _ _ (eval (Expr.Compare _ _ _ _) _) _ _ _); k_fold; k_dflt walk1)) | walk1 | (dsimp only; first | (with_reducible first | (k_here; (show wpAny _ _ (call (Value.ref 76) _) _ _ _); (try k_fold); (k_dflt (refine' Ct.use (first_at_ct _ _ _ _ _ _ _ _ _ (by assumption) (by assumption) (by omega)) ?k1 ?k2 ?k3 ?k4 ?k5 ?kK ?kd ?ku ?_; (case k1 => k_asm); (case k2 => k_asm); (case k3 => k_asm); (case k4 => k_asm); (case k5 => k_asm); (case kK => first | exact rfl | assumption); (case kd => ktr_room); (case ku => ktr_units))); (intro _ _ _ _ _ _ hp9; obtain ⟨he9, _, hr9⟩ := hp9; subst he9; subst hr9); (try dsimp only); (try k_fold))) | walk1) | (leave1; walk_say "STEP leave1"; try dsimp only) | fail "no step"))
    · exact hret _ _ _ _ (by k_asm) (by k_asm) ⟨rfl, _, congrArg (Value.int · _) (by simp only [beginOf]; rw [if_pos (by assumption)])⟩
    · exact hret _ _ _ _ (by k_asm) (by k_asm) ⟨rfl, _, congrArg (Value.int · _) (by simp only [beginOf]; rw [if_neg (by assumption)] <;> rfl)⟩
theorem end_ct (w : World) (o : Array UInt8) (v : Value) (ko : List Int) (c : Option Int) (t1 : Tok) (news : List (Addr × Obj)) (ho : KBw.bInts o = ko) (hv : OptB v c) (hz : ko.length ≤ 1000) :
    Ct w 90 [.bytes o t1, v] 3 24 news (Pure news fun r => ∃ t, r = .int (endOf ko c) t) := by
  cases c with
  | none =>
    obtain rfl : v = .none := hv
    unfold Ct
    k_fill
    intro loose mean mg mb dp un gd cn cs a ccd cl outer A₀ base h₀ L m s Q E B F X N T hk hd hu hret
    refine wpAny_call ?_
    k_dflt (refine' code_def (binds := [(Str.ofString "octets", .bytes o t1), (Str.ofString "before", .none)]) ?k1 ?k2 ?k3 ?k4 ?k5 ?kA ?kF ?kK ?k6 ?k7 ?k8 ?k9 ?kB ?_ ?c2 ?c3 ?c4 ?c5; (case kA => exact rfl); (case kF => exact rfl); (case kK => assumption); (case k1 => k_asm); (case k2 => k_asm); (case k3 => k_asm); (case k4 => k_asm); (case k5 => k_asm); (case k6 => k_is); (case k7 => k_is); (case k8 => ktr_room); (case k9 => exact BindsTo.of_eq rfl); (case c5 => decide); (case kB => exact locs rfl); (case c2 => exact rfl); (case c3 => exact rfl); (case c4 => exact rfl); k_whole)
    intro g' L' h' FG' F' N' B' X' T'
    dsimp only
    (try k_fold)
    (repeat' (first | (k_unfold; (try dsimp only)) | (k_end; kc_close) | (with_reducible first | (k_here; (show wpAny _ _ (call (Value.ref 76) _) _ _ _); (try k_fold); (k_dflt (refine' Ct.use (first_at_ct _ _ _ _ _ _ _ _ _ (by assumption) (by assumption) (by omega)) ?k1 ?k2 ?k3 ?k4 ?k5 ?kK ?kd ?ku ?_; (case k1 => k_asm); (case k2 => k_asm); (case k3 => k_asm); (case k4 => k_asm); (case k5 => k_asm); (case kK => first | exact rfl | assumption); (case kd => ktr_room); (case ku => ktr_units))); (intro _ _ _ _ _ _ hp9; obtain ⟨he9, _, hr9⟩ := hp9; subst he9; subst hr9); (try dsimp only); (try k_fold)) | ((show wpAny _ _ (eval (Expr.Constant (Const.int _) _ _) _) _ _ _); refine flat_int ?_) | ((show wpAny _ _ (binaryOp Operator.Add (Value.int _ _) (Value.int _ _)) _ _ _); refine flat_add ?_) | ((show wpAny _ _ (binaryOp Operator.Sub (Value.int _ _) (Value.int _ _)) _ _ _); refine flat_sub ?_) | ((show wpAny _ _ (eval (Expr.BinOp _ _ _ _) _) _ _ _); k_fold; k_dflt walk1) | ((show wpAny _ _ (eval (Expr.Compare _ _ _ _) _) _ _ _); k_fold; k_dflt walk1)) | walk1 | (dsimp only; first | (with_reducible first | (k_here; (show wpAny _ _ (call (Value.ref 76) _) _ _ _); (try k_fold); (k_dflt (refine' Ct.use (first_at_ct _ _ _ _ _ _ _ _ _ (by assumption) (by assumption) (by omega)) ?k1 ?k2 ?k3 ?k4 ?k5 ?kK ?kd ?ku ?_; (case k1 => k_asm); (case k2 => k_asm); (case k3 => k_asm); (case k4 => k_asm); (case k5 => k_asm); (case kK => first | exact rfl | assumption); (case kd => ktr_room); (case ku => ktr_units))); (intro _ _ _ _ _ _ hp9; obtain ⟨he9, _, hr9⟩ := hp9; subst he9; subst hr9); (try dsimp only); (try k_fold))) | walk1) | (leave1; walk_say "STEP leave1"; try dsimp only) | fail "no step"))
    exact hret _ _ _ _ (by k_asm) (by k_asm) ⟨rfl, _, rfl⟩
  | some c =>
    obtain ⟨x, t2, rfl, hx⟩ := hv
    unfold Ct
    k_fill
    intro loose mean mg mb dp un gd cn cs a ccd cl outer A₀ base h₀ L m s Q E B F X N T hk hd hu hret
    refine wpAny_call ?_
    k_dflt (refine' code_def (binds := [(Str.ofString "octets", .bytes o t1), (Str.ofString "before", .bytes x t2)]) ?k1 ?k2 ?k3 ?k4 ?k5 ?kA ?kF ?kK ?k6 ?k7 ?k8 ?k9 ?kB ?_ ?c2 ?c3 ?c4 ?c5; (case kA => exact rfl); (case kF => exact rfl); (case kK => assumption); (case k1 => k_asm); (case k2 => k_asm); (case k3 => k_asm); (case k4 => k_asm); (case k5 => k_asm); (case k6 => k_is); (case k7 => k_is); (case k8 => ktr_room); (case k9 => exact BindsTo.of_eq rfl); (case c5 => decide); (case kB => exact locs rfl); (case c2 => exact rfl); (case c3 => exact rfl); (case c4 => exact rfl); k_whole)
    intro g' L' h' FG' F' N' B' X' T'
    dsimp only
    (try k_fold)
    (repeat' (first | (k_unfold; (try dsimp only)) | (k_end; kc_close) | (with_reducible first | (k_here; (show wpAny _ _ (call (Value.ref 76) _) _ _ _); (try k_fold); (k_dflt (refine' Ct.use (first_at_ct _ _ _ _ _ _ _ _ _ (by assumption) (by assumption) (by omega)) ?k1 ?k2 ?k3 ?k4 ?k5 ?kK ?kd ?ku ?_; (case k1 => k_asm); (case k2 => k_asm); (case k3 => k_asm); (case k4 => k_asm); (case k5 => k_asm); (case kK => first | exact rfl | assumption); (case kd => ktr_room); (case ku => ktr_units))); (intro _ _ _ _ _ _ hp9; obtain ⟨he9, _, hr9⟩ := hp9; subst he9; subst hr9); (try dsimp only); (try k_fold)) | ((show wpAny _ _ (eval (Expr.Constant (Const.int _) _ _) _) _ _ _); refine flat_int ?_) | ((show wpAny _ _ (binaryOp Operator.Add (Value.int _ _) (Value.int _ _)) _ _ _); refine flat_add ?_) | ((show wpAny _ _ (binaryOp Operator.Sub (Value.int _ _) (Value.int _ _)) _ _ _); refine flat_sub ?_) | ((show wpAny _ _ (eval (Expr.BinOp _ _ _ _) _) _ _ _); k_fold; k_dflt walk1) | ((show wpAny _ _ (eval (Expr.Compare _ _ _ _) _) _ _ _); k_fold; k_dflt walk1)) | walk1 | (dsimp only; first | (with_reducible first | (k_here; (show wpAny _ _ (call (Value.ref 76) _) _ _ _); (try k_fold); (k_dflt (refine' Ct.use (first_at_ct _ _ _ _ _ _ _ _ _ (by assumption) (by assumption) (by omega)) ?k1 ?k2 ?k3 ?k4 ?k5 ?kK ?kd ?ku ?_; (case k1 => k_asm); (case k2 => k_asm); (case k3 => k_asm); (case k4 => k_asm); (case k5 => k_asm); (case kK => first | exact rfl | assumption); (case kd => ktr_room); (case ku => ktr_units))); (intro _ _ _ _ _ _ hp9; obtain ⟨he9, _, hr9⟩ := hp9; subst he9; subst hr9); (try dsimp only); (try k_fold))) | walk1) | (leave1; walk_say "STEP leave1"; try dsimp only) | fail "no step"))
    · exact hret _ _ _ _ (by k_asm) (by k_asm) ⟨rfl, _, congrArg (Value.int · _) (by simp only [endOf]; rw [if_pos (by assumption)])⟩
    · exact hret _ _ _ _ (by k_asm) (by k_asm) ⟨rfl, _, congrArg (Value.int · _) (by simp only [endOf]; rw [if_neg (by assumption)] <;> rfl)⟩
theorem OptB.none : OptB .none none := rfl
theorem OptB.some {b : Array UInt8} {t : Tok} {c : Int} (h : KBw.bInts b = [c]) : OptB (.bytes b t) (some c) := ⟨b, t, rfl, h⟩
theorem firstI_lo (ko : List Int) (c : Int) : -1 ≤ firstI ko c := by
  unfold firstI; split <;> omega
theorem firstI_hi (ko : List Int) (c : Int) : firstI ko c ≤ ko.length := by
  unfold firstI; split
  · rename_i i h
    have := (List.findIdx?_eq_some_iff_getElem.mp h).1
    omega
  · omega
theorem firstI_hi2 {ko : List Int} {c : Int} (h : ¬ firstI ko c < 0) : firstI ko c < ko.length := by
  unfold firstI at *; split at h
  · rename_i i h2
    have := (List.findIdx?_eq_some_iff_getElem.mp h2).1
    omega
  · omega
theorem beginOf_in (ko : List Int) (c : Option Int) : 0 ≤ beginOf ko c ∧ beginOf ko c ≤ ko.length := by
  unfold beginOf; split
  · omega
  · split
    · omega
    · have := firstI_hi2 (by assumption); omega
theorem endOf_in (ko : List Int) (c : Option Int) : 0 ≤ endOf ko c ∧ endOf ko c ≤ ko.length := by
  unfold endOf; split
  · omega
  · split
    · omega
    · have := firstI_hi2 (by assumption); omega


section
open PySem.Spec Builtin
open AutoSeq1 (wpAny_loadPart')
theorem meets_enumerate_newB (b : Array UInt8) (t : Tok) :
    Meets (Builtin.«enumerate.__new__» ⟨[.type "enumerate", .bytes b t], []⟩) (fun _ R s =>
      R (.ok (.ret (.ref (s.heap.push { cls := .type "bytes_iterator", data := .fields #[.bytes b t, .int 0 0] }).objs.size)))
        { s with heap := (s.heap.push { cls := .type "bytes_iterator", data := .fields #[.bytes b t, .int 0 0] }).push { cls := .type "enumerate", data := .fields #[.none, .bool false, .ref s.heap.objs.size, rawInt 0, .none, .none] } }) :=
  .of_wp fun prog w A R s h => by
    obtain ⟨hp, g, d, tk, os⟩ := s
    have hsub := sub_enumerate
    wp_walk
    refine wpAny_stack_any fun st => wpAny_pure ?_
    split
    · rename_i c _ _ _ _ _
      cases (c == Value.type "enumerate")
      · wp_walk using KBw.pyIter_bytes
        exact ⟨_, rfl, h⟩
      · wp_walk using KBw.pyIter_bytes
        exact ⟨_, rfl, h⟩
    · wp_walk using KBw.pyIter_bytes
      exact ⟨_, rfl, h⟩
variable {prog : Program} {w : World} {A : Around} {E : Value → Shared → Prop} {s : Shared} {b : Array UInt8} {t : Tok}
theorem call_enumerate_bytes {Q : Value → Shared → Prop}
    (h : ∀ h', IsEnum h' (s.heap.objs.size + 1) s.heap.objs.size 0 .none → KBw.IsBytesIter h' s.heap.objs.size b t 0 → h'.objs.size = s.heap.objs.size + 2 →
      (∀ b o, s.heap.get? b = some o → h'.get? b = some o) → Q (.ref (s.heap.objs.size + 1)) { s with heap := h' }) :
    wpAny (model prog w) A (call (.type "enumerate") [.bytes b t]) Q E s := by
  refine callType_new F.called_enumerate (by decide) (F.typeCall_enumerate_1 _) (F.newCall_enumerate_1 _) (fun obj => F.args_object_init_2 obj _) F.entry_enumerate_new
    (meets_enumerate_newB b t) ?_
  have hz : (s.heap.push { cls := .type "bytes_iterator", data := .fields #[.bytes b t, .int 0 0] }).objs.size = s.heap.objs.size + 1 := Heap.size_push ..
  show _ ∧ _
  rw [hz]
  have he : IsEnum ((s.heap.push { cls := .type "bytes_iterator", data := .fields #[.bytes b t, .int 0 0] }).push
      { cls := .type "enumerate", data := .fields #[.none, .bool false, .ref s.heap.objs.size, rawInt 0, .none, .none] }) (s.heap.objs.size + 1) s.heap.objs.size 0 .none := by
    have := Heap.get?_push_size (s.heap.push { cls := .type "bytes_iterator", data := .fields #[.bytes b t, .int 0 0] })
      (o := { cls := .type "enumerate", data := .fields #[.none, .bool false, .ref s.heap.objs.size, rawInt 0, .none, .none] }) rfl
    rw [hz] at this; exact this
  refine ⟨⟨_, he, rfl⟩, h _ he ⟨_, Heap.get?_push_of_some _ (Heap.get?_push_size _ rfl), rfl, rfl⟩ (by rw [Heap.size_push, hz]) fun b o y => Heap.get?_push_of_some _ (Heap.get?_push_of_some _ y)⟩
/-- the bytes' iterator, drawn from by enumerate -/
theorem nextOf_bytes_item {it : Addr} {i : Nat} {c : UInt8} {Q : Value → Shared → Prop} (hit : KBw.IsBytesIter s.heap it b t i) (hx : b[i]? = some c)
    (hQ : ∀ h', KBw.IsBytesIter h' it b t (i + 1) → Heap.SameBut it s.heap h' → Q (.int (c.toNat : Int) s.toks) { s with heap := h', toks := s.toks + 1 }) :
    wpAny (model prog w) A (Builtin.SmallTypes.nextOf (.ref it)) Q E s := by
  obtain ⟨o, ho, hc, hd⟩ := id hit
  unfold Builtin.SmallTypes.nextOf
  refine wpAny_bind (wpAny_callSpecial?_slot (name := PySem.Str.ofString "__next__") (KBw.iter_typeIs hit) KBw.slot_next
    (wpAny_call_entry KBw.slot_next (KBw.iter_typeIs hit) KBw.entry_next ?_ (KBw.args_next _)))
  show wpAny _ _ (field (.ref it) 0 >>= _) _ _ s
  refine wpAny_bind (wpAny_field ho hd (x := .bytes b t) rfl ?_)
  show wpAny _ _ (if (Value.bytes b t == Value.none) = true then _ else _) _ _ s
  rw [if_neg (show ¬ ((Value.bytes b t == Value.none) = true) from Bool.false_ne_true)]
  show wpAny _ _ (field (.ref it) 1 >>= _) _ _ s
  refine wpAny_bind (wpAny_field ho hd (x := .int i 0) rfl ?_)
  refine wpAny_bind (wpAny_of_eq (a := b) rfl ?_)
  simp only [Int.toNat_natCast, hx]
  refine wpAny_bind (wpAny_setField ho hd (by simp) (wpAny_bind (wpAny_mkInt (wpAny_pure ⟨_, rfl, wpAny_pure (hQ _ ?_ (Heap.SameBut.update ..))⟩))))
  exact ⟨_, Heap.get?_update_self _ ho (Obj.isFreed_of_fields (Obj.data_mapFields hd _)), (Obj.cls_mapFields ..).trans hc, by
    rw [Obj.data_mapFields hd]; simp [rawInt]⟩
theorem nextOf_bytes_end {it : Addr} {i : Nat} {Q : Value → Shared → Prop} (hh : A.handled = none) (hit : KBw.IsBytesIter s.heap it b t i) (hx : b[i]? = none)
    (hE : ∀ h' e, Heap.ExtBut it s.heap h' → (∃ o, h'.get? e = some o ∧ o.cls = .type "StopIteration") → E (.ref e) { s with heap := h' }) :
    wpAny (model prog w) A (Builtin.SmallTypes.nextOf (.ref it)) Q E s := by
  obtain ⟨o, ho, hc, hd⟩ := id hit
  unfold Builtin.SmallTypes.nextOf
  refine wpAny_bind (wpAny_callSpecial?_slot (name := PySem.Str.ofString "__next__") (KBw.iter_typeIs hit) KBw.slot_next
    (wpAny_call_entry KBw.slot_next (KBw.iter_typeIs hit) KBw.entry_next ?_ (KBw.args_next _)))
  show wpAny _ _ (field (.ref it) 0 >>= _) _ _ s
  refine wpAny_bind (wpAny_field ho hd (x := .bytes b t) rfl ?_)
  show wpAny _ _ (if (Value.bytes b t == Value.none) = true then _ else _) _ _ s
  rw [if_neg (show ¬ ((Value.bytes b t == Value.none) = true) from Bool.false_ne_true)]
  show wpAny _ _ (field (.ref it) 1 >>= _) _ _ s
  refine wpAny_bind (wpAny_field ho hd (x := .int i 0) rfl ?_)
  refine wpAny_bind (wpAny_of_eq (a := b) rfl ?_)
  simp only [Int.toNat_natCast, hx]
  refine wpAny_bind (wpAny_rule (wpAny_bind (wpAny_setField ho hd (by simp) ?_)))
  show wpAny _ _ (newExc (.type "StopIteration") [] >>= _) _ _ _
  refine wpAny_bind ?_
  simp only [newExc, newTuple]
  refine wpAny_bind (wpAny_newObj_type ?_ (by size_fits))
  refine wpAny_bind (m := firstArgMember _ _) (wpAny_of_eq (a := Value.none) (by first | rfl | (simp only [firstArgMember]; rfl)) ?_)
  refine wpAny_newObj_type ?_ (by size_fits)
  simp only [raiseNew]
  refine wpAny_bind (wpAny_handled ?_)
  first | rw [show A.in1.handled = none from hh] | rw [hh]
  refine wpAny_bind (wpAny_pure (wpAny_throw ?_))
  exact hE _ _ (((Heap.SameBut.update ..).extBut.push _).push _) ⟨_, Heap.get?_push_size _ rfl, rfl⟩
theorem drawsBytes {prog : Program} {w : World} {A : Around} (hh : A.handled = none) (it : Addr) (b : Array UInt8) (t : Tok) :
    Draws prog w A it [it] b.size (fun i v => ∃ c u, b[i]? = some c ∧ v = .int (c.toNat : Int) u) (fun i h => KBw.IsBytesIter h it b t i) where
  live := fun _ _ st => let ⟨o, ho, _⟩ := st; ⟨o, ho⟩
  frame := fun _ _ _ st hk => let ⟨o, ho, r⟩ := st; ⟨o, hk it (by simp) o ho, r⟩
  item := fun i s Q E hi st hQ => by
    refine nextOf_bytes_item st (c := b[i]) (by simp [hi]) fun h' hit' hs' => ?_
    exact hQ _ h' (s.toks + 1) ⟨_, _, by simp [hi], rfl⟩ hit' hs'
  done := fun s Q E st hE => nextOf_bytes_end hh st (by simp) hE
end
section
open PySem.Spec
variable {prog : Program} {w : World} {A : Around} {E : Value → Shared → Prop} {s : Shared} {env : Env} {h₀ : Heap} {xi xc : Str} {body : List Stmt} {Q : Flow → Shared → Prop}
/-- what a turn of a pair's loop has to leave: the ledger's addresses stay -/
def PairEnd (h₀ : Heap) (L : Addr) (adr : List Addr) (own : List (Addr × Obj)) (J : (Str → Option Value) → List (Addr × Obj) → Prop) (s₁ : Shared) (Q : Flow → Shared → Prop) (f : Flow) (s₂ : Shared) : Prop :=
  match f with
  | .ret v => Q (.ret v) s₂
  | .brk => Q .next s₂
  | _ => ∃ h' tk m' news', s₂ = { s₁ with heap := h', toks := tk } ∧ Fr h₀ L h' m' ∧ News h₀ L h' (news' ++ own) ∧ news'.map (·.1) = adr ∧ J m' news'
theorem PairEnd.next {L : Addr} {adr : List Addr} {own news' : List (Addr × Obj)} {J : (Str → Option Value) → List (Addr × Obj) → Prop} {s₁ : Shared} {h' : Heap} {tk : Nat} {m' : Str → Option Value} (F : Fr h₀ L h' m') (N : News h₀ L h' (news' ++ own)) (ha : news'.map (·.1) = adr) (hj : J m' news') :
    PairEnd h₀ L adr own J s₁ Q .next { s₁ with heap := h', toks := tk } := ⟨h', tk, m', news', rfl, F, N, ha, hj⟩
theorem PairEnd.ret {L : Addr} {adr : List Addr} {own : List (Addr × Obj)} {J : (Str → Option Value) → List (Addr × Obj) → Prop} {s₁ s₂ : Shared} {v : Value} (h : Q (.ret v) s₂) :
    PairEnd h₀ L adr own J s₁ Q (.ret v) s₂ := h
theorem pair_J {I : Addr} {fp wr : List Addr} {n : Nat} {Pt : Nat → Array Value → Prop} {St : Nat → Heap → Prop} {Mid : Nat → Addr → Heap → Prop} {P2 : Nat → Value → Value → Prop} {m₀ : Str → Option Value} {news : List (Addr × Obj)} (J : Nat → (Str → Option Value) → List (Addr × Obj) → Prop)
    (W : WalksT prog w A I fp wr n Pt St Mid) (h2 : ∀ i vals, Pt i vals → ∃ v0 v1, vals = #[v0, v1] ∧ P2 i v0 v1) (hLf : env.locals ∉ fp) (hwr : ∀ b ∈ wr, h₀.get? b = none) (hnw : ∀ p ∈ news, p.1 ∉ wr) (hst : St 0 s.heap) (F : Fr h₀ env.locals s.heap m₀) (N : News h₀ env.locals s.heap news) (hj : J 0 m₀ news)
    (turn : ∀ i v0 v1 m₁ news₁ h tk own, i < n → P2 i v0 v1 → J i m₁ news₁ → news₁.map (·.1) = news.map (·.1) → (∀ p ∈ own, p.1 ∈ fp) → Fr h₀ env.locals h (fun y => if y = xc then some v1 else if y = xi then some v0 else m₁ y) → News h₀ env.locals h (news₁ ++ own) →
      wpAny (model prog w) A (execs body env) (PairEnd h₀ env.locals (news.map (·.1)) own (J (i + 1)) { s with heap := h, toks := tk } Q) E { s with heap := h, toks := tk })
    (done : ∀ m₁ news₁ h tk, J n m₁ news₁ → news₁.map (·.1) = news.map (·.1) → Fr h₀ env.locals h m₁ → News h₀ env.locals h news₁ → Q .next { s with heap := h, toks := tk }) :
    PairAt3 prog w A h₀ env xi xc body Q E (.ref I) s := by
  refine ⟨I, fp, wr, n, Pt, St, Mid, P2, m₀, news, J, rfl, W, h2, hLf, hwr, hnw, hst, F, N, hj, ?_, ?_⟩
  · rintro i v0 v1 m₁ news₁ s₁ own ⟨hh', tk', rfl⟩ hin hP hJ hadr hown F₁ N₁
    refine wpAny_mono (turn i v0 v1 m₁ news₁ hh' tk' own hin hP hJ hadr hown F₁ (news_swap N₁)) (fun f s₂ p => ?_) fun _ _ e => e
    have fin : (∃ h' tk m' news', s₂ = { s with heap := h', toks := tk } ∧ Fr h₀ env.locals h' m' ∧ News h₀ env.locals h' (news' ++ own) ∧ news'.map (·.1) = news.map (·.1) ∧ J (i + 1) m' news') → LoopStep2 h₀ env.locals own news₁ (J (i + 1)) { s with heap := hh', toks := tk' } .next s₂ := by
      rintro ⟨h', tk, m', news', e, F', N', ha, hm⟩
      exact ⟨rfl, h', tk, m', news', e, F', news_swap N', ha.trans hadr.symm, hm⟩
    cases f with
    | ret v => exact p
    | brk => exact p
    | next => exact fin p
    | cont => exact fin p
  · rintro h' tk m' news' F' N' ha hJ
    exact done m' news' h' tk hJ ha F' N'
theorem pair_enum {it e : Addr} {fp : List Addr} {n : Nat} {P : Nat → Value → Prop} {St : Nat → Heap → Prop} {m₀ : Str → Option Value} {news : List (Addr × Obj)} (J : Nat → (Str → Option Value) → List (Addr × Obj) → Prop)
    (D : Draws prog w A.in1 it fp n P St) (he : IsEnum s.heap e it 0 .none) (hst : St 0 s.heap) (hei : e ≠ it) (hef : e ∉ fp) (hif : it ∈ fp) (hLf : env.locals ∉ e :: fp) (hne : h₀.get? e = none) (hni : h₀.get? it = none) (hnw : ∀ p ∈ news, p.1 ≠ e ∧ p.1 ≠ it)
    (F : Fr h₀ env.locals s.heap m₀) (N : News h₀ env.locals s.heap news) (hj : J 0 m₀ news)
    (turn : ∀ i v t m₁ news₁ h tk own, i < n → P i v → J i m₁ news₁ → news₁.map (·.1) = news.map (·.1) → (∀ p ∈ own, p.1 ∈ e :: fp) → Fr h₀ env.locals h (fun y => if y = xc then some v else if y = xi then some (.int i t) else m₁ y) → News h₀ env.locals h (news₁ ++ own) →
      wpAny (model prog w) A (execs body env) (PairEnd h₀ env.locals (news.map (·.1)) own (J (i + 1)) { s with heap := h, toks := tk } Q) E { s with heap := h, toks := tk })
    (done : ∀ m₁ news₁ h tk, J n m₁ news₁ → news₁.map (·.1) = news.map (·.1) → Fr h₀ env.locals h m₁ → News h₀ env.locals h news₁ → Q .next { s with heap := h, toks := tk }) :
    wpAny (model prog w) A (pyIter (.ref e)) (fun it s₂ => PairAt3 prog w A h₀ env xi xc body Q E it s₂) E s := by
  refine wpAny_pyIter_enum he ?_
  refine pair_J (P2 := fun i v0 v1 => ∃ t, v0 = .int i t ∧ P i v1) J (WalksT.enumerateD D e hei hef hif) ?_ hLf ?_ ?_ ⟨⟨_, by simpa using he⟩, hst⟩ F N hj ?_ done
  · rintro i vals ⟨t, x, hPx, rfl⟩
    exact ⟨_, _, rfl, t, rfl, hPx⟩
  · intro b hb
    rcases List.mem_cons.mp hb with rfl | hb
    · exact hne
    · rw [List.mem_singleton.mp hb]; exact hni
  · intro p hp hb
    rcases List.mem_cons.mp hb with e1 | hb
    · exact (hnw p hp).1 e1
    · exact (hnw p hp).2 (List.mem_singleton.mp hb)
  · rintro i v0 v1 m₁ news₁ h tk own hi ⟨t, rfl, hP⟩ hJ ha ho F₁ N₁
    exact turn i v1 t m₁ news₁ h tk own hi hP hJ ha ho F₁ N₁
/-- for at, octet in enumerate(octets) -/
theorem enum_bytes {b : Array UInt8} {t : Tok} {ks : List Int} {m₀ : Str → Option Value} {news : List (Addr × Obj)} (J : Nat → (Str → Option Value) → List (Addr × Obj) → Prop)
    (hh : A.handled = none) (hb : KBw.bInts b = ks) (F : Fr h₀ env.locals s.heap m₀) (N : News h₀ env.locals s.heap news) (hj : J 0 m₀ news)
    (turn : ∀ i k u t m₁ news₁ h tk own, ks[i]? = some k → 0 ≤ k → k < 256 → J i m₁ news₁ → news₁.map (·.1) = news.map (·.1) → OwnOff own (news.map (·.1)) → Fr h₀ env.locals h (fun y => if y = xc then some (.int k u) else if y = xi then some (.int i t) else m₁ y) → News h₀ env.locals h (news₁ ++ own) →
      wpAny (model prog w) A (execs body env) (PairEnd h₀ env.locals (news.map (·.1)) own (J (i + 1)) { s with heap := h, toks := tk } Q) E { s with heap := h, toks := tk })
    (done : ∀ m₁ news₁ h tk, J ks.length m₁ news₁ → news₁.map (·.1) = news.map (·.1) → Fr h₀ env.locals h m₁ → News h₀ env.locals h news₁ → Q .next { s with heap := h, toks := tk }) :
    wpAny (model prog w) A (call (.type "enumerate") [.bytes b t]) (fun xv s₁ => wpAny (model prog w) A (pyIter xv) (fun it s₂ => PairAt3 prog w A h₀ env xi xc body Q E it s₂) E s₁) E s := by
  subst hb
  rw [KBw.ints_length] at done
  refine call_enumerate_bytes fun h' he hit hsz hk => ?_
  have hLs : env.locals < s.heap.objs.size := F.ns.lt
  have hab : h₀.objs.size ≤ env.locals := F.above
  have hlt : ∀ p ∈ news, p.1 < s.heap.objs.size := fun p hp => Heap.lt_size (N p hp).1
  refine pair_enum J (drawsBytes (A := A.in1) hh s.heap.objs.size b t) he hit (Nat.succ_ne_self _) (fun hm => Nat.succ_ne_self _ (List.mem_singleton.mp hm)) (by simp) ?_
    (Heap.get?_none_of_le (Nat.le_trans hab (Nat.le_of_lt (Nat.lt_succ_of_lt hLs)))) (Heap.get?_none_of_le (Nat.le_trans hab (Nat.le_of_lt hLs)))
    (fun p hp => ⟨Nat.ne_of_lt (Nat.lt_succ_of_lt (hlt p hp)), Nat.ne_of_lt (hlt p hp)⟩) ⟨F.ns.keeps hk, fun b o e => hk b o (F.keep b o e), F.above⟩ (fun p hp => ⟨hk _ _ (N p hp).1, (N p hp).2⟩) hj ?_ done
  · intro hm
    rcases List.mem_cons.mp hm with e | hm
    · exact Nat.ne_of_lt (Nat.lt_succ_of_lt hLs) e
    · exact Nat.ne_of_lt hLs (List.mem_singleton.mp hm)
  · rintro i v t' m₁ news₁ h tk own hi ⟨c, u, hc, rfl⟩ hJ ha ho F₁ N₁
    have hin := KBw.ints_in (b := b) (k := (c.toNat : Int)) (List.mem_of_getElem? (KBw.ints_get hc))
    refine turn i _ u t' m₁ news₁ h tk own (KBw.ints_get hc) hin.1 hin.2 hJ ha (fun p hp b hb e => ?_) F₁ N₁
    obtain ⟨q, hq, rfl⟩ := List.mem_map.mp hb
    rcases List.mem_cons.mp (ho p hp) with e1 | e1
    · have : s.heap.objs.size + 1 = q.1 := e1.symm.trans e
      exact absurd (hlt q hq) (Nat.not_lt.mpr (this ▸ Nat.le_succ _))
    · have : s.heap.objs.size = q.1 := (List.mem_singleton.mp e1).symm.trans e
      exact absurd (hlt q hq) (Nat.not_lt.mpr (this ▸ Nat.le_refl _))
end
local macro_rules | `(tactic| walk_at "PairEnd") => `(tactic| (refine PairEnd.ret ?_))
local macro_rules | `(tactic| walk_at "call type:enumerate") => `(tactic| refine Stop.of ?_)

section
open Builtin PySem.Calls PySem.Spec
theorem slot_bytes_index : Slot "bytes" "index" "bytes.index" :=
  .of (owner := "bytes") (n := "index") (by rw [typeLookup_type, builtinLookup_eq_fast]; kernel_rfl) (by decide +kernel) (by decide +kernel) (by decide +kernel)
    (by first | exact .inl (by decide +kernel) | exact .inr (by decide +kernel)) (by rw [isSubtype_type]; kernel_rfl)
theorem type_bytes_index : typeOf (.builtin "bytes.index") = pure (.type "method_descriptor") := by show builtinType _ = _; rw [builtinType_eq_fast]; kernel_rfl
theorem entry_bytes_index : entryFor table "bytes.index" = some Builtin.«bytes.index» := entryFor_of_tree (by kernel_rfl)
theorem args_bytes_index_2 (a b : Value) : argsOk "bytes.index" ⟨[a, b], []⟩ := by unfold argsOk; kernel_rfl
theorem no_index_bytes : typeLookup (.type "bytes") "__index__" = pure none := by rw [typeLookup_type, builtinLookup_eq_fast]; kernel_rfl
theorem no_buffer_int : typeLookup (.type "int") "__buffer__" = pure none := by rw [typeLookup_type, builtinLookup_eq_fast]; kernel_rfl
theorem typeName_bytes : typeName (.type "bytes") = pure "bytes" := by unfold typeName; rw [find?_eq_fast]; kernel_rfl
variable {prog : Program} {w : World} {A : Around} {E : Value → Shared → Prop} {s : Shared} {b c : Array UInt8} {t u : Tok} {i : Int}
theorem cut_bytes {n : Nat} {Q : String → Shared → Prop} (h : Q "bytes" s) : wpAny (model prog w) A (typeNameOfCut n (.bytes b t)) Q E s := by
  unfold typeNameOfCut shownTypeOf
  refine wpAny_bind (wpAny_bind (wpAny_typeOf (typeIs_bytes _ b t) ?_))
  simp only [show (Value.type "bytes" == Value.type "builtin_function_or_method") = false by decide, Bool.false_eq_true, if_false]
  refine wpAny_pure ?_
  rw [show typeNameCut n (.type "bytes") = typeName (.type "bytes") from rfl, typeName_bytes]
  exact wpAny_pure h
theorem contains_int {Q : Bool → Shared → Prop} (h0 : 0 ≤ i) (h1 : i < 256) (h : Q (b.contains i.toNat.toUInt8) s) : wpAny (model prog w) A (Bytes.containsIn "bytes.__contains__" (.bytes b t) (.int i u)) Q E s := by
  unfold Bytes.containsIn asIndex
  refine wpAny_bind (wpAny_attempt (wpAny_bind (wpAny_of_eq (a := some i) rfl (wpAny_pure ?_))))
  refine wpAny_bind (wpAny_of_eq KBy.buffer_eq ?_)
  dsimp only
  rw [if_neg (by simp; omega)]
  exact wpAny_pure h
theorem in_int_bytes {ks : List Int} {Q : Value → Shared → Prop} (hk : KBw.bInts b = ks) (h0 : 0 ≤ i) (h1 : i < 256) (h : Q (.bool (decide (i ∈ ks))) s) : wpAny (model prog w) A (compareOp .In (.int i u) (.bytes b t)) Q E s := by
  have e : b.contains i.toNat.toUInt8 = decide (i ∈ ks) := by
    subst hk
    rw [Bool.eq_iff_iff, decide_eq_true_eq, Array.contains_iff_mem]
    unfold KBw.bInts
    rw [List.mem_map]
    constructor
    · intro hm
      refine ⟨_, Array.mem_toList_iff.mpr hm, ?_⟩
      exact byte_back h0 h1
    · rintro ⟨a, ha, rfl⟩
      simpa using ha
  rw [← e] at h
  refine In_slot (typeIs_bytes s b t) FB.slot_bytes_contains (wpAny_call_entry FB.slot_bytes_contains (typeIs_bytes s b t) FB.entry_bytes_contains ?_ (FB.args_bytes_contains_2 _ _))
  show wpAny _ _ (Bytes.containsIn "bytes.__contains__" (.bytes b t) (.int i u) >>= fun r => ret (.bool r)) _ _ s
  exact wpAny_bind (contains_int h0 h1 (wpAny_pure ⟨_, rfl, wpAny_truthy_bool h⟩))
theorem single_of {c : Array UInt8} {k : Int} (hc : KBw.bInts c = [k]) : ∃ x : UInt8, c = #[x] ∧ (x.toNat : Int) = k := by
  obtain ⟨l⟩ := c
  unfold KBw.bInts at hc
  cases l with
  | nil => cases hc
  | cons x r =>
    cases r with
    | nil => exact ⟨x, rfl, by simpa using hc⟩
    | cons y r => simp at hc
theorem before_idxOf : ∀ (l : List Int) (k : Int) (j : Nat), j < l.idxOf k → ¬ l[j]? = some k
  | [], _, j, h => by simp at h
  | a :: r, k, j, h => by
    rw [List.idxOf_cons] at h
    cases hb : (a == k) with
    | true => rw [hb] at h; simp at h
    | false =>
      rw [hb] at h
      simp only [cond_false] at h
      cases j with
      | zero => simp at hb; simpa using hb
      | succ j => simpa using before_idxOf r k j (by omega)
theorem find_one {b c : Array UInt8} {ks : List Int} {k : Int} (hk : KBw.bInts b = ks) (hc : KBw.bInts c = [k]) : Bytes.find? b c 0 b.size = if k ∈ ks then some (ks.idxOf k) else none := by
  obtain ⟨x, rfl, hx⟩ := single_of hc
  unfold Bytes.find?
  have hl : ks.length = b.size := by rw [← hk]; exact KBw.ints_length b
  have hat : ∀ i, i < b.size → ((b.extract i (i + (#[x] : Array UInt8).size) == #[x]) = decide (ks[i]? = some k)) := by
    intro i hi
    have e1 : b.extract i (i + (#[x] : Array UInt8).size) = #[b[i]] := by
      apply Array.ext
      · simp; omega
      · intro j h1 h2
        simp at h2
        subst h2
        simp
    have e2 : ks[i]? = some ((b[i].toNat : Nat) : Int) := by rw [← hk]; exact KBw.ints_get (by simp [hi])
    rw [e1, e2, ← hx]
    rw [Bool.eq_iff_iff, beq_iff_eq, decide_eq_true_eq]
    constructor
    · intro h
      have : b[i] = x := by simpa using h
      rw [this]
    · intro h
      have h2 : b[i].toNat = x.toNat := by have := Option.some.inj h; exact_mod_cast this
      rw [UInt8.toNat_inj.mp h2]
  simp only [Nat.zero_add, Nat.add_zero, List.map_id']
  show List.find? _ (List.range (b.size + 1 - 1)) = _
  rw [Nat.add_sub_cancel]
  by_cases hm : k ∈ ks
  · rw [if_pos hm, List.find?_range_eq_some]
    have hlt : ks.idxOf k < ks.length := List.idxOf_lt_length_of_mem hm
    refine ⟨?_, List.mem_range.mpr (hl ▸ hlt), ?_⟩
    · have := hat (ks.idxOf k) (hl ▸ hlt)
      simp only [List.size_toArray, List.length_cons, List.length_nil] at this ⊢
      rw [this, decide_eq_true_eq]
      rw [List.getElem?_eq_getElem hlt, List.getElem_idxOf hlt]
    · intro j hj
      have hj2 : j < b.size := by omega
      have := hat j hj2
      simp only [List.size_toArray, List.length_cons, List.length_nil] at this ⊢
      rw [this, Bool.not_eq_true', decide_eq_false_iff_not]
      exact before_idxOf ks k j hj
  · rw [if_neg hm, List.find?_eq_none]
    intro j hj
    have hj2 : j < b.size := List.mem_range.mp hj
    have := hat j hj2
    simp only [List.size_toArray, List.length_cons, List.length_nil] at this ⊢
    rw [this, decide_eq_true_eq]
    intro h
    exact hm (List.mem_of_getElem? h)
theorem buffer_int {id : String} : Bytes.buffer? id (.int i u) = pure none := by
  unfold Bytes.buffer?
  rw [show specialOf (.int i u) "__buffer__" = typeLookup (.type "int") "__buffer__" from rfl, no_buffer_int]
  rfl
theorem contains_bytes {Q : Bool → Shared → Prop} (hh : A.handled = none) (h : ∀ h' tk, (∀ b o, s.heap.get? b = some o → h'.get? b = some o) → Q (Bytes.find? b c 0 b.size).isSome { s with heap := h', toks := tk }) : wpAny (model prog w) A (Bytes.containsIn "bytes.__contains__" (.bytes b t) (.bytes c u)) Q E s := by
  unfold Bytes.containsIn asIndex
  refine wpAny_bind (wpAny_attempt (wpAny_bind (wpAny_of_eq (a := none) rfl ?_)))
  refine wpAny_bind (wpAny_callSpecial?_none (name := PySem.Str.ofString "__index__") (typeIs_bytes s c u) no_index_bytes ?_)
  dsimp only
  refine wpAny_bind (cut_bytes ?_)
  refine wpAny_raiseErrorWords plainExc_TypeError hh fun h' tk e he => ?_
  refine wpAny_bind (wpAny_of_eq KBy.buffer_eq ?_)
  dsimp only
  refine wpAny_bind (wpAny_of_eq KBy.buffer_eq ?_)
  dsimp only
  exact wpAny_bind (wpAny_rule (wpAny_pure (h _ _ he.1)))
theorem in_bytes_bytes {h₀ : Heap} {L : Addr} {m : Str → Option Value} {news : List (Addr × Obj)} {ks : List Int} {k : Int} {Q : Value → Shared → Prop} (hh : A.handled = none) (F : Fr h₀ L s.heap m) (N : News h₀ L s.heap news) (hk : KBw.bInts b = ks) (hc : KBw.bInts c = [k])
    (h : ∀ h' tk, Fr h₀ L h' m → News h₀ L h' news → Q (.bool (decide (k ∈ ks))) { s with heap := h', toks := tk }) : wpAny (model prog w) A (compareOp .In (.bytes c u) (.bytes b t)) Q E s := by
  have e : (Bytes.find? b c 0 b.size).isSome = decide (k ∈ ks) := by
    rw [find_one hk hc]
    by_cases hm : k ∈ ks
    · rw [if_pos hm, decide_eq_true hm]; rfl
    · rw [if_neg hm, decide_eq_false hm]; rfl
  refine In_slot (typeIs_bytes s b t) FB.slot_bytes_contains (wpAny_call_entry FB.slot_bytes_contains (typeIs_bytes s b t) FB.entry_bytes_contains ?_ (FB.args_bytes_contains_2 _ _))
  show wpAny _ _ (Bytes.containsIn "bytes.__contains__" (.bytes b t) (.bytes c u) >>= fun r => ret (.bool r)) _ _ s
  refine wpAny_bind (contains_bytes hh fun h' tk keep => wpAny_pure ⟨_, rfl, wpAny_truthy_bool ?_⟩)
  rw [e]
  exact h h' tk ⟨F.ns.keeps keep, fun b o q => keep b o (F.keep b o q), F.above⟩ fun p hp => ⟨keep _ _ (N p hp).1, (N p hp).2⟩
theorem index_bytes {ks : List Int} {Q : Value → Shared → Prop} (hk : KBw.bInts b = ks) (h0 : 0 ≤ i) (h1 : i < 256) (hm : i ∈ ks) (h : ∀ t' tk, ks.idxOf i < ks.length → Q (.int (ks.idxOf i : Nat) t') { s with toks := tk }) :
    wpAny (model prog w) A (call (.builtin "bytes.index") [.bytes b t, .int i u]) Q E s := by
  refine call_gives (m := .int (ks.idxOf i : Nat)) slot_bytes_index (typeIs_bytes _ _ _) entry_bytes_index (args_bytes_index_2 _ _) ?_ (h _ _ (List.idxOf_lt_length_of_mem hm))
  have hc : KBw.bInts #[i.toNat.toUInt8] = [i] := congrArg (· :: []) (byte_back h0 h1)
  have hf := find_one hk hc
  rw [if_pos hm] at hf
  have hpos : 0 < b.size := by
    rw [← KBw.ints_length b, hk]; exact List.length_pos_of_mem hm
  refine .of_wp fun M A E s Q hq => ?_
  unfold Builtin.«bytes.index» Bytes.searchM Bytes.searchArgs
  refine wpAny_bind (wpAny_bind (wpAny_of_eq (a := (Value.bytes b t, [Value.int i u])) rfl ?_))
  refine wpAny_bind (wpAny_of_eq (a := none) rfl ?_)
  refine wpAny_bind (wpAny_of_eq (a := none) rfl ?_)
  simp only [List.headD_cons, buffer_int, pure_bind]
  refine wpAny_bind (wpAny_specialOf (T := "int") (typeIs_int _ _ _) F.slot_int_index.lookup ?_)
  rw [if_neg (by simp)]
  refine wpAny_bind (wpAny_of_eq (a := i) rfl ?_)
  rw [if_neg (by simp; omega)]
  refine wpAny_bind (wpAny_of_eq (a := b) rfl (wpAny_pure ?_))
  have hw : Bytes.window b.size none none = (0, (b.size : Int)) := by simp [Bytes.window]; omega
  rw [hw]
  dsimp only
  rw [if_neg (by simp; omega)]
  show wpAny M A (match Bytes.find? b #[i.toNat.toUInt8] 0 b.size with | some i => retInt ↑i | none => _) _ E s
  rw [hf]
  exact wpAny_bind (wpAny_mkInt (wpAny_pure ⟨_, rfl, hq⟩))
theorem getm_index {M : Model} {pl : Sem Bool} {Q : Value × List Value → Shared → Prop} (h : Q (.builtin "bytes.index", [.bytes b t]) s) : wpAny M A (getMethod (.bytes b t) "index" pl) Q E s := by
  with_reducible exact KBd.method_of (.bytes b t) (typeIs_bytes _ _ _) slot_bytes_index type_bytes_index KBd.noRef h
end



/-- what converting makes of one octet -/
noncomputable def conv1 (kw kg : List Int) (k : Int) : Int := if k ∈ kw then kg.getD (kw.idxOf k) 0 else k
noncomputable def convI (ko kw kg : List Int) (b e : Int) : List Int := ko.mapIdx fun i k => if b ≤ (i : Int) ∧ (i : Int) < e then conv1 kw kg k else k
theorem convI_get {ko kw kg : List Int} {b e k : Int} {i : Nat} (h : ko[i]? = some k) : (convI ko kw kg b e)[i]? = some (if b ≤ (i : Int) ∧ (i : Int) < e then conv1 kw kg k else k) := by
  simp [convI, h]
theorem convI_length {ko kw kg : List Int} {b e : Int} : (convI ko kw kg b e).length = ko.length := by simp [convI]
theorem conv1_in {g : Array UInt8} {kw kg : List Int} {k : Int} (hg : KBw.bInts g = kg) (hk : 0 ≤ k ∧ k < 256) : 0 ≤ conv1 kw kg k ∧ conv1 kw kg k < 256 := by
  unfold conv1
  split
  · exact KBw.getD_in fun k hk => KBw.ints_in (hg ▸ hk)
  · exact hk
theorem convI_in {o g : Array UInt8} {ko kw kg : List Int} {b e : Int} (ho : KBw.bInts o = ko) (hg : KBw.bInts g = kg) : ∀ k ∈ convI ko kw kg b e, 0 ≤ k ∧ k < 256 := by
  intro k hk
  unfold convI at hk
  obtain ⟨i, hi, rfl⟩ := List.mem_mapIdx.mp hk
  have h1 : 0 ≤ ko[i] ∧ ko[i] < 256 := KBw.ints_in (b := o) (by rw [ho]; exact List.getElem_mem hi)
  split
  · exact conv1_in hg h1
  · exact h1
theorem converted_ct (w : World) (o x g : Array UInt8) (v1 v2 : Value) (ko kw kg : List Int) (cb ca : Option Int) (t1 t2 t3 : Tok) (news : List (Addr × Obj)) (ho : KBw.bInts o = ko) (hx : KBw.bInts x = kw) (hg : KBw.bInts g = kg)
    (hv1 : OptB v1 cb) (hv2 : OptB v2 ca) (hz : ko.length ≤ 1000) (hzw : kw.length ≤ 1000) (hlen : kw.length = kg.length) :
    Ct w 170 [.bytes o t1, .bytes x t2, .bytes g t3, v1, v2] 4 32 news (Pure news fun r => ∃ b t, r = .bytes b t ∧ KBw.bInts b = convI ko kw kg (beginOf ko ca) (endOf ko cb)) := by
  unfold Ct
  k_fill
  intro loose mean mg mb dp un gd cn cs a ccd cl outer A₀ base h₀ L m s Q E B F X N T hk hd hu hret
  refine wpAny_call ?_
  k_dflt (refine' code_def (binds := [(Str.ofString "octets", .bytes o t1), (Str.ofString "wanted", .bytes x t2), (Str.ofString "given", .bytes g t3), (Str.ofString "before", v1), (Str.ofString "after", v2)]) ?k1 ?k2 ?k3 ?k4 ?k5 ?kA ?kF ?kK ?k6 ?k7 ?k8 ?k9 ?kB ?_ ?c2 ?c3 ?c4 ?c5; (case kA => exact rfl); (case kF => exact rfl); (case kK => assumption); (case k1 => k_asm); (case k2 => k_asm); (case k3 => k_asm); (case k4 => k_asm); (case k5 => k_asm); (case k6 => k_is); (case k7 => k_is); (case k8 => ktr_room); (case k9 => exact BindsTo.of_eq rfl); (case c5 => decide); (case kB => exact locs rfl); (case c2 => exact rfl); (case c3 => exact rfl); (case c4 => exact rfl); k_whole)
  intro g' L' h' FG' F' N' B' X' T'
  dsimp only
  (try k_fold)
  (repeat' (first | (k_unfold; (try dsimp only)) | (k_end; kc_close) | (with_reducible first | (k_here; (show wpAny _ _ (call (Value.ref 83) _) _ _ _); (try k_fold); (k_dflt (refine' Ct.use (begin_ct _ _ _ _ _ _ _ (by assumption) (by assumption) (by omega)) ?k1 ?k2 ?k3 ?k4 ?k5 ?kK ?kd ?ku ?_; (case k1 => k_asm); (case k2 => k_asm); (case k3 => k_asm); (case k4 => k_asm); (case k5 => k_asm); (case kK => first | exact rfl | assumption); (case kd => ktr_room); (case ku => ktr_units))); (intro _ _ _ _ _ _ hp9; obtain ⟨he9, _, hr9⟩ := hp9; subst he9; subst hr9); (try dsimp only); (try k_fold)) | (k_here; (show wpAny _ _ (call (Value.ref 90) _) _ _ _); (try k_fold); (k_dflt (refine' Ct.use (end_ct _ _ _ _ _ _ _ (by assumption) (by assumption) (by omega)) ?k1 ?k2 ?k3 ?k4 ?k5 ?kK ?kd ?ku ?_; (case k1 => k_asm); (case k2 => k_asm); (case k3 => k_asm); (case k4 => k_asm); (case k5 => k_asm); (case kK => first | exact rfl | assumption); (case kd => ktr_room); (case ku => ktr_units))); (intro _ _ _ _ _ _ hp9; obtain ⟨he9, _, hr9⟩ := hp9; subst he9; subst hr9); (try dsimp only); (try k_fold)) | (k_here; (show wpAny _ _ (compareOp CmpOp.In (Value.int _ _) (Value.bytes _ _)) _ _ _); (refine in_int_bytes (by assumption) (by omega) (by omega) ?_)) | ((show wpAny _ _ (getMethod (Value.bytes _ _) _ _) _ _ _); (with_reducible refine getm_index ?_)) | (k_here; (show wpAny _ _ (call (Value.builtin "bytes.index") [Value.bytes _ _, Value.int _ _]) _ _ _); (refine index_bytes (by assumption) (by omega) (by omega) (by assumption) ?_); intro _ _ _) | ((show wpAny _ _ (eval (Expr.Constant (Const.int _) _ _) _) _ _ _); refine flat_int ?_) | ((show wpAny _ _ (binaryOp Operator.Add (Value.int _ _) (Value.int _ _)) _ _ _); refine flat_add ?_) | ((show wpAny _ _ (binaryOp Operator.Sub (Value.int _ _) (Value.int _ _)) _ _ _); refine flat_sub ?_) | ((show wpAny _ _ (eval (Expr.BinOp _ _ _ _) _) _ _ _); k_fold; k_dflt walk1) | ((show wpAny _ _ (eval (Expr.Compare _ _ _ _) _) _ _ _); k_fold; k_dflt walk1)) | walk1 | (dsimp only; first | (with_reducible first | (k_here; (show wpAny _ _ (call (Value.ref 83) _) _ _ _); (try k_fold); (k_dflt (refine' Ct.use (begin_ct _ _ _ _ _ _ _ (by assumption) (by assumption) (by omega)) ?k1 ?k2 ?k3 ?k4 ?k5 ?kK ?kd ?ku ?_; (case k1 => k_asm); (case k2 => k_asm); (case k3 => k_asm); (case k4 => k_asm); (case k5 => k_asm); (case kK => first | exact rfl | assumption); (case kd => ktr_room); (case ku => ktr_units))); (intro _ _ _ _ _ _ hp9; obtain ⟨he9, _, hr9⟩ := hp9; subst he9; subst hr9); (try dsimp only); (try k_fold)) | (k_here; (show wpAny _ _ (call (Value.ref 90) _) _ _ _); (try k_fold); (k_dflt (refine' Ct.use (end_ct _ _ _ _ _ _ _ (by assumption) (by assumption) (by omega)) ?k1 ?k2 ?k3 ?k4 ?k5 ?kK ?kd ?ku ?_; (case k1 => k_asm); (case k2 => k_asm); (case k3 => k_asm); (case k4 => k_asm); (case k5 => k_asm); (case kK => first | exact rfl | assumption); (case kd => ktr_room); (case ku => ktr_units))); (intro _ _ _ _ _ _ hp9; obtain ⟨he9, _, hr9⟩ := hp9; subst he9; subst hr9); (try dsimp only); (try k_fold)) | (k_here; (show wpAny _ _ (compareOp CmpOp.In (Value.int _ _) (Value.bytes _ _)) _ _ _); (refine in_int_bytes (by assumption) (by omega) (by omega) ?_)) | ((show wpAny _ _ (getMethod (Value.bytes _ _) _ _) _ _ _); (with_reducible refine getm_index ?_)) | (k_here; (show wpAny _ _ (call (Value.builtin "bytes.index") [Value.bytes _ _, Value.int _ _]) _ _ _); (refine index_bytes (by assumption) (by omega) (by omega) (by assumption) ?_); intro _ _ _)) | walk1) | (leave1; walk_say "STEP leave1"; try dsimp only) | fail "no step"))
  all_goals try (exfalso; omega)
  rename_i D1 hA lA hB hC hD tkA l1 hE lB hF F1 N1
  obtain ⟨m0, hm0, F1⟩ : ∃ m0, m0 = _ ∧ Fr g' L' hF m0 := ⟨_, rfl, F1⟩
  obtain ⟨tl, htl, N1⟩ : ∃ tl, tl = _ ∧ News g' L' hF ((l1, listOf #[] 0) :: tl) := ⟨_, rfl, N1⟩
  have hne : ∀ p ∈ tl, p.1 ≠ l1 := by
    rw [htl]
    exact fun p hp => (List.mem_cons.mp hp).elim (fun e => e ▸ Nat.ne_of_lt lB.1) fun h => Nat.ne_of_lt (lt_all lB.2 p h)
  let J9 : Nat → (Str → Option Value) → List (Addr × Obj) → Prop := (fun i m₁ news₁ => ∃ vs n, news₁ = (l1, listOf vs n) :: tl ∧ IntsAre vs.toList ((convI ko kw kg (beginOf ko ca) (endOf ko cb)).take i) ∧ ∃ va vo, m₁ = fun y => if y = Str.ofString "octet" then vo else if y = Str.ofString "at" then va else m0 y)
  refine Stop.go (enum_bytes J9
    rfl (by assumption) F1 N1 ⟨#[], 0, rfl, .nil, norm2 fun _ _ _ => rfl⟩ ?_ ?_)
  · intro i k u t m₁ news₁ h tk own hk hk0 hk1 hz1 hadr hoff F2 N2
    (try k_fold)
    obtain ⟨vs, n, rfl, hvs, va, vo, rfl⟩ := hz1
    have hne2 : ∀ p ∈ tl ++ own, p.1 ≠ l1 := fun p hp => (List.mem_append.mp hp).elim (hne p) fun h => hoff p h l1 (List.mem_cons_self ..)
    have hsz : vs.size ≤ 1000 := by rw [ints_size hvs, List.length_take, convI_length]; omega
    clear F1 N1 hadr hoff htl
    subst hm0
    simp only [List.cons_append] at F2 N2
    (repeat' (first | (k_unfold; (try dsimp only)) | (k_end; kc_close) | (with_reducible first | (k_here; (show wpAny _ _ (call (Value.ref 83) _) _ _ _); (try k_fold); (k_dflt (refine' Ct.use (begin_ct _ _ _ _ _ _ _ (by assumption) (by assumption) (by omega)) ?k1 ?k2 ?k3 ?k4 ?k5 ?kK ?kd ?ku ?_; (case k1 => k_asm); (case k2 => k_asm); (case k3 => k_asm); (case k4 => k_asm); (case k5 => k_asm); (case kK => first | exact rfl | assumption); (case kd => ktr_room); (case ku => ktr_units))); (intro _ _ _ _ _ _ hp9; obtain ⟨he9, _, hr9⟩ := hp9; subst he9; subst hr9); (try dsimp only); (try k_fold)) | (k_here; (show wpAny _ _ (call (Value.ref 90) _) _ _ _); (try k_fold); (k_dflt (refine' Ct.use (end_ct _ _ _ _ _ _ _ (by assumption) (by assumption) (by omega)) ?k1 ?k2 ?k3 ?k4 ?k5 ?kK ?kd ?ku ?_; (case k1 => k_asm); (case k2 => k_asm); (case k3 => k_asm); (case k4 => k_asm); (case k5 => k_asm); (case kK => first | exact rfl | assumption); (case kd => ktr_room); (case ku => ktr_units))); (intro _ _ _ _ _ _ hp9; obtain ⟨he9, _, hr9⟩ := hp9; subst he9; subst hr9); (try dsimp only); (try k_fold)) | (k_here; (show wpAny _ _ (compareOp CmpOp.In (Value.int _ _) (Value.bytes _ _)) _ _ _); (refine in_int_bytes (by assumption) (by omega) (by omega) ?_)) | ((show wpAny _ _ (getMethod (Value.bytes _ _) _ _) _ _ _); (with_reducible refine getm_index ?_)) | (k_here; (show wpAny _ _ (call (Value.builtin "bytes.index") [Value.bytes _ _, Value.int _ _]) _ _ _); (refine index_bytes (by assumption) (by omega) (by omega) (by assumption) ?_); intro _ _ _) | ((show wpAny _ _ (eval (Expr.Constant (Const.int _) _ _) _) _ _ _); refine flat_int ?_) | ((show wpAny _ _ (binaryOp Operator.Add (Value.int _ _) (Value.int _ _)) _ _ _); refine flat_add ?_) | ((show wpAny _ _ (binaryOp Operator.Sub (Value.int _ _) (Value.int _ _)) _ _ _); refine flat_sub ?_) | ((show wpAny _ _ (eval (Expr.BinOp _ _ _ _) _) _ _ _); k_fold; k_dflt walk1) | ((show wpAny _ _ (eval (Expr.Compare _ _ _ _) _) _ _ _); k_fold; k_dflt walk1)) | walk1 | (dsimp only; first | (with_reducible first | (k_here; (show wpAny _ _ (call (Value.ref 83) _) _ _ _); (try k_fold); (k_dflt (refine' Ct.use (begin_ct _ _ _ _ _ _ _ (by assumption) (by assumption) (by omega)) ?k1 ?k2 ?k3 ?k4 ?k5 ?kK ?kd ?ku ?_; (case k1 => k_asm); (case k2 => k_asm); (case k3 => k_asm); (case k4 => k_asm); (case k5 => k_asm); (case kK => first | exact rfl | assumption); (case kd => ktr_room); (case ku => ktr_units))); (intro _ _ _ _ _ _ hp9; obtain ⟨he9, _, hr9⟩ := hp9; subst he9; subst hr9); (try dsimp only); (try k_fold)) | (k_here; (show wpAny _ _ (call (Value.ref 90) _) _ _ _); (try k_fold); (k_dflt (refine' Ct.use (end_ct _ _ _ _ _ _ _ (by assumption) (by assumption) (by omega)) ?k1 ?k2 ?k3 ?k4 ?k5 ?kK ?kd ?ku ?_; (case k1 => k_asm); (case k2 => k_asm); (case k3 => k_asm); (case k4 => k_asm); (case k5 => k_asm); (case kK => first | exact rfl | assumption); (case kd => ktr_room); (case ku => ktr_units))); (intro _ _ _ _ _ _ hp9; obtain ⟨he9, _, hr9⟩ := hp9; subst he9; subst hr9); (try dsimp only); (try k_fold)) | (k_here; (show wpAny _ _ (compareOp CmpOp.In (Value.int _ _) (Value.bytes _ _)) _ _ _); (refine in_int_bytes (by assumption) (by omega) (by omega) ?_)) | ((show wpAny _ _ (getMethod (Value.bytes _ _) _ _) _ _ _); (with_reducible refine getm_index ?_)) | (k_here; (show wpAny _ _ (call (Value.builtin "bytes.index") [Value.bytes _ _, Value.int _ _]) _ _ _); (refine index_bytes (by assumption) (by omega) (by omega) (by assumption) ?_); intro _ _ _)) | walk1) | (leave1; walk_say "STEP leave1"; try dsimp only) | fail "no step"))
    all_goals refine PairEnd.next (news' := (l1, listOf (vs.push _) _) :: tl) (by assumption) (by assumption) rfl ⟨_, _, rfl, ints_push_take hvs (convI_get hk) ?_, norm2 fun z h1 h2 => by simp only [if_neg h1, if_neg h2]⟩
    · rw [if_pos ⟨by assumption, by assumption⟩, conv1, if_pos (by assumption), Int.toNat_natCast]
    · rw [if_pos ⟨by assumption, by assumption⟩, conv1, if_neg (by assumption)]
    · rw [if_neg fun h => absurd h.2 (by assumption)]
    · rw [if_neg fun h => absurd h.1 (by assumption)]
  · intro m₁ news₁ h tk hz1 hadr F2 N2
    (try k_fold)
    obtain ⟨vs, n, rfl, hvs, va, vo, rfl⟩ := hz1
    rw [List.take_of_length_le (by rw [convI_length]; omega)] at hvs
    have hsz : vs.size ≤ 1000 := by rw [ints_size hvs, convI_length]; omega
    have hin : ∀ k ∈ convI ko kw kg (beginOf ko ca) (endOf ko cb), 0 ≤ k ∧ k < 256 := convI_in ho hg
    have hlc : (convI ko kw kg (beginOf ko ca) (endOf ko cb)).length = ko.length := convI_length
    clear F1 N1
    subst hm0
    dsimp only at F2
    (repeat' (first | (k_unfold; (try dsimp only)) | (k_end; kc_close) | (with_reducible first | (k_here; (show wpAny _ _ (call (Value.ref 83) _) _ _ _); (try k_fold); (k_dflt (refine' Ct.use (begin_ct _ _ _ _ _ _ _ (by assumption) (by assumption) (by omega)) ?k1 ?k2 ?k3 ?k4 ?k5 ?kK ?kd ?ku ?_; (case k1 => k_asm); (case k2 => k_asm); (case k3 => k_asm); (case k4 => k_asm); (case k5 => k_asm); (case kK => first | exact rfl | assumption); (case kd => ktr_room); (case ku => ktr_units))); (intro _ _ _ _ _ _ hp9; obtain ⟨he9, _, hr9⟩ := hp9; subst he9; subst hr9); (try dsimp only); (try k_fold)) | (k_here; (show wpAny _ _ (call (Value.ref 90) _) _ _ _); (try k_fold); (k_dflt (refine' Ct.use (end_ct _ _ _ _ _ _ _ (by assumption) (by assumption) (by omega)) ?k1 ?k2 ?k3 ?k4 ?k5 ?kK ?kd ?ku ?_; (case k1 => k_asm); (case k2 => k_asm); (case k3 => k_asm); (case k4 => k_asm); (case k5 => k_asm); (case kK => first | exact rfl | assumption); (case kd => ktr_room); (case ku => ktr_units))); (intro _ _ _ _ _ _ hp9; obtain ⟨he9, _, hr9⟩ := hp9; subst he9; subst hr9); (try dsimp only); (try k_fold)) | (k_here; (show wpAny _ _ (compareOp CmpOp.In (Value.int _ _) (Value.bytes _ _)) _ _ _); (refine in_int_bytes (by assumption) (by omega) (by omega) ?_)) | ((show wpAny _ _ (getMethod (Value.bytes _ _) _ _) _ _ _); (with_reducible refine getm_index ?_)) | (k_here; (show wpAny _ _ (call (Value.builtin "bytes.index") [Value.bytes _ _, Value.int _ _]) _ _ _); (refine index_bytes (by assumption) (by omega) (by omega) (by assumption) ?_); intro _ _ _) | ((show wpAny _ _ (eval (Expr.Constant (Const.int _) _ _) _) _ _ _); refine flat_int ?_) | ((show wpAny _ _ (binaryOp Operator.Add (Value.int _ _) (Value.int _ _)) _ _ _); refine flat_add ?_) | ((show wpAny _ _ (binaryOp Operator.Sub (Value.int _ _) (Value.int _ _)) _ _ _); refine flat_sub ?_) | ((show wpAny _ _ (eval (Expr.BinOp _ _ _ _) _) _ _ _); k_fold; k_dflt walk1) | ((show wpAny _ _ (eval (Expr.Compare _ _ _ _) _) _ _ _); k_fold; k_dflt walk1)) | walk1 | (dsimp only; first | (with_reducible first | (k_here; (show wpAny _ _ (call (Value.ref 83) _) _ _ _); (try k_fold); (k_dflt (refine' Ct.use (begin_ct _ _ _ _ _ _ _ (by assumption) (by assumption) (by omega)) ?k1 ?k2 ?k3 ?k4 ?k5 ?kK ?kd ?ku ?_; (case k1 => k_asm); (case k2 => k_asm); (case k3 => k_asm); (case k4 => k_asm); (case k5 => k_asm); (case kK => first | exact rfl | assumption); (case kd => ktr_room); (case ku => ktr_units))); (intro _ _ _ _ _ _ hp9; obtain ⟨he9, _, hr9⟩ := hp9; subst he9; subst hr9); (try dsimp only); (try k_fold)) | (k_here; (show wpAny _ _ (call (Value.ref 90) _) _ _ _); (try k_fold); (k_dflt (refine' Ct.use (end_ct _ _ _ _ _ _ _ (by assumption) (by assumption) (by omega)) ?k1 ?k2 ?k3 ?k4 ?k5 ?kK ?kd ?ku ?_; (case k1 => k_asm); (case k2 => k_asm); (case k3 => k_asm); (case k4 => k_asm); (case k5 => k_asm); (case kK => first | exact rfl | assumption); (case kd => ktr_room); (case ku => ktr_units))); (intro _ _ _ _ _ _ hp9; obtain ⟨he9, _, hr9⟩ := hp9; subst he9; subst hr9); (try dsimp only); (try k_fold)) | (k_here; (show wpAny _ _ (compareOp CmpOp.In (Value.int _ _) (Value.bytes _ _)) _ _ _); (refine in_int_bytes (by assumption) (by omega) (by omega) ?_)) | ((show wpAny _ _ (getMethod (Value.bytes _ _) _ _) _ _ _); (with_reducible refine getm_index ?_)) | (k_here; (show wpAny _ _ (call (Value.builtin "bytes.index") [Value.bytes _ _, Value.int _ _]) _ _ _); (refine index_bytes (by assumption) (by omega) (by omega) (by assumption) ?_); intro _ _ _)) | walk1) | (leave1; walk_say "STEP leave1"; try dsimp only) | fail "no step"))
    exact hret _ _ _ _ (by k_asm) (fun p hp => (by k_asm : News h₀ L _ ((l1, listOf vs n) :: tl)) p (List.mem_cons_of_mem _ (htl ▸ List.mem_cons_of_mem _ hp))) ⟨rfl, _, _, rfl, KBa.ints_make hin⟩



/-- a seeker's own dict -/
noncomputable abbrev SE (P : Params) (k1 k2 k3 k4 k5 k6 : Tok) (vk vw vb ve vl vd : Value) : List DictEntry :=
  [⟨PyData.keyHash P (Str.ofString "kind"), .str (Str.ofString "kind") k1, vk⟩, ⟨PyData.keyHash P (Str.ofString "wanted"), .str (Str.ofString "wanted") k2, vw⟩,
   ⟨PyData.keyHash P (Str.ofString "begin"), .str (Str.ofString "begin") k3, vb⟩, ⟨PyData.keyHash P (Str.ofString "end"), .str (Str.ofString "end") k4, ve⟩,
   ⟨PyData.keyHash P (Str.ofString "lead"), .str (Str.ofString "lead") k5, vl⟩, ⟨PyData.keyHash P (Str.ofString "is_done"), .str (Str.ofString "is_done") k6, vd⟩]
/-- the two kinds that the law asks for: all rows of one octet (some), the octets left (none) -/
def SKind (vk vw : Value) (c : Option Int) : Prop := match c with
  | some c => (∃ t, vk = .str (Str.ofString "ALL") t) ∧ ∃ b u, vw = .bytes b u ∧ KBw.bInts b = [c]
  | none => (∃ t, vk = .str (Str.ofString "CHARACTERS") t) ∧ vw = .none
/-- what a seeker's dict holds -/
inductive SeekIs (P : Params) (c : Option Int) (b e : Int) (es : List DictEntry) : Prop
  | mk (k1 k2 k3 k4 k5 k6 : Tok) (vk vw : Value) (tb te : Tok) (vl : Value) (he : es = SE P k1 k2 k3 k4 k5 k6 vk vw (.int b tb) (.int e te) vl (.bool false)) (hk : SKind vk vw c) (hl : vl = .none ∨ ∃ i t, vl = .int i t) : SeekIs P c b e es
theorem news_sub2 {h₀ h : Heap} {L : Addr} {a b c : Addr × Obj} {tl : List (Addr × Obj)} (N : News h₀ L h (a :: b :: c :: tl)) : News h₀ L h (a :: b :: tl) := fun p hp => N p (by
  rcases List.mem_cons.mp hp with rfl | hp
  · exact List.mem_cons_self ..
  · rcases List.mem_cons.mp hp with rfl | hp
    · exact List.mem_cons_of_mem _ (List.mem_cons_self ..)
    · exact List.mem_cons_of_mem _ (List.mem_cons_of_mem _ (List.mem_cons_of_mem _ hp)))
theorem seeker_of_ct (w : World) (o : Array UInt8) (vk vw v1 v2 : Value) (ko : List Int) (c cb ca : Option Int) (t1 : Tok) (news : List (Addr × Obj)) (ho : KBw.bInts o = ko) (hs : SKind vk vw c)
    (hv1 : OptB v1 cb) (hv2 : OptB v2 ca) (hz : ko.length ≤ 1000) :
    Ct w 146 [.bytes o t1, vk, vw, v1, v2] 8 64 news (fun r news' => ∃ x d es, r = .ref x ∧ news' = (x, instObj 135 d) :: (d, dictOf es 6) :: news ∧ SeekIs w.params c (beginOf ko ca) (endOf ko cb) es ∧ (∀ p ∈ news, p.1 < d) ∧ d < x) := by
  cases c with
  | some c =>
    obtain ⟨⟨t2, rfl⟩, x, t3, rfl, hx⟩ := hs
    unfold Ct
    k_fill
    intro loose mean mg mb dp un gd cn cs a ccd cl outer A₀ base h₀ L m s Q E B F X N T hk hd hu hret
    have hx' : ∃ kx, KBw.bInts x = kx ∧ kx.length = 1 := ⟨_, hx, rfl⟩
    obtain ⟨kx, hkx, hkl⟩ := hx'
    refine wpAny_call ?_
    k_dflt (refine' code_def (binds := [(Str.ofString "octets", .bytes o t1), (Str.ofString "kind", .str (Str.ofString "ALL") t2), (Str.ofString "wanted", .bytes x t3), (Str.ofString "before", v1), (Str.ofString "after", v2)]) ?k1 ?k2 ?k3 ?k4 ?k5 ?kA ?kF ?kK ?k6 ?k7 ?k8 ?k9 ?kB ?_ ?c2 ?c3 ?c4 ?c5; (case kA => exact rfl); (case kF => exact rfl); (case kK => assumption); (case k1 => k_asm); (case k2 => k_asm); (case k3 => k_asm); (case k4 => k_asm); (case k5 => k_asm); (case k6 => k_is); (case k7 => k_is); (case k8 => ktr_room); (case k9 => exact BindsTo.of_eq rfl); (case c5 => decide); (case kB => exact locs rfl); (case c2 => exact rfl); (case c3 => exact rfl); (case c4 => exact rfl); k_whole)
    intro g' L' h' FG' F' N' B' X' T'
    dsimp only
    (try k_fold)
    (repeat' (first | (k_unfold; (try dsimp only)) | (k_end; kc_close) | (with_reducible first | (k_here; (show wpAny _ _ (call (Value.ref 83) _) _ _ _); (try k_fold); (k_dflt (refine' Ct.use (begin_ct _ _ _ _ _ _ _ (by assumption) (by assumption) (by omega)) ?k1 ?k2 ?k3 ?k4 ?k5 ?kK ?kd ?ku ?_; (case k1 => k_asm); (case k2 => k_asm); (case k3 => k_asm); (case k4 => k_asm); (case k5 => k_asm); (case kK => first | exact rfl | assumption); (case kd => ktr_room); (case ku => ktr_units))); (intro _ _ _ _ _ _ hp9; obtain ⟨he9, _, hr9⟩ := hp9; subst he9; subst hr9); (try dsimp only); (try k_fold)) | (k_here; (show wpAny _ _ (call (Value.ref 90) _) _ _ _); (try k_fold); (k_dflt (refine' Ct.use (end_ct _ _ _ _ _ _ _ (by assumption) (by assumption) (by omega)) ?k1 ?k2 ?k3 ?k4 ?k5 ?kK ?kd ?ku ?_; (case k1 => k_asm); (case k2 => k_asm); (case k3 => k_asm); (case k4 => k_asm); (case k5 => k_asm); (case kK => first | exact rfl | assumption); (case kd => ktr_room); (case ku => ktr_units))); (intro _ _ _ _ _ _ hp9; obtain ⟨he9, _, hr9⟩ := hp9; subst he9; subst hr9); (try dsimp only); (try k_fold)) | ((show wpAny _ _ (eval (Expr.Constant (Const.int _) _ _) _) _ _ _); refine flat_int ?_) | ((show wpAny _ _ (binaryOp Operator.Add (Value.int _ _) (Value.int _ _)) _ _ _); refine flat_add ?_) | ((show wpAny _ _ (binaryOp Operator.Sub (Value.int _ _) (Value.int _ _)) _ _ _); refine flat_sub ?_) | ((show wpAny _ _ (eval (Expr.BinOp _ _ _ _) _) _ _ _); k_fold; k_dflt walk1) | ((show wpAny _ _ (eval (Expr.Compare _ _ _ _) _) _ _ _); k_fold; k_dflt walk1)) | walk1 | (dsimp only; first | (with_reducible first | (k_here; (show wpAny _ _ (call (Value.ref 83) _) _ _ _); (try k_fold); (k_dflt (refine' Ct.use (begin_ct _ _ _ _ _ _ _ (by assumption) (by assumption) (by omega)) ?k1 ?k2 ?k3 ?k4 ?k5 ?kK ?kd ?ku ?_; (case k1 => k_asm); (case k2 => k_asm); (case k3 => k_asm); (case k4 => k_asm); (case k5 => k_asm); (case kK => first | exact rfl | assumption); (case kd => ktr_room); (case ku => ktr_units))); (intro _ _ _ _ _ _ hp9; obtain ⟨he9, _, hr9⟩ := hp9; subst he9; subst hr9); (try dsimp only); (try k_fold)) | (k_here; (show wpAny _ _ (call (Value.ref 90) _) _ _ _); (try k_fold); (k_dflt (refine' Ct.use (end_ct _ _ _ _ _ _ _ (by assumption) (by assumption) (by omega)) ?k1 ?k2 ?k3 ?k4 ?k5 ?kK ?kd ?ku ?_; (case k1 => k_asm); (case k2 => k_asm); (case k3 => k_asm); (case k4 => k_asm); (case k5 => k_asm); (case kK => first | exact rfl | assumption); (case kd => ktr_room); (case ku => ktr_units))); (intro _ _ _ _ _ _ hp9; obtain ⟨he9, _, hr9⟩ := hp9; subst he9; subst hr9); (try dsimp only); (try k_fold))) | walk1) | (leave1; walk_say "STEP leave1"; try dsimp only) | fail "no step"))
    all_goals try (exfalso; omega)
    rename News h₀ L _ ((_, instObj 135 _) :: _) => hN
    refine hret _ _ _ _ (by k_asm) (news_sub2 hN) ⟨_, _, _, rfl, rfl, ⟨_, _, _, _, _, _, _, _, _, _, _, rfl, ⟨⟨_, rfl⟩, _, _, rfl, hx⟩, .inl rfl⟩, lt_all (And.right (by assumption)), by omega⟩
  | none =>
    obtain ⟨⟨t2, rfl⟩, rfl⟩ := hs
    unfold Ct
    k_fill
    intro loose mean mg mb dp un gd cn cs a ccd cl outer A₀ base h₀ L m s Q E B F X N T hk hd hu hret
    refine wpAny_call ?_
    k_dflt (refine' code_def (binds := [(Str.ofString "octets", .bytes o t1), (Str.ofString "kind", .str (Str.ofString "CHARACTERS") t2), (Str.ofString "wanted", .none), (Str.ofString "before", v1), (Str.ofString "after", v2)]) ?k1 ?k2 ?k3 ?k4 ?k5 ?kA ?kF ?kK ?k6 ?k7 ?k8 ?k9 ?kB ?_ ?c2 ?c3 ?c4 ?c5; (case kA => exact rfl); (case kF => exact rfl); (case kK => assumption); (case k1 => k_asm); (case k2 => k_asm); (case k3 => k_asm); (case k4 => k_asm); (case k5 => k_asm); (case k6 => k_is); (case k7 => k_is); (case k8 => ktr_room); (case k9 => exact BindsTo.of_eq rfl); (case c5 => decide); (case kB => exact locs rfl); (case c2 => exact rfl); (case c3 => exact rfl); (case c4 => exact rfl); k_whole)
    intro g' L' h' FG' F' N' B' X' T'
    dsimp only
    (try k_fold)
    (repeat' (first | (k_unfold; (try dsimp only)) | (k_end; kc_close) | (with_reducible first | (k_here; (show wpAny _ _ (call (Value.ref 83) _) _ _ _); (try k_fold); (k_dflt (refine' Ct.use (begin_ct _ _ _ _ _ _ _ (by assumption) (by assumption) (by omega)) ?k1 ?k2 ?k3 ?k4 ?k5 ?kK ?kd ?ku ?_; (case k1 => k_asm); (case k2 => k_asm); (case k3 => k_asm); (case k4 => k_asm); (case k5 => k_asm); (case kK => first | exact rfl | assumption); (case kd => ktr_room); (case ku => ktr_units))); (intro _ _ _ _ _ _ hp9; obtain ⟨he9, _, hr9⟩ := hp9; subst he9; subst hr9); (try dsimp only); (try k_fold)) | (k_here; (show wpAny _ _ (call (Value.ref 90) _) _ _ _); (try k_fold); (k_dflt (refine' Ct.use (end_ct _ _ _ _ _ _ _ (by assumption) (by assumption) (by omega)) ?k1 ?k2 ?k3 ?k4 ?k5 ?kK ?kd ?ku ?_; (case k1 => k_asm); (case k2 => k_asm); (case k3 => k_asm); (case k4 => k_asm); (case k5 => k_asm); (case kK => first | exact rfl | assumption); (case kd => ktr_room); (case ku => ktr_units))); (intro _ _ _ _ _ _ hp9; obtain ⟨he9, _, hr9⟩ := hp9; subst he9; subst hr9); (try dsimp only); (try k_fold)) | ((show wpAny _ _ (eval (Expr.Constant (Const.int _) _ _) _) _ _ _); refine flat_int ?_) | ((show wpAny _ _ (binaryOp Operator.Add (Value.int _ _) (Value.int _ _)) _ _ _); refine flat_add ?_) | ((show wpAny _ _ (binaryOp Operator.Sub (Value.int _ _) (Value.int _ _)) _ _ _); refine flat_sub ?_) | ((show wpAny _ _ (eval (Expr.BinOp _ _ _ _) _) _ _ _); k_fold; k_dflt walk1) | ((show wpAny _ _ (eval (Expr.Compare _ _ _ _) _) _ _ _); k_fold; k_dflt walk1)) | walk1 | (dsimp only; first | (with_reducible first | (k_here; (show wpAny _ _ (call (Value.ref 83) _) _ _ _); (try k_fold); (k_dflt (refine' Ct.use (begin_ct _ _ _ _ _ _ _ (by assumption) (by assumption) (by omega)) ?k1 ?k2 ?k3 ?k4 ?k5 ?kK ?kd ?ku ?_; (case k1 => k_asm); (case k2 => k_asm); (case k3 => k_asm); (case k4 => k_asm); (case k5 => k_asm); (case kK => first | exact rfl | assumption); (case kd => ktr_room); (case ku => ktr_units))); (intro _ _ _ _ _ _ hp9; obtain ⟨he9, _, hr9⟩ := hp9; subst he9; subst hr9); (try dsimp only); (try k_fold)) | (k_here; (show wpAny _ _ (call (Value.ref 90) _) _ _ _); (try k_fold); (k_dflt (refine' Ct.use (end_ct _ _ _ _ _ _ _ (by assumption) (by assumption) (by omega)) ?k1 ?k2 ?k3 ?k4 ?k5 ?kK ?kd ?ku ?_; (case k1 => k_asm); (case k2 => k_asm); (case k3 => k_asm); (case k4 => k_asm); (case k5 => k_asm); (case kK => first | exact rfl | assumption); (case kd => ktr_room); (case ku => ktr_units))); (intro _ _ _ _ _ _ hp9; obtain ⟨he9, _, hr9⟩ := hp9; subst he9; subst hr9); (try dsimp only); (try k_fold))) | walk1) | (leave1; walk_say "STEP leave1"; try dsimp only) | fail "no step"))
    all_goals try (exfalso; omega)
    rename News h₀ L _ ((_, instObj 135 _) :: _) => hN
    refine hret _ _ _ _ (by k_asm) (news_sub2 hN) ⟨_, _, _, rfl, rfl, ⟨_, _, _, _, _, _, _, _, _, _, _, rfl, ⟨⟨_, rfl⟩, rfl⟩, .inl rfl⟩, lt_all (And.right (by assumption)), by omega⟩



theorem width_ct (w : World) (x d : Addr) (c : Option Int) (b e : Int) (es : List DictEntry) (rest : List (Addr × Obj)) (hs : SeekIs w.params c b e es) :
    Ct w 111 [.ref x] 2 16 ((x, instObj 135 d) :: (d, dictOf es 6) :: rest) (Pure ((x, instObj 135 d) :: (d, dictOf es 6) :: rest) fun r => ∃ t, r = .int 1 t) := by
  obtain ⟨k1, k2, k3, k4, k5, k6, vk, vw, tb, te, vl, rfl, hsk, hl⟩ := hs
  cases c with
  | some c =>
    obtain ⟨⟨t2, rfl⟩, y, t3, rfl, hy⟩ := hsk
    unfold Ct
    k_fill
    intro loose mean mg mb dp un gd cn cs a ccd cl outer A₀ base h₀ L m s Q E B F X N T hk hd hu hret
    have hx' : ∃ kx, KBw.bInts y = kx ∧ kx.length = 1 := ⟨_, hy, rfl⟩
    obtain ⟨kx, hkx, hkl⟩ := hx'
    refine wpAny_call ?_
    k_dflt (refine' code_def (binds := [(Str.ofString "self", .ref x)]) ?k1 ?k2 ?k3 ?k4 ?k5 ?kA ?kF ?kK ?k6 ?k7 ?k8 ?k9 ?kB ?_ ?c2 ?c3 ?c4 ?c5; (case kA => exact rfl); (case kF => exact rfl); (case kK => assumption); (case k1 => k_asm); (case k2 => k_asm); (case k3 => k_asm); (case k4 => k_asm); (case k5 => k_asm); (case k6 => k_is); (case k7 => k_is); (case k8 => ktr_room); (case k9 => exact BindsTo.of_eq rfl); (case c5 => decide); (case kB => exact locs rfl); (case c2 => exact rfl); (case c3 => exact rfl); (case c4 => exact rfl); k_whole)
    intro g' L' h' FG' F' N' B' X' T'
    dsimp only
    (try k_fold)
    (repeat' (first | (k_unfold; (try dsimp only)) | (k_end; kc_close) | (with_reducible first | (k_here; (show wpAny _ _ (call (Value.ref 69) _) _ _ _); (try k_fold); (k_dflt (refine' Ct.use (lies_at_ct _ _ _ _ _ _ _ _ _ _ (by assumption) (by assumption) (by omega) (by omega) (by omega)) ?k1 ?k2 ?k3 ?k4 ?k5 ?kK ?kd ?ku ?_; (case k1 => k_asm); (case k2 => k_asm); (case k3 => k_asm); (case k4 => k_asm); (case k5 => k_asm); (case kK => first | exact rfl | assumption); (case kd => ktr_room); (case ku => ktr_units))); (intro _ _ _ _ _ _ hp9; obtain ⟨he9, hr9⟩ := hp9; subst he9; subst hr9); (try dsimp only); (try k_fold)) | ((show wpAny _ _ (eval (Expr.Constant (Const.int _) _ _) _) _ _ _); refine flat_int ?_) | ((show wpAny _ _ (binaryOp Operator.Add (Value.int _ _) (Value.int _ _)) _ _ _); refine flat_add ?_) | ((show wpAny _ _ (binaryOp Operator.Sub (Value.int _ _) (Value.int _ _)) _ _ _); refine flat_sub ?_) | ((show wpAny _ _ (eval (Expr.BinOp _ _ _ _) _) _ _ _); k_fold; k_dflt walk1) | ((show wpAny _ _ (eval (Expr.Compare _ _ _ _) _) _ _ _); k_fold; k_dflt walk1)) | walk1 | (dsimp only; first | (with_reducible first | (k_here; (show wpAny _ _ (call (Value.ref 69) _) _ _ _); (try k_fold); (k_dflt (refine' Ct.use (lies_at_ct _ _ _ _ _ _ _ _ _ _ (by assumption) (by assumption) (by omega) (by omega) (by omega)) ?k1 ?k2 ?k3 ?k4 ?k5 ?kK ?kd ?ku ?_; (case k1 => k_asm); (case k2 => k_asm); (case k3 => k_asm); (case k4 => k_asm); (case k5 => k_asm); (case kK => first | exact rfl | assumption); (case kd => ktr_room); (case ku => ktr_units))); (intro _ _ _ _ _ _ hp9; obtain ⟨he9, hr9⟩ := hp9; subst he9; subst hr9); (try dsimp only); (try k_fold))) | walk1) | (leave1; walk_say "STEP leave1"; try dsimp only) | fail "no step"))
    exact hret _ _ _ _ (by k_asm) (by k_asm) ⟨rfl, _, congrArg (Value.int · _) (by omega)⟩
  | none =>
    obtain ⟨⟨t2, rfl⟩, rfl⟩ := hsk
    unfold Ct
    k_fill
    intro loose mean mg mb dp un gd cn cs a ccd cl outer A₀ base h₀ L m s Q E B F X N T hk hd hu hret
    refine wpAny_call ?_
    k_dflt (refine' code_def (binds := [(Str.ofString "self", .ref x)]) ?k1 ?k2 ?k3 ?k4 ?k5 ?kA ?kF ?kK ?k6 ?k7 ?k8 ?k9 ?kB ?_ ?c2 ?c3 ?c4 ?c5; (case kA => exact rfl); (case kF => exact rfl); (case kK => assumption); (case k1 => k_asm); (case k2 => k_asm); (case k3 => k_asm); (case k4 => k_asm); (case k5 => k_asm); (case k6 => k_is); (case k7 => k_is); (case k8 => ktr_room); (case k9 => exact BindsTo.of_eq rfl); (case c5 => decide); (case kB => exact locs rfl); (case c2 => exact rfl); (case c3 => exact rfl); (case c4 => exact rfl); k_whole)
    intro g' L' h' FG' F' N' B' X' T'
    dsimp only
    (try k_fold)
    (repeat' (first | (k_unfold; (try dsimp only)) | (k_end; kc_close) | (with_reducible first | (k_here; (show wpAny _ _ (call (Value.ref 69) _) _ _ _); (try k_fold); (k_dflt (refine' Ct.use (lies_at_ct _ _ _ _ _ _ _ _ _ _ (by assumption) (by assumption) (by omega) (by omega) (by omega)) ?k1 ?k2 ?k3 ?k4 ?k5 ?kK ?kd ?ku ?_; (case k1 => k_asm); (case k2 => k_asm); (case k3 => k_asm); (case k4 => k_asm); (case k5 => k_asm); (case kK => first | exact rfl | assumption); (case kd => ktr_room); (case ku => ktr_units))); (intro _ _ _ _ _ _ hp9; obtain ⟨he9, hr9⟩ := hp9; subst he9; subst hr9); (try dsimp only); (try k_fold)) | ((show wpAny _ _ (eval (Expr.Constant (Const.int _) _ _) _) _ _ _); refine flat_int ?_) | ((show wpAny _ _ (binaryOp Operator.Add (Value.int _ _) (Value.int _ _)) _ _ _); refine flat_add ?_) | ((show wpAny _ _ (binaryOp Operator.Sub (Value.int _ _) (Value.int _ _)) _ _ _); refine flat_sub ?_) | ((show wpAny _ _ (eval (Expr.BinOp _ _ _ _) _) _ _ _); k_fold; k_dflt walk1) | ((show wpAny _ _ (eval (Expr.Compare _ _ _ _) _) _ _ _); k_fold; k_dflt walk1)) | walk1 | (dsimp only; first | (with_reducible first | (k_here; (show wpAny _ _ (call (Value.ref 69) _) _ _ _); (try k_fold); (k_dflt (refine' Ct.use (lies_at_ct _ _ _ _ _ _ _ _ _ _ (by assumption) (by assumption) (by omega) (by omega) (by omega)) ?k1 ?k2 ?k3 ?k4 ?k5 ?kK ?kd ?ku ?_; (case k1 => k_asm); (case k2 => k_asm); (case k3 => k_asm); (case k4 => k_asm); (case k5 => k_asm); (case kK => first | exact rfl | assumption); (case kd => ktr_room); (case ku => ktr_units))); (intro _ _ _ _ _ _ hp9; obtain ⟨he9, hr9⟩ := hp9; subst he9; subst hr9); (try dsimp only); (try k_fold))) | walk1) | (leave1; walk_say "STEP leave1"; try dsimp only) | fail "no step"))
    exact hret _ _ _ _ (by k_asm) (by k_asm) ⟨rfl, _, rfl⟩
theorem reach_ct (w : World) (x d : Addr) (c : Option Int) (b e : Int) (es : List DictEntry) (i : Int) (t : Tok) (rest : List (Addr × Obj)) (hs : SeekIs w.params c b e es) (hxd : x ≠ d) (hr : ∀ p ∈ rest, p.1 ≠ d) :
    Ct w 118 [.ref x, .int i t] 2 16 ((x, instObj 135 d) :: (d, dictOf es 6) :: rest) (fun r news' => r = .none ∧ ∃ es', SeekIs w.params c b e es' ∧ news' = (x, instObj 135 d) :: (d, dictOf es' 6) :: rest) := by
  obtain ⟨k1, k2, k3, k4, k5, k6, vk, vw, tb, te, vl, rfl, hsk, hl⟩ := hs
  rcases hl with rfl | ⟨li, tl, rfl⟩
  · unfold Ct
    k_fill
    intro loose mean mg mb dp un gd cn cs a ccd cl outer A₀ base h₀ L m s Q E B F X N T hk hd hu hret
    refine wpAny_call ?_
    k_dflt (refine' code_def (binds := [(Str.ofString "self", .ref x), (Str.ofString "at", .int i t)]) ?k1 ?k2 ?k3 ?k4 ?k5 ?kA ?kF ?kK ?k6 ?k7 ?k8 ?k9 ?kB ?_ ?c2 ?c3 ?c4 ?c5; (case kA => exact rfl); (case kF => exact rfl); (case kK => assumption); (case k1 => k_asm); (case k2 => k_asm); (case k3 => k_asm); (case k4 => k_asm); (case k5 => k_asm); (case k6 => k_is); (case k7 => k_is); (case k8 => ktr_room); (case k9 => exact BindsTo.of_eq rfl); (case c5 => decide); (case kB => exact locs rfl); (case c2 => exact rfl); (case c3 => exact rfl); (case c4 => exact rfl); k_whole)
    intro g' L' h' FG' F' N' B' X' T'
    dsimp only
    (try k_fold)
    (repeat' (first | (k_unfold; (try dsimp only)) | (k_end; kc_close) | (with_reducible first | (k_here; (show wpAny _ _ (call (Value.ref 69) _) _ _ _); (try k_fold); (k_dflt (refine' Ct.use (lies_at_ct _ _ _ _ _ _ _ _ _ _ (by assumption) (by assumption) (by omega) (by omega) (by omega)) ?k1 ?k2 ?k3 ?k4 ?k5 ?kK ?kd ?ku ?_; (case k1 => k_asm); (case k2 => k_asm); (case k3 => k_asm); (case k4 => k_asm); (case k5 => k_asm); (case kK => first | exact rfl | assumption); (case kd => ktr_room); (case ku => ktr_units))); (intro _ _ _ _ _ _ hp9; obtain ⟨he9, hr9⟩ := hp9; subst he9; subst hr9); (try dsimp only); (try k_fold)) | ((show wpAny _ _ (eval (Expr.Constant (Const.int _) _ _) _) _ _ _); refine flat_int ?_) | ((show wpAny _ _ (binaryOp Operator.Add (Value.int _ _) (Value.int _ _)) _ _ _); refine flat_add ?_) | ((show wpAny _ _ (binaryOp Operator.Sub (Value.int _ _) (Value.int _ _)) _ _ _); refine flat_sub ?_) | ((show wpAny _ _ (eval (Expr.BinOp _ _ _ _) _) _ _ _); k_fold; k_dflt walk1) | ((show wpAny _ _ (eval (Expr.Compare _ _ _ _) _) _ _ _); k_fold; k_dflt walk1)) | walk1 | (dsimp only; first | (with_reducible first | (k_here; (show wpAny _ _ (call (Value.ref 69) _) _ _ _); (try k_fold); (k_dflt (refine' Ct.use (lies_at_ct _ _ _ _ _ _ _ _ _ _ (by assumption) (by assumption) (by omega) (by omega) (by omega)) ?k1 ?k2 ?k3 ?k4 ?k5 ?kK ?kd ?ku ?_; (case k1 => k_asm); (case k2 => k_asm); (case k3 => k_asm); (case k4 => k_asm); (case k5 => k_asm); (case kK => first | exact rfl | assumption); (case kd => ktr_room); (case ku => ktr_units))); (intro _ _ _ _ _ _ hp9; obtain ⟨he9, hr9⟩ := hp9; subst he9; subst hr9); (try dsimp only); (try k_fold))) | walk1) | (leave1; walk_say "STEP leave1"; try dsimp only) | fail "no step"))
    · exact hret _ _ _ _ (by k_asm) (by k_asm) ⟨rfl, _, ⟨_, _, _, _, _, _, _, _, _, _, _, rfl, hsk, .inr ⟨_, _, rfl⟩⟩, rfl⟩
    · exact hret _ _ _ _ (by k_asm) (by k_asm) ⟨rfl, _, ⟨_, _, _, _, _, _, _, _, _, _, _, rfl, hsk, .inl rfl⟩, rfl⟩
    · exact hret _ _ _ _ (by k_asm) (by k_asm) ⟨rfl, _, ⟨_, _, _, _, _, _, _, _, _, _, _, rfl, hsk, .inl rfl⟩, rfl⟩
  · unfold Ct
    k_fill
    intro loose mean mg mb dp un gd cn cs a ccd cl outer A₀ base h₀ L m s Q E B F X N T hk hd hu hret
    refine wpAny_call ?_
    k_dflt (refine' code_def (binds := [(Str.ofString "self", .ref x), (Str.ofString "at", .int i t)]) ?k1 ?k2 ?k3 ?k4 ?k5 ?kA ?kF ?kK ?k6 ?k7 ?k8 ?k9 ?kB ?_ ?c2 ?c3 ?c4 ?c5; (case kA => exact rfl); (case kF => exact rfl); (case kK => assumption); (case k1 => k_asm); (case k2 => k_asm); (case k3 => k_asm); (case k4 => k_asm); (case k5 => k_asm); (case k6 => k_is); (case k7 => k_is); (case k8 => ktr_room); (case k9 => exact BindsTo.of_eq rfl); (case c5 => decide); (case kB => exact locs rfl); (case c2 => exact rfl); (case c3 => exact rfl); (case c4 => exact rfl); k_whole)
    intro g' L' h' FG' F' N' B' X' T'
    dsimp only
    (try k_fold)
    (repeat' (first | (k_unfold; (try dsimp only)) | (k_end; kc_close) | (with_reducible first | (k_here; (show wpAny _ _ (call (Value.ref 69) _) _ _ _); (try k_fold); (k_dflt (refine' Ct.use (lies_at_ct _ _ _ _ _ _ _ _ _ _ (by assumption) (by assumption) (by omega) (by omega) (by omega)) ?k1 ?k2 ?k3 ?k4 ?k5 ?kK ?kd ?ku ?_; (case k1 => k_asm); (case k2 => k_asm); (case k3 => k_asm); (case k4 => k_asm); (case k5 => k_asm); (case kK => first | exact rfl | assumption); (case kd => ktr_room); (case ku => ktr_units))); (intro _ _ _ _ _ _ hp9; obtain ⟨he9, hr9⟩ := hp9; subst he9; subst hr9); (try dsimp only); (try k_fold)) | ((show wpAny _ _ (eval (Expr.Constant (Const.int _) _ _) _) _ _ _); refine flat_int ?_) | ((show wpAny _ _ (binaryOp Operator.Add (Value.int _ _) (Value.int _ _)) _ _ _); refine flat_add ?_) | ((show wpAny _ _ (binaryOp Operator.Sub (Value.int _ _) (Value.int _ _)) _ _ _); refine flat_sub ?_) | ((show wpAny _ _ (eval (Expr.BinOp _ _ _ _) _) _ _ _); k_fold; k_dflt walk1) | ((show wpAny _ _ (eval (Expr.Compare _ _ _ _) _) _ _ _); k_fold; k_dflt walk1)) | walk1 | (dsimp only; first | (with_reducible first | (k_here; (show wpAny _ _ (call (Value.ref 69) _) _ _ _); (try k_fold); (k_dflt (refine' Ct.use (lies_at_ct _ _ _ _ _ _ _ _ _ _ (by assumption) (by assumption) (by omega) (by omega) (by omega)) ?k1 ?k2 ?k3 ?k4 ?k5 ?kK ?kd ?ku ?_; (case k1 => k_asm); (case k2 => k_asm); (case k3 => k_asm); (case k4 => k_asm); (case k5 => k_asm); (case kK => first | exact rfl | assumption); (case kd => ktr_room); (case ku => ktr_units))); (intro _ _ _ _ _ _ hp9; obtain ⟨he9, hr9⟩ := hp9; subst he9; subst hr9); (try dsimp only); (try k_fold))) | walk1) | (leave1; walk_say "STEP leave1"; try dsimp only) | fail "no step"))
    · exact hret _ _ _ _ (by k_asm) (by k_asm) ⟨rfl, _, ⟨_, _, _, _, _, _, _, _, _, _, _, rfl, hsk, .inr ⟨_, _, rfl⟩⟩, rfl⟩
/-- does the seeker fit at the place i -/
noncomputable def fits (ko : List Int) (c : Option Int) (b e : Int) (i : Nat) : Bool := decide (b ≤ (i : Int) ∧ (i : Int) < e ∧ ∀ c' ∈ c, ko[i]? = some c')
theorem is_fit_ct (w : World) (x d : Addr) (c : Option Int) (b e : Int) (es : List DictEntry) (o : Array UInt8) (ko : List Int) (i : Nat) (t t1 : Tok) (rest : List (Addr × Obj)) (hs : SeekIs w.params c b e es) (hxd : x ≠ d) (hr : ∀ p ∈ rest, p.1 ≠ d)
    (ho : KBw.bInts o = ko) (hz : ko.length ≤ 1000) (hi : i ≤ 1000) :
    Ct w 125 [.ref x, .bytes o t1, .int i t] 3 24 ((x, instObj 135 d) :: (d, dictOf es 6) :: rest) (Pure ((x, instObj 135 d) :: (d, dictOf es 6) :: rest) fun r => r = .bool (fits ko c b e i)) := by
  obtain ⟨k1, k2, k3, k4, k5, k6, vk, vw, tb, te, vl, rfl, hsk, hl⟩ := hs
  cases c with
  | some c =>
    obtain ⟨⟨t2, rfl⟩, y, t3, rfl, hy⟩ := hsk
    unfold Ct
    k_fill
    intro loose mean mg mb dp un gd cn cs a ccd cl outer A₀ base h₀ L m s Q E B F X N T hk hd hu hret
    have hx' : ∃ kx, KBw.bInts y = kx ∧ kx.length = 1 := ⟨_, hy, rfl⟩
    obtain ⟨kx, hkx, hkl⟩ := hx'
    refine wpAny_call ?_
    k_dflt (refine' code_def (binds := [(Str.ofString "self", .ref x), (Str.ofString "octets", .bytes o t1), (Str.ofString "at", .int i t)]) ?k1 ?k2 ?k3 ?k4 ?k5 ?kA ?kF ?kK ?k6 ?k7 ?k8 ?k9 ?kB ?_ ?c2 ?c3 ?c4 ?c5; (case kA => exact rfl); (case kF => exact rfl); (case kK => assumption); (case k1 => k_asm); (case k2 => k_asm); (case k3 => k_asm); (case k4 => k_asm); (case k5 => k_asm); (case k6 => k_is); (case k7 => k_is); (case k8 => ktr_room); (case k9 => exact BindsTo.of_eq rfl); (case c5 => decide); (case kB => exact locs rfl); (case c2 => exact rfl); (case c3 => exact rfl); (case c4 => exact rfl); k_whole)
    intro g' L' h' FG' F' N' B' X' T'
    dsimp only
    (try k_fold)
    (repeat' (first | (k_unfold; (try dsimp only)) | (k_end; kc_close) | (with_reducible first | (k_here; (show wpAny _ _ (call (Value.ref 69) _) _ _ _); (try k_fold); (k_dflt (refine' Ct.use (lies_at_ct _ _ _ _ _ _ _ _ _ _ (by assumption) (by assumption) (by omega) (by omega) (by omega)) ?k1 ?k2 ?k3 ?k4 ?k5 ?kK ?kd ?ku ?_; (case k1 => k_asm); (case k2 => k_asm); (case k3 => k_asm); (case k4 => k_asm); (case k5 => k_asm); (case kK => first | exact rfl | assumption); (case kd => ktr_room); (case ku => ktr_units))); (intro _ _ _ _ _ _ hp9; obtain ⟨he9, hr9⟩ := hp9; subst he9; subst hr9); (try dsimp only); (try k_fold)) | ((show wpAny _ _ (eval (Expr.Constant (Const.int _) _ _) _) _ _ _); refine flat_int ?_) | ((show wpAny _ _ (binaryOp Operator.Add (Value.int _ _) (Value.int _ _)) _ _ _); refine flat_add ?_) | ((show wpAny _ _ (binaryOp Operator.Sub (Value.int _ _) (Value.int _ _)) _ _ _); refine flat_sub ?_) | ((show wpAny _ _ (eval (Expr.BinOp _ _ _ _) _) _ _ _); k_fold; k_dflt walk1) | ((show wpAny _ _ (eval (Expr.Compare _ _ _ _) _) _ _ _); k_fold; k_dflt walk1)) | walk1 | (dsimp only; first | (with_reducible first | (k_here; (show wpAny _ _ (call (Value.ref 69) _) _ _ _); (try k_fold); (k_dflt (refine' Ct.use (lies_at_ct _ _ _ _ _ _ _ _ _ _ (by assumption) (by assumption) (by omega) (by omega) (by omega)) ?k1 ?k2 ?k3 ?k4 ?k5 ?kK ?kd ?ku ?_; (case k1 => k_asm); (case k2 => k_asm); (case k3 => k_asm); (case k4 => k_asm); (case k5 => k_asm); (case kK => first | exact rfl | assumption); (case kd => ktr_room); (case ku => ktr_units))); (intro _ _ _ _ _ _ hp9; obtain ⟨he9, hr9⟩ := hp9; subst he9; subst hr9); (try dsimp only); (try k_fold))) | walk1) | (leave1; walk_say "STEP leave1"; try dsimp only) | fail "no step"))
    · exact hret _ _ _ _ (by k_asm) (by k_asm) ⟨rfl, congrArg Value.bool (decide_eq_false fun h => by have := h.1; have := h.2.1; omega).symm⟩
    · refine hret _ _ _ _ (by k_asm) (by k_asm) ⟨rfl, congrArg Value.bool ?_⟩
      unfold fits
      rw [decide_eq_decide]
      constructor
      · intro h
        exact ⟨by omega, by omega, fun c' hc => by cases hc; exact h⟩
      · intro h
        exact h.2.2 c rfl
    · exact hret _ _ _ _ (by k_asm) (by k_asm) ⟨rfl, congrArg Value.bool (decide_eq_false fun h => by have := h.1; have := h.2.1; omega).symm⟩
  | none =>
    obtain ⟨⟨t2, rfl⟩, rfl⟩ := hsk
    unfold Ct
    k_fill
    intro loose mean mg mb dp un gd cn cs a ccd cl outer A₀ base h₀ L m s Q E B F X N T hk hd hu hret
    refine wpAny_call ?_
    k_dflt (refine' code_def (binds := [(Str.ofString "self", .ref x), (Str.ofString "octets", .bytes o t1), (Str.ofString "at", .int i t)]) ?k1 ?k2 ?k3 ?k4 ?k5 ?kA ?kF ?kK ?k6 ?k7 ?k8 ?k9 ?kB ?_ ?c2 ?c3 ?c4 ?c5; (case kA => exact rfl); (case kF => exact rfl); (case kK => assumption); (case k1 => k_asm); (case k2 => k_asm); (case k3 => k_asm); (case k4 => k_asm); (case k5 => k_asm); (case k6 => k_is); (case k7 => k_is); (case k8 => ktr_room); (case k9 => exact BindsTo.of_eq rfl); (case c5 => decide); (case kB => exact locs rfl); (case c2 => exact rfl); (case c3 => exact rfl); (case c4 => exact rfl); k_whole)
    intro g' L' h' FG' F' N' B' X' T'
    dsimp only
    (try k_fold)
    (repeat' (first | (k_unfold; (try dsimp only)) | (k_end; kc_close) | (with_reducible first | (k_here; (show wpAny _ _ (call (Value.ref 69) _) _ _ _); (try k_fold); (k_dflt (refine' Ct.use (lies_at_ct _ _ _ _ _ _ _ _ _ _ (by assumption) (by assumption) (by omega) (by omega) (by omega)) ?k1 ?k2 ?k3 ?k4 ?k5 ?kK ?kd ?ku ?_; (case k1 => k_asm); (case k2 => k_asm); (case k3 => k_asm); (case k4 => k_asm); (case k5 => k_asm); (case kK => first | exact rfl | assumption); (case kd => ktr_room); (case ku => ktr_units))); (intro _ _ _ _ _ _ hp9; obtain ⟨he9, hr9⟩ := hp9; subst he9; subst hr9); (try dsimp only); (try k_fold)) | ((show wpAny _ _ (eval (Expr.Constant (Const.int _) _ _) _) _ _ _); refine flat_int ?_) | ((show wpAny _ _ (binaryOp Operator.Add (Value.int _ _) (Value.int _ _)) _ _ _); refine flat_add ?_) | ((show wpAny _ _ (binaryOp Operator.Sub (Value.int _ _) (Value.int _ _)) _ _ _); refine flat_sub ?_) | ((show wpAny _ _ (eval (Expr.BinOp _ _ _ _) _) _ _ _); k_fold; k_dflt walk1) | ((show wpAny _ _ (eval (Expr.Compare _ _ _ _) _) _ _ _); k_fold; k_dflt walk1)) | walk1 | (dsimp only; first | (with_reducible first | (k_here; (show wpAny _ _ (call (Value.ref 69) _) _ _ _); (try k_fold); (k_dflt (refine' Ct.use (lies_at_ct _ _ _ _ _ _ _ _ _ _ (by assumption) (by assumption) (by omega) (by omega) (by omega)) ?k1 ?k2 ?k3 ?k4 ?k5 ?kK ?kd ?ku ?_; (case k1 => k_asm); (case k2 => k_asm); (case k3 => k_asm); (case k4 => k_asm); (case k5 => k_asm); (case kK => first | exact rfl | assumption); (case kd => ktr_room); (case ku => ktr_units))); (intro _ _ _ _ _ _ hp9; obtain ⟨he9, hr9⟩ := hp9; subst he9; subst hr9); (try dsimp only); (try k_fold))) | walk1) | (leave1; walk_say "STEP leave1"; try dsimp only) | fail "no step"))
    · exact hret _ _ _ _ (by k_asm) (by k_asm) ⟨rfl, congrArg Value.bool (decide_eq_false fun h => by have := h.1; have := h.2.1; omega).symm⟩
    · exact hret _ _ _ _ (by k_asm) (by k_asm) ⟨rfl, congrArg Value.bool (decide_eq_true ⟨by omega, by omega, fun _ h => nomatch h⟩).symm⟩
    · exact hret _ _ _ _ (by k_asm) (by k_asm) ⟨rfl, congrArg Value.bool (decide_eq_false fun h => by have := h.1; have := h.2.1; omega).symm⟩
theorem took_ct (w : World) (x d : Addr) (c : Option Int) (b e : Int) (es : List DictEntry) (i : Int) (t : Tok) (rest : List (Addr × Obj)) (hs : SeekIs w.params c b e es) (hxd : x ≠ d) (hr : ∀ p ∈ rest, p.1 ≠ d) :
    Ct w 132 [.ref x, .int i t] 3 24 ((x, instObj 135 d) :: (d, dictOf es 6) :: rest) (fun r news' => r = .none ∧ ∃ es', SeekIs w.params c b e es' ∧ news' = (x, instObj 135 d) :: (d, dictOf es' 6) :: rest) := by
  obtain ⟨k1, k2, k3, k4, k5, k6, vk, vw, tb, te, vl, rfl, hsk, hl⟩ := hs
  cases c with
  | some c =>
    obtain ⟨⟨t2, rfl⟩, y, t3, rfl, hy⟩ := id hsk
    unfold Ct
    k_fill
    intro loose mean mg mb dp un gd cn cs a ccd cl outer A₀ base h₀ L m s Q E B F X N T hk hd hu hret
    have hx' : ∃ kx, KBw.bInts y = kx ∧ kx.length = 1 := ⟨_, hy, rfl⟩
    obtain ⟨kx, hkx, hkl⟩ := hx'
    refine wpAny_call ?_
    k_dflt (refine' code_def (binds := [(Str.ofString "self", .ref x), (Str.ofString "at", .int i t)]) ?k1 ?k2 ?k3 ?k4 ?k5 ?kA ?kF ?kK ?k6 ?k7 ?k8 ?k9 ?kB ?_ ?c2 ?c3 ?c4 ?c5; (case kA => exact rfl); (case kF => exact rfl); (case kK => assumption); (case k1 => k_asm); (case k2 => k_asm); (case k3 => k_asm); (case k4 => k_asm); (case k5 => k_asm); (case k6 => k_is); (case k7 => k_is); (case k8 => ktr_room); (case k9 => exact BindsTo.of_eq rfl); (case c5 => decide); (case kB => exact locs rfl); (case c2 => exact rfl); (case c3 => exact rfl); (case c4 => exact rfl); k_whole)
    intro g' L' h' FG' F' N' B' X' T'
    dsimp only
    (try k_fold)
    (repeat' (first | (k_unfold; (try dsimp only)) | (k_end; kc_close) | (with_reducible first | (k_here; (show wpAny _ _ (call (Value.ref 69) _) _ _ _); (try k_fold); (k_dflt (refine' Ct.use (lies_at_ct _ _ _ _ _ _ _ _ _ _ (by assumption) (by assumption) (by omega) (by omega) (by omega)) ?k1 ?k2 ?k3 ?k4 ?k5 ?kK ?kd ?ku ?_; (case k1 => k_asm); (case k2 => k_asm); (case k3 => k_asm); (case k4 => k_asm); (case k5 => k_asm); (case kK => first | exact rfl | assumption); (case kd => ktr_room); (case ku => ktr_units))); (intro _ _ _ _ _ _ hp9; obtain ⟨he9, hr9⟩ := hp9; subst he9; subst hr9); (try dsimp only); (try k_fold)) | ((show wpAny _ _ (eval (Expr.Constant (Const.int _) _ _) _) _ _ _); refine flat_int ?_) | ((show wpAny _ _ (binaryOp Operator.Add (Value.int _ _) (Value.int _ _)) _ _ _); refine flat_add ?_) | ((show wpAny _ _ (binaryOp Operator.Sub (Value.int _ _) (Value.int _ _)) _ _ _); refine flat_sub ?_) | ((show wpAny _ _ (eval (Expr.BinOp _ _ _ _) _) _ _ _); k_fold; k_dflt walk1) | ((show wpAny _ _ (eval (Expr.Compare _ _ _ _) _) _ _ _); k_fold; k_dflt walk1)) | walk1 | (dsimp only; first | (with_reducible first | (k_here; (show wpAny _ _ (call (Value.ref 69) _) _ _ _); (try k_fold); (k_dflt (refine' Ct.use (lies_at_ct _ _ _ _ _ _ _ _ _ _ (by assumption) (by assumption) (by omega) (by omega) (by omega)) ?k1 ?k2 ?k3 ?k4 ?k5 ?kK ?kd ?ku ?_; (case k1 => k_asm); (case k2 => k_asm); (case k3 => k_asm); (case k4 => k_asm); (case k5 => k_asm); (case kK => first | exact rfl | assumption); (case kd => ktr_room); (case ku => ktr_units))); (intro _ _ _ _ _ _ hp9; obtain ⟨he9, hr9⟩ := hp9; subst he9; subst hr9); (try dsimp only); (try k_fold))) | walk1) | (leave1; walk_say "STEP leave1"; try dsimp only) | fail "no step"))
    · exact hret _ _ _ _ (by k_asm) (by k_asm) ⟨rfl, _, ⟨_, _, _, _, _, _, _, _, _, _, _, rfl, hsk, .inr ⟨_, _, rfl⟩⟩, rfl⟩
  | none =>
    obtain ⟨⟨t2, rfl⟩, rfl⟩ := id hsk
    unfold Ct
    k_fill
    intro loose mean mg mb dp un gd cn cs a ccd cl outer A₀ base h₀ L m s Q E B F X N T hk hd hu hret
    refine wpAny_call ?_
    k_dflt (refine' code_def (binds := [(Str.ofString "self", .ref x), (Str.ofString "at", .int i t)]) ?k1 ?k2 ?k3 ?k4 ?k5 ?kA ?kF ?kK ?k6 ?k7 ?k8 ?k9 ?kB ?_ ?c2 ?c3 ?c4 ?c5; (case kA => exact rfl); (case kF => exact rfl); (case kK => assumption); (case k1 => k_asm); (case k2 => k_asm); (case k3 => k_asm); (case k4 => k_asm); (case k5 => k_asm); (case k6 => k_is); (case k7 => k_is); (case k8 => ktr_room); (case k9 => exact BindsTo.of_eq rfl); (case c5 => decide); (case kB => exact locs rfl); (case c2 => exact rfl); (case c3 => exact rfl); (case c4 => exact rfl); k_whole)
    intro g' L' h' FG' F' N' B' X' T'
    dsimp only
    (try k_fold)
    (repeat' (first | (k_unfold; (try dsimp only)) | (k_end; kc_close) | (with_reducible first | (k_here; (show wpAny _ _ (call (Value.ref 69) _) _ _ _); (try k_fold); (k_dflt (refine' Ct.use (lies_at_ct _ _ _ _ _ _ _ _ _ _ (by assumption) (by assumption) (by omega) (by omega) (by omega)) ?k1 ?k2 ?k3 ?k4 ?k5 ?kK ?kd ?ku ?_; (case k1 => k_asm); (case k2 => k_asm); (case k3 => k_asm); (case k4 => k_asm); (case k5 => k_asm); (case kK => first | exact rfl | assumption); (case kd => ktr_room); (case ku => ktr_units))); (intro _ _ _ _ _ _ hp9; obtain ⟨he9, hr9⟩ := hp9; subst he9; subst hr9); (try dsimp only); (try k_fold)) | ((show wpAny _ _ (eval (Expr.Constant (Const.int _) _ _) _) _ _ _); refine flat_int ?_) | ((show wpAny _ _ (binaryOp Operator.Add (Value.int _ _) (Value.int _ _)) _ _ _); refine flat_add ?_) | ((show wpAny _ _ (binaryOp Operator.Sub (Value.int _ _) (Value.int _ _)) _ _ _); refine flat_sub ?_) | ((show wpAny _ _ (eval (Expr.BinOp _ _ _ _) _) _ _ _); k_fold; k_dflt walk1) | ((show wpAny _ _ (eval (Expr.Compare _ _ _ _) _) _ _ _); k_fold; k_dflt walk1)) | walk1 | (dsimp only; first | (with_reducible first | (k_here; (show wpAny _ _ (call (Value.ref 69) _) _ _ _); (try k_fold); (k_dflt (refine' Ct.use (lies_at_ct _ _ _ _ _ _ _ _ _ _ (by assumption) (by assumption) (by omega) (by omega) (by omega)) ?k1 ?k2 ?k3 ?k4 ?k5 ?kK ?kd ?ku ?_; (case k1 => k_asm); (case k2 => k_asm); (case k3 => k_asm); (case k4 => k_asm); (case k5 => k_asm); (case kK => first | exact rfl | assumption); (case kd => ktr_room); (case ku => ktr_units))); (intro _ _ _ _ _ _ hp9; obtain ⟨he9, hr9⟩ := hp9; subst he9; subst hr9); (try dsimp only); (try k_fold))) | walk1) | (leave1; walk_say "STEP leave1"; try dsimp only) | fail "no step"))
    · exact hret _ _ _ _ (by k_asm) (by k_asm) ⟨rfl, _, ⟨_, _, _, _, _, _, _, _, _, _, _, rfl, hsk, .inr ⟨_, _, rfl⟩⟩, rfl⟩


/-- the seekers of a call, in the ledger -/
inductive SeekL (P : Params) (b e : Int) : List (Option Int) → List Addr → List (Addr × Obj) → Prop
  | nil : SeekL P b e [] [] []
  | cons {c : Option Int} {cs : List (Option Int)} {x d : Addr} {es : List DictEntry} {xs : List Addr} {led : List (Addr × Obj)} : SeekIs P c b e es → x ≠ d → (∀ p ∈ led, p.1 ≠ x ∧ p.1 ≠ d) → SeekL P b e cs xs led →
      SeekL P b e (c :: cs) (x :: xs) ((x, instObj 135 d) :: (d, dictOf es 6) :: led)
theorem SeekL.len {P : Params} {b e : Int} {cs : List (Option Int)} {xs : List Addr} {led : List (Addr × Obj)} (H : SeekL P b e cs xs led) : xs.length = cs.length := by
  induction H with
  | nil => rfl
  | cons _ _ _ _ ih => simp [ih]
theorem SeekL.at {P : Params} {b e : Int} {cs : List (Option Int)} {xs : List Addr} {led : List (Addr × Obj)} (H : SeekL P b e cs xs led) : ∀ {j : Nat} {c : Option Int}, cs[j]? = some c →
    ∃ x d es pre post, xs[j]? = some x ∧ led = pre ++ (x, instObj 135 d) :: (d, dictOf es 6) :: post ∧ SeekIs P c b e es ∧ x ≠ d ∧ (∀ p ∈ pre ++ post, p.1 ≠ x ∧ p.1 ≠ d) ∧
      ∀ es', SeekIs P c b e es' → SeekL P b e cs xs (pre ++ (x, instObj 135 d) :: (d, dictOf es' 6) :: post) := by
  induction H with
  | nil => intro j c h; simp at h
  | @cons c₀ cs x₀ d₀ es₀ xs led hs hxd hsep H ih =>
    intro j c h
    cases j with
    | zero =>
      obtain rfl : c₀ = c := by simpa using h
      exact ⟨x₀, d₀, es₀, [], led, rfl, rfl, hs, hxd, hsep, fun es' hs' => .cons hs' hxd hsep H⟩
    | succ j =>
      obtain ⟨x, d, es, pre, post, h1, rfl, h3, h4, h5, h6⟩ := ih (j := j) (c := c) (by simpa using h)
      have hx := hsep (x, instObj 135 d) (by simp)
      have hd := hsep (d, dictOf es 6) (by simp)
      refine ⟨x, d, es, (x₀, instObj 135 d₀) :: (d₀, dictOf es₀ 6) :: pre, post, by simpa using h1, rfl, h3, h4, ?_, ?_⟩
      · intro p hp
        rcases List.mem_cons.mp hp with rfl | hp
        · exact ⟨Ne.symm hx.1, Ne.symm hd.1⟩
        · rcases List.mem_cons.mp hp with rfl | hp
          · exact ⟨Ne.symm hx.2, Ne.symm hd.2⟩
          · exact h5 p hp
      · intro es' hs'
        refine .cons hs hxd ?_ (h6 es' hs')
        intro p hp
        rcases List.mem_append.mp hp with hp | hp
        · exact hsep p (List.mem_append_left _ hp)
        · rcases List.mem_cons.mp hp with rfl | hp
          · exact hx
          · rcases List.mem_cons.mp hp with rfl | hp
            · exact hd
            · exact hsep p (List.mem_append_right _ (List.mem_cons_of_mem _ (List.mem_cons_of_mem _ hp)))
theorem Ct.perm {w : World} {f : Addr} {vs : List Value} {d u : Nat} {n1 n2 : List (Addr × Obj)} {P1 P2 : Value → List (Addr × Obj) → Prop} (C : Ct w f vs d u n1 P1) (h : ∀ p ∈ n1, p ∈ n2)
    (hp : ∀ r m1, P1 r m1 → ∃ m2, (∀ p ∈ m2, p ∈ m1) ∧ P2 r m2) : Ct w f vs d u n2 P2 := by
  unfold Ct
  intro loose mean mg mb dp un gd cn cs a ccd cl outer A₀ base h₀ L m s Q E B F X N T hk hd hu hret
  refine C.use B F X (fun p hp => N p (h p hp)) T hk hd hu fun r m1 h' tk' F' N' hP => ?_
  obtain ⟨m2, hs, hP2⟩ := hp r m1 hP
  exact hret r m2 h' tk' F' (fun p hp => N' p (hs p hp)) hP2
section
variable {w : World} {b e : Int} {cs : List (Option Int)} {xs : List Addr} {led hd tl : List (Addr × Obj)} {j : Nat} {c : Option Int} {x : Addr}
theorem seek_perm {pre post : List (Addr × Obj)} {a z : Addr × Obj} : (∀ p ∈ a :: z :: (pre ++ post ++ (hd ++ tl)), p ∈ hd ++ ((pre ++ a :: z :: post) ++ tl)) ∧ (∀ p ∈ hd ++ ((pre ++ a :: z :: post) ++ tl), p ∈ a :: z :: (pre ++ post ++ (hd ++ tl))) := by
  constructor <;> intro p hp <;> simp only [List.mem_append, List.mem_cons] at hp ⊢ <;> grind
/-- what stands at the j-th seeker -/
inductive SeekAt (P : Params) (b e : Int) (c : Option Int) (x : Addr) (news : List (Addr × Obj)) : Prop
  | mk (d : Addr) (es : List DictEntry) (h1 : (x, instObj 135 d) ∈ news) (h2 : (d, dictOf es 6) ∈ news) (h3 : SeekIs P c b e es) : SeekAt P b e c x news
theorem SeekL.here {P : Params} (H : SeekL P b e cs xs led) (hj : cs[j]? = some c) (hx : xs[j]? = some x) : SeekAt P b e c x (hd ++ (led ++ tl)) := by
  obtain ⟨x', d, es, pre, post, h1, rfl, h3, h4, h5, h6⟩ := H.at hj
  obtain rfl : x' = x := Option.some.inj (h1.symm.trans hx)
  exact ⟨d, es, by simp, by simp, h3⟩
theorem sep_map {l l' k : List (Addr × Obj)} (e : l'.map (·.1) = l.map (·.1)) (h : ∀ p ∈ k, ∀ q ∈ l, p.1 ≠ q.1) : ∀ p ∈ k, ∀ q ∈ l', p.1 ≠ q.1 := by
  intro p hp q hq
  have : q.1 ∈ l.map (·.1) := e ▸ List.mem_map_of_mem hq
  obtain ⟨q', hq', h2⟩ := List.mem_map.mp this
  exact h2 ▸ h p hp q' hq'
theorem reach_led (H : SeekL w.params b e cs xs led) (hj : cs[j]? = some c) (hx : xs[j]? = some x) (hsep : ∀ p ∈ hd ++ tl, ∀ q ∈ led, p.1 ≠ q.1) (i : Int) (t : Tok) :
    Ct w 118 [.ref x, .int i t] 2 16 (hd ++ (led ++ tl)) (fun r news' => r = .none ∧ ∃ led', SeekL w.params b e cs xs led' ∧ led'.map (·.1) = led.map (·.1) ∧ news' = hd ++ (led' ++ tl) ∧ (∀ p ∈ hd ++ tl, ∀ q ∈ led', p.1 ≠ q.1) ∧ SeekAt w.params b e c x (hd ++ (led' ++ tl))) := by
  obtain ⟨x', d, es, pre, post, h1, rfl, h3, h4, h5, h6⟩ := H.at hj
  obtain rfl : x' = x := Option.some.inj (h1.symm.trans hx)
  refine (reach_ct w x' d c b e es i t (pre ++ post ++ (hd ++ tl)) h3 h4 ?_).perm seek_perm.1 ?_
  · intro p hp
    rcases List.mem_append.mp hp with hp | hp
    · exact (h5 p hp).2
    · exact hsep p hp (d, dictOf es 6) (by simp)
  · rintro r m1 ⟨rfl, es', hs', rfl⟩
    exact ⟨_, seek_perm.2, rfl, _, h6 es' hs', by simp, rfl, sep_map (by simp) hsep, (h6 es' hs').here hj hx⟩
theorem took_led (H : SeekL w.params b e cs xs led) (hj : cs[j]? = some c) (hx : xs[j]? = some x) (hsep : ∀ p ∈ hd ++ tl, ∀ q ∈ led, p.1 ≠ q.1) (i : Int) (t : Tok) :
    Ct w 132 [.ref x, .int i t] 3 24 (hd ++ (led ++ tl)) (fun r news' => r = .none ∧ ∃ led', SeekL w.params b e cs xs led' ∧ led'.map (·.1) = led.map (·.1) ∧ news' = hd ++ (led' ++ tl) ∧ (∀ p ∈ hd ++ tl, ∀ q ∈ led', p.1 ≠ q.1) ∧ SeekAt w.params b e c x (hd ++ (led' ++ tl))) := by
  obtain ⟨x', d, es, pre, post, h1, rfl, h3, h4, h5, h6⟩ := H.at hj
  obtain rfl : x' = x := Option.some.inj (h1.symm.trans hx)
  refine (took_ct w x' d c b e es i t (pre ++ post ++ (hd ++ tl)) h3 h4 ?_).perm seek_perm.1 ?_
  · intro p hp
    rcases List.mem_append.mp hp with hp | hp
    · exact (h5 p hp).2
    · exact hsep p hp (d, dictOf es 6) (by simp)
  · rintro r m1 ⟨rfl, es', hs', rfl⟩
    exact ⟨_, seek_perm.2, rfl, _, h6 es' hs', by simp, rfl, sep_map (by simp) hsep, (h6 es' hs').here hj hx⟩
theorem is_fit_led (H : SeekL w.params b e cs xs led) (hj : cs[j]? = some c) (hx : xs[j]? = some x) (hsep : ∀ p ∈ hd ++ tl, ∀ q ∈ led, p.1 ≠ q.1) {o : Array UInt8} {ko : List Int} (i : Nat) (t t1 : Tok) (ho : KBw.bInts o = ko) (hz : ko.length ≤ 1000) (hi : i ≤ 1000) :
    Ct w 125 [.ref x, .bytes o t1, .int i t] 3 24 (hd ++ (led ++ tl)) (Pure (hd ++ (led ++ tl)) fun r => r = .bool (fits ko c b e i)) := by
  obtain ⟨x', d, es, pre, post, h1, rfl, h3, h4, h5, h6⟩ := H.at hj
  obtain rfl : x' = x := Option.some.inj (h1.symm.trans hx)
  refine (is_fit_ct w x' d c b e es o ko i t t1 (pre ++ post ++ (hd ++ tl)) h3 h4 ?_ ho hz hi).perm seek_perm.1 ?_
  · intro p hp
    rcases List.mem_append.mp hp with hp | hp
    · exact (h5 p hp).2
    · exact hsep p hp (d, dictOf es 6) (by simp)
  · rintro r m1 ⟨rfl, hr⟩
    exact ⟨_, seek_perm.2, rfl, hr⟩
theorem width_led (H : SeekL w.params b e cs xs led) (hj : cs[j]? = some c) (hx : xs[j]? = some x) :
    Ct w 111 [.ref x] 2 16 (hd ++ (led ++ tl)) (Pure (hd ++ (led ++ tl)) fun r => ∃ t, r = .int 1 t) := by
  obtain ⟨x', d, es, pre, post, h1, rfl, h3, h4, h5, h6⟩ := H.at hj
  obtain rfl : x' = x := Option.some.inj (h1.symm.trans hx)
  refine (width_ct w x' d c b e es (pre ++ post ++ (hd ++ tl)) h3).perm seek_perm.1 ?_
  rintro r m1 ⟨rfl, hr⟩
  exact ⟨_, seek_perm.2, rfl, hr⟩
end
section
open PySem.Spec
variable {prog : Program} {w : World} {A : Around} {E : Value → Shared → Prop} {s : Shared} {env : Env} {h₀ : Heap} {xi xc : Str} {body : List Stmt} {Q : Flow → Shared → Prop}
/-- for number, item in enumerate(a list of the ledger) -/
theorem enum_list {l : Addr} {items : Array Value} {m₀ : Str → Option Value} {news : List (Addr × Obj)} (J : Nat → (Str → Option Value) → List (Addr × Obj) → Prop)
    (hh : A.handled = none) (hl : s.heap.IsList l items) (hl0 : h₀.get? l = none) (hlL : l ≠ env.locals) (F : Fr h₀ env.locals s.heap m₀) (N : News h₀ env.locals s.heap news) (hj : J 0 m₀ news)
    (turn : ∀ i v t m₁ news₁ h tk own, items[i]? = some v → J i m₁ news₁ → news₁.map (·.1) = news.map (·.1) → (∀ p ∈ own, ∀ a ∈ news.map (·.1), a ≠ l → p.1 ≠ a) → Fr h₀ env.locals h (fun y => if y = xc then some v else if y = xi then some (.int i t) else m₁ y) → News h₀ env.locals h (news₁ ++ own) →
      wpAny (model prog w) A (execs body env) (PairEnd h₀ env.locals (news.map (·.1)) own (J (i + 1)) { s with heap := h, toks := tk } Q) E { s with heap := h, toks := tk })
    (done : ∀ m₁ news₁ h tk, J items.size m₁ news₁ → news₁.map (·.1) = news.map (·.1) → Fr h₀ env.locals h m₁ → News h₀ env.locals h news₁ → Q .next { s with heap := h, toks := tk }) :
    wpAny (model prog w) A (call (.type "enumerate") [.ref l]) (fun xv s₁ => wpAny (model prog w) A (pyIter xv) (fun it s₂ => PairAt3 prog w A h₀ env xi xc body Q E it s₂) E s₁) E s := by
  obtain ⟨ol, hol, _⟩ := id hl
  have hls : l < s.heap.objs.size := Heap.lt_size hol
  refine call_enumerate_list hl fun h' he hit hsz hk => ?_
  have hLs : env.locals < s.heap.objs.size := F.ns.lt
  have hab : h₀.objs.size ≤ env.locals := F.above
  have hlt : ∀ p ∈ news, p.1 < s.heap.objs.size := fun p hp => Heap.lt_size (N p hp).1
  refine pair_enum J (Draws.list (A := A.in1) hh s.heap.objs.size l (Nat.ne_of_lt hls) items) he ⟨hit, hl.at fun o e => hk l o e⟩ (Nat.succ_ne_self _) ?_ (by simp) ?_
    (Heap.get?_none_of_le (Nat.le_trans hab (Nat.le_of_lt (Nat.lt_succ_of_lt hLs)))) (Heap.get?_none_of_le (Nat.le_trans hab (Nat.le_of_lt hLs)))
    (fun p hp => ⟨Nat.ne_of_lt (Nat.lt_succ_of_lt (hlt p hp)), Nat.ne_of_lt (hlt p hp)⟩) ⟨F.ns.keeps hk, fun b o e => hk b o (F.keep b o e), F.above⟩ (fun p hp => ⟨hk _ _ (N p hp).1, (N p hp).2⟩) hj ?_ done
  · intro hm
    rcases List.mem_cons.mp hm with e | hm
    · exact Nat.succ_ne_self _ e
    · exact Nat.ne_of_gt (Nat.lt_succ_of_lt hls) (List.mem_singleton.mp hm)
  · intro hm
    rcases List.mem_cons.mp hm with e | hm
    · exact Nat.ne_of_lt (Nat.lt_succ_of_lt hLs) e
    · rcases List.mem_cons.mp hm with e | hm
      · exact Nat.ne_of_lt hLs e
      · exact hlL (List.mem_singleton.mp hm).symm
  · rintro i v t' m₁ news₁ h tk own hi hP hJ ha ho F₁ N₁
    refine turn i v t' m₁ news₁ h tk own hP hJ ha (fun p hp b hb hbl e => ?_) F₁ N₁
    obtain ⟨q, hq, rfl⟩ := List.mem_map.mp hb
    rcases List.mem_cons.mp (ho p hp) with e1 | e1
    · have : s.heap.objs.size + 1 = q.1 := e1.symm.trans e
      exact absurd (hlt q hq) (Nat.not_lt.mpr (this ▸ Nat.le_succ _))
    · rcases List.mem_cons.mp e1 with e1 | e1
      · have : s.heap.objs.size = q.1 := e1.symm.trans e
        exact absurd (hlt q hq) (Nat.not_lt.mpr (this ▸ Nat.le_refl _))
      · exact hbl (e.symm.trans (List.mem_singleton.mp e1))
end
/-- the first row that fits at each place -/
noncomputable def fitsL (ko : List Int) (cs : List (Option Int)) (b e : Int) (k : Nat) : List (Nat × Nat) := (List.range k).filterMap fun i => (cs.findIdx? fun c => fits ko c b e i).map fun j => (i, j)
noncomputable abbrev tup2 (v0 v1 : Value) : Obj := { cls := .type "tuple", data := .seq #[v0, v1] }
noncomputable def firstK (ko : List Int) (b e : Int) (i : Nat) (cs : List (Option Int)) : Option Nat := cs.findIdx? fun c => fits ko c b e i
def TakerIs (k : Option Nat) (v : Value) : Prop := match k with
  | none => v = .none
  | some j => ∃ t, v = .int (j : Int) t
theorem firstK_succ {ko : List Int} {b e : Int} {i j : Nat} {cs : List (Option Int)} {c : Option Int} (hc : cs[j]? = some c) :
    firstK ko b e i (cs.take (j + 1)) = (match firstK ko b e i (cs.take j) with | some k => some k | none => if fits ko c b e i then some j else none) := by
  have hj : j < cs.length := (List.getElem?_eq_some_iff.mp hc).1
  unfold firstK
  rw [List.take_add_one, hc, List.findIdx?_append]
  cases h : List.findIdx? (fun c => fits ko c b e i) (cs.take j) with
  | some k => rfl
  | none =>
    have hl : (cs.take j).length = j := by simp; omega
    by_cases hf : fits ko c b e i = true
    · simp [hf, hl]
    · simp [hf]
theorem fitsL_succ {ko : List Int} {cs : List (Option Int)} {b e : Int} {k : Nat} : fitsL ko cs b e (k + 1) = fitsL ko cs b e k ++ ((firstK ko b e k cs).map fun j => (k, j)).toList := by
  unfold fitsL firstK
  rw [List.range_succ, List.filterMap_append]
  congr 1
theorem fitsL_len {ko : List Int} {cs : List (Option Int)} {b e : Int} {k : Nat} : (fitsL ko cs b e k).length ≤ k := by
  unfold fitsL
  exact Nat.le_trans (List.length_filterMap_le _ _) (by simp)
theorem news_assoc3 {h₀ h : Heap} {L : Addr} {a z : Addr × Obj} {l t r o : List (Addr × Obj)} (N : News h₀ L h (a :: z :: (l ++ (t ++ (r ++ o))))) : News h₀ L h ((a :: z :: (l ++ (t ++ r))) ++ o) := fun p hp => N p (by
  simp only [List.cons_append, List.append_assoc] at hp; exact hp)
theorem map_eq3 {a z : Addr × Obj} {l l' t : List (Addr × Obj)} (h : l.map (·.1) = l'.map (·.1)) : (a :: z :: (l ++ t)).map (·.1) = (a :: z :: (l' ++ t)).map (·.1) := by
  simp only [List.map_cons, List.map_append, h]
theorem ws2_next {h₀ : Heap} {L : Addr} {s : Shared} {J : Nat → (Str → Option Value) → List (Addr × Obj) → Prop} {Q : Flow → Shared → Prop} {n n' : Nat} {h' : Heap} {tk : Nat} {m' : Str → Option Value} {news' : List (Addr × Obj)}
    (F : Fr h₀ L h' m') (N : News h₀ L h' news') (hlt : n' < n) (hj : J n' m' news') : WhileStep2 h₀ L s J Q n .next { s with heap := h', toks := tk } := ⟨_, _, _, _, _, rfl, F, N, hlt, hj⟩
theorem list_item {prog : Program} {w : World} {A : Around} {E : Value → Shared → Prop} {s : Shared} {value slice : PySem.Expr} {l : Addr} {vs : Array Value} {k : Int} {u : Tok} {v : Value} {Q : Value → Shared → Prop}
    (hl : s.heap.IsList l vs) (h0 : 0 ≤ k) (hhi : k < 2 ^ 63) (hx : vs[k.toNat]? = some v) (h : Q v s)
    (hs : subscripted slice false (.ref l) (.int k u) = operate [.ref l, .int k u] (getItem (.ref l) (.int k u)) := by with_unfolding_all rfl) :
    wpAny (model prog w) A (subscriptTail value slice (.ref l) (.int k u)) Q E s :=
  tail_any hl.typeIs slot_list_getitem.lookup (wpAny_getItem_list hl h0 hhi hx h) hs
/-- the found pairs, in the ledger -/
def TupsAre (ps : List (Nat × Nat)) (Ts : List Addr) (led : List (Addr × Obj)) : Prop :=
  Ts.length = ps.length ∧ ∀ (k i j : Nat), ps[k]? = some (i, j) → ∃ T t1 t2, Ts[k]? = some T ∧ (T, tup2 (.int i t1) (.int j t2)) ∈ led
theorem tups_snoc {ps : List (Nat × Nat)} {Ts : List Addr} {tl tl2 : List (Addr × Obj)} {T : Addr} {i j : Nat} {t1 t2 : Tok} (h : TupsAre ps Ts tl) (hm : (T, tup2 (.int i t1) (.int j t2)) ∈ tl2) (hs : ∀ p ∈ tl, p ∈ tl2) : TupsAre (ps ++ [(i, j)]) (Ts ++ [T]) tl2 := by
  refine ⟨by simp [h.1], fun k i' j' hk => ?_⟩
  by_cases hlt : k < ps.length
  · rw [List.getElem?_append_left hlt] at hk
    obtain ⟨T', a, b, h1, h2⟩ := h.2 k i' j' hk
    refine ⟨T', a, b, ?_, hs _ h2⟩
    rw [List.getElem?_append_left (by rw [h.1]; exact hlt)]; exact h1
  · have hk' : k = ps.length := by
      have := (List.getElem?_eq_some_iff.mp hk).1
      simp at this
      omega
    subst hk'
    simp at hk
    obtain ⟨rfl, rfl⟩ := hk
    exact ⟨T, t1, t2, by rw [← h.1]; simp, hm⟩
local macro_rules | `(tactic| walk_at "exec While Compare cons") => `(tactic| refine Stop.of ?_)
local macro_rules | `(tactic| walk_at "exec While Compare cons cons") => `(tactic| refine Stop.of ?_)
local macro_rules | `(tactic| walk_at "exec While Compare cons nil") => `(tactic| refine Stop.of ?_)


section
theorem fits_in_ct (w : World) (o : Array UInt8) (ko : List Int) (b e : Int) (cks : List (Option Int)) (xs : List Addr) (led rest : List (Addr × Obj)) (S : Addr) (n : Nat) (t1 : Tok) (ho : KBw.bInts o = ko) (hz : ko.length ≤ 1000)
    (H : SeekL w.params b e cks xs led) (hcs : cks.length ≤ 100) (hS : ∀ p ∈ led ++ rest, p.1 ≠ S) (hsep : ∀ p ∈ rest, ∀ q ∈ led, p.1 ≠ q.1) :
    Ct w 153 [.bytes o t1, .ref S] 8 96 ((S, listOf (xs.map Value.ref).toArray n) :: (led ++ rest)) (fun r news' => ∃ F Ts tl' led' k, r = .ref F ∧ SeekL w.params b e cks xs led' ∧ led'.map (·.1) = led.map (·.1) ∧
      news' = (F, listOf (Ts.map Value.ref).toArray k) :: (S, listOf (xs.map Value.ref).toArray n) :: (led' ++ (tl' ++ rest)) ∧ TupsAre (fitsL ko cks b e ko.length) Ts tl' ∧ ∀ p ∈ (F, listOf (Ts.map Value.ref).toArray k) :: tl', ∀ q ∈ (S, listOf (xs.map Value.ref).toArray n) :: (led ++ rest), q.1 < p.1) := by
  unfold Ct
  k_fill
  intro loose mean mg mb dp un gd cn cs a ccd cl outer A₀ base h₀ L m s Q E B F X N T hk hd hu hret
  refine wpAny_call ?_
  k_dflt (refine' code_def (binds := [(Str.ofString "octets", .bytes o t1), (Str.ofString "seekers", .ref S)]) ?k1 ?k2 ?k3 ?k4 ?k5 ?kA ?kF ?kK ?k6 ?k7 ?k8 ?k9 ?kB ?_ ?c2 ?c3 ?c4 ?c5; (case kA => exact rfl); (case kF => exact rfl); (case kK => assumption); (case k1 => k_asm); (case k2 => k_asm); (case k3 => k_asm); (case k4 => k_asm); (case k5 => k_asm); (case k6 => k_is); (case k7 => k_is); (case k8 => ktr_room); (case k9 => exact BindsTo.of_eq rfl); (case c5 => decide); (case kB => exact locs rfl); (case c2 => exact rfl); (case c3 => exact rfl); (case c4 => exact rfl); k_whole)
  intro g' L' h' FG' F' N' B' X' T'
  dsimp only
  (try k_fold)
  (repeat' (first | (k_unfold; (try dsimp only)) | (k_end; kc_close) | (with_reducible first | (k_here; (show wpAny _ _ (call (Value.ref 118) _) _ _ _); (try k_fold); (k_dflt (refine' Ct.use (reach_led (hd := [_, _]) (by assumption) (by assumption) (by assumption) (by assumption) _ _) ?k1 ?k2 ?k3 ?k4 ?k5 ?kK ?kd ?ku ?_; (case k1 => k_asm); (case k2 => k_asm); (case k3 => k_asm); (case k4 => k_asm); (case k5 => k_asm); (case kK => first | exact rfl | assumption); (case kd => ktr_room); (case ku => ktr_units))); k_dflt (intro _ _ _ _ _ N9 hp9; obtain ⟨hr9, _, _, _, hn9, _, _, _, m91, m92, _, _, _, _, _, _, _, _, _, _, _, he9, _, _⟩ := hp9; subst he9; subst hn9; subst hr9; simp only [List.cons_append, List.nil_append] at N9 m91 m92); (try dsimp only); (try k_fold)) | (k_here; (show wpAny _ _ (call (Value.ref 132) _) _ _ _); (try k_fold); (k_dflt (refine' Ct.use (took_led (hd := [_, _]) (by assumption) (by assumption) (by assumption) (by assumption) _ _) ?k1 ?k2 ?k3 ?k4 ?k5 ?kK ?kd ?ku ?_; (case k1 => k_asm); (case k2 => k_asm); (case k3 => k_asm); (case k4 => k_asm); (case k5 => k_asm); (case kK => first | exact rfl | assumption); (case kd => ktr_room); (case ku => ktr_units))); k_dflt (intro _ _ _ _ _ N9 hp9; obtain ⟨hr9, _, _, _, hn9, _, _, _, m91, m92, _, _, _, _, _, _, _, _, _, _, _, he9, _, _⟩ := hp9; subst he9; subst hn9; subst hr9; simp only [List.cons_append, List.nil_append] at N9 m91 m92); (try dsimp only); (try k_fold)) | (k_here; (show wpAny _ _ (call (Value.ref 125) _) _ _ _); (try k_fold); (k_dflt (refine' Ct.use (is_fit_led (hd := [_, _]) (by assumption) (by assumption) (by assumption) (by assumption) _ _ _ (by assumption) (by omega) (by omega)) ?k1 ?k2 ?k3 ?k4 ?k5 ?kK ?kd ?ku ?_; (case k1 => k_asm); (case k2 => k_asm); (case k3 => k_asm); (case k4 => k_asm); (case k5 => k_asm); (case kK => first | exact rfl | assumption); (case kd => ktr_room); (case ku => ktr_units))); (intro _ _ _ _ _ N9 hp9; obtain ⟨hn9, hr9⟩ := hp9; subst hn9; subst hr9; simp only [List.cons_append, List.nil_append] at N9); (try dsimp only); (try k_fold)) | (k_here; (show wpAny _ _ (call (Value.ref 111) _) _ _ _); (try k_fold); (k_dflt (refine' Ct.use (width_led (hd := [_, _]) (by assumption) (by assumption) (by assumption)) ?k1 ?k2 ?k3 ?k4 ?k5 ?kK ?kd ?ku ?_; (case k1 => k_asm); (case k2 => k_asm); (case k3 => k_asm); (case k4 => k_asm); (case k5 => k_asm); (case kK => first | exact rfl | assumption); (case kd => ktr_room); (case ku => ktr_units))); (intro _ _ _ _ _ N9 hp9; obtain ⟨hn9, _, hr9⟩ := hp9; subst hn9; subst hr9; simp only [List.cons_append, List.nil_append] at N9); (try dsimp only); (try k_fold)) | ((show wpAny _ _ (subscriptTail _ _ (Value.ref _) (Value.int _ _)) _ _ _); refine Stop.of ?_) | ((show wpAny _ _ (eval (Expr.Constant (Const.int _) _ _) _) _ _ _); refine flat_int ?_) | ((show wpAny _ _ (binaryOp Operator.Add (Value.int _ _) (Value.int _ _)) _ _ _); refine flat_add ?_) | ((show wpAny _ _ (binaryOp Operator.Sub (Value.int _ _) (Value.int _ _)) _ _ _); refine flat_sub ?_) | ((show wpAny _ _ (eval (Expr.BinOp _ _ _ _) _) _ _ _); k_fold; k_dflt walk1) | ((show wpAny _ _ (eval (Expr.Compare _ _ _ _) _) _ _ _); k_fold; k_dflt walk1)) | walk1 | (dsimp only; first | (with_reducible first | (k_here; (show wpAny _ _ (call (Value.ref 118) _) _ _ _); (try k_fold); (k_dflt (refine' Ct.use (reach_led (hd := [_, _]) (by assumption) (by assumption) (by assumption) (by assumption) _ _) ?k1 ?k2 ?k3 ?k4 ?k5 ?kK ?kd ?ku ?_; (case k1 => k_asm); (case k2 => k_asm); (case k3 => k_asm); (case k4 => k_asm); (case k5 => k_asm); (case kK => first | exact rfl | assumption); (case kd => ktr_room); (case ku => ktr_units))); k_dflt (intro _ _ _ _ _ N9 hp9; obtain ⟨hr9, _, _, _, hn9, _, _, _, m91, m92, _, _, _, _, _, _, _, _, _, _, _, he9, _, _⟩ := hp9; subst he9; subst hn9; subst hr9; simp only [List.cons_append, List.nil_append] at N9 m91 m92); (try dsimp only); (try k_fold)) | (k_here; (show wpAny _ _ (call (Value.ref 132) _) _ _ _); (try k_fold); (k_dflt (refine' Ct.use (took_led (hd := [_, _]) (by assumption) (by assumption) (by assumption) (by assumption) _ _) ?k1 ?k2 ?k3 ?k4 ?k5 ?kK ?kd ?ku ?_; (case k1 => k_asm); (case k2 => k_asm); (case k3 => k_asm); (case k4 => k_asm); (case k5 => k_asm); (case kK => first | exact rfl | assumption); (case kd => ktr_room); (case ku => ktr_units))); k_dflt (intro _ _ _ _ _ N9 hp9; obtain ⟨hr9, _, _, _, hn9, _, _, _, m91, m92, _, _, _, _, _, _, _, _, _, _, _, he9, _, _⟩ := hp9; subst he9; subst hn9; subst hr9; simp only [List.cons_append, List.nil_append] at N9 m91 m92); (try dsimp only); (try k_fold)) | (k_here; (show wpAny _ _ (call (Value.ref 125) _) _ _ _); (try k_fold); (k_dflt (refine' Ct.use (is_fit_led (hd := [_, _]) (by assumption) (by assumption) (by assumption) (by assumption) _ _ _ (by assumption) (by omega) (by omega)) ?k1 ?k2 ?k3 ?k4 ?k5 ?kK ?kd ?ku ?_; (case k1 => k_asm); (case k2 => k_asm); (case k3 => k_asm); (case k4 => k_asm); (case k5 => k_asm); (case kK => first | exact rfl | assumption); (case kd => ktr_room); (case ku => ktr_units))); (intro _ _ _ _ _ N9 hp9; obtain ⟨hn9, hr9⟩ := hp9; subst hn9; subst hr9; simp only [List.cons_append, List.nil_append] at N9); (try dsimp only); (try k_fold)) | (k_here; (show wpAny _ _ (call (Value.ref 111) _) _ _ _); (try k_fold); (k_dflt (refine' Ct.use (width_led (hd := [_, _]) (by assumption) (by assumption) (by assumption)) ?k1 ?k2 ?k3 ?k4 ?k5 ?kK ?kd ?ku ?_; (case k1 => k_asm); (case k2 => k_asm); (case k3 => k_asm); (case k4 => k_asm); (case k5 => k_asm); (case kK => first | exact rfl | assumption); (case kd => ktr_room); (case ku => ktr_units))); (intro _ _ _ _ _ N9 hp9; obtain ⟨hn9, _, hr9⟩ := hp9; subst hn9; subst hr9; simp only [List.cons_append, List.nil_append] at N9); (try dsimp only); (try k_fold)) | ((show wpAny _ _ (subscriptTail _ _ (Value.ref _) (Value.int _ _)) _ _ _); refine Stop.of ?_)) | walk1) | (leave1; walk_say "STEP leave1"; try dsimp only) | fail "no step"))
  rename_i F hA lA D1 hB lB hC hD hE F1 N1
  replace N1 : News g' L' hE ((F, listOf #[] 0) :: (S, listOf (xs.map Value.ref).toArray n) :: (led ++ rest)) := fun p hp => N1 p (List.mem_cons_of_mem _ hp)
  obtain ⟨m0, hm0, F1⟩ : ∃ m0, m0 = _ ∧ Fr g' L' hE m0 := ⟨_, rfl, F1⟩
  have hlen := H.len
  have hFS : ∀ {led2 : List (Addr × Obj)} {Ts : List Addr} {kf : Nat}, ∀ p ∈ [(F, listOf (Ts.map Value.ref).toArray kf), (S, listOf (xs.map Value.ref).toArray n)], ∀ q, led2.map (·.1) = led.map (·.1) → q ∈ led2 → p.1 ≠ q.1 := by
    intro led2 Ts kf p hp q e hq
    refine sep_map e (k := [p]) ?_ p (List.mem_singleton_self _) q hq
    intro p' hp' q' hq'
    rw [List.mem_singleton.mp hp']
    rcases List.mem_cons.mp hp with rfl | hp
    · exact Nat.ne_of_gt (lt_all lA.2 q' (List.mem_append_left _ hq'))
    · rw [List.mem_singleton.mp hp]; exact (hS q' (List.mem_append_left _ hq')).symm
  refine Stop.go ?_
  (try k_fold)
  let J9 : Nat → (Str → Option Value) → List (Addr × Obj) → Prop := (fun k m₁ news₁ => ∃ (i : Nat) (ti : Tok) (Ts : List Addr) (tl' led' : List (Addr × Obj)) (kf : Nat), k = ko.length - i ∧ i ≤ ko.length ∧ SeekL w.params b e cks xs led' ∧ led'.map (·.1) = led.map (·.1) ∧
      news₁ = (F, listOf (Ts.map Value.ref).toArray kf) :: (S, listOf (xs.map Value.ref).toArray n) :: (led' ++ (tl' ++ rest)) ∧ TupsAre (fitsL ko cks b e i) Ts tl' ∧ (∀ p ∈ tl', F < p.1 ∧ ∀ q ∈ led ++ rest, q.1 < p.1) ∧
      ∃ vs vn vt, m₁ = fun y => if y = Str.ofString "at" then some (.int i ti) else if y = Str.ofString "seeker" then vs else if y = Str.ofString "number" then vn else if y = Str.ofString "taker" then vt else m0 y)
  refine (While_inv2 (n₀ := ko.length) J9
    F1 N1 ⟨0, _, [], [], led, 0, rfl, Nat.zero_le _, H, rfl, rfl, ⟨rfl, fun k i j h => by simp [fitsL] at h⟩, fun p hp => (nomatch hp), norm4 (by rw [hm0]; rfl) (fun _ _ _ _ _ => rfl)⟩ ?_)
  intro k m₁ news₁ h₁ tk₁ F2 N2 hz1
  (try k_fold)
  obtain ⟨i, ti, Ts, tl', led', kf, rfl, hi, hH, hadr, rfl, hT, hfr, vs, vn, vt, rfl⟩ := hz1
  clear F1 N1
  subst hm0
  dsimp only at F2
  (repeat' (first | (k_unfold; (try dsimp only)) | (k_end; kc_close) | (with_reducible first | (k_here; (show wpAny _ _ (call (Value.ref 118) _) _ _ _); (try k_fold); (k_dflt (refine' Ct.use (reach_led (hd := [_, _]) (by assumption) (by assumption) (by assumption) (by assumption) _ _) ?k1 ?k2 ?k3 ?k4 ?k5 ?kK ?kd ?ku ?_; (case k1 => k_asm); (case k2 => k_asm); (case k3 => k_asm); (case k4 => k_asm); (case k5 => k_asm); (case kK => first | exact rfl | assumption); (case kd => ktr_room); (case ku => ktr_units))); k_dflt (intro _ _ _ _ _ N9 hp9; obtain ⟨hr9, _, _, _, hn9, _, _, _, m91, m92, _, _, _, _, _, _, _, _, _, _, _, he9, _, _⟩ := hp9; subst he9; subst hn9; subst hr9; simp only [List.cons_append, List.nil_append] at N9 m91 m92); (try dsimp only); (try k_fold)) | (k_here; (show wpAny _ _ (call (Value.ref 132) _) _ _ _); (try k_fold); (k_dflt (refine' Ct.use (took_led (hd := [_, _]) (by assumption) (by assumption) (by assumption) (by assumption) _ _) ?k1 ?k2 ?k3 ?k4 ?k5 ?kK ?kd ?ku ?_; (case k1 => k_asm); (case k2 => k_asm); (case k3 => k_asm); (case k4 => k_asm); (case k5 => k_asm); (case kK => first | exact rfl | assumption); (case kd => ktr_room); (case ku => ktr_units))); k_dflt (intro _ _ _ _ _ N9 hp9; obtain ⟨hr9, _, _, _, hn9, _, _, _, m91, m92, _, _, _, _, _, _, _, _, _, _, _, he9, _, _⟩ := hp9; subst he9; subst hn9; subst hr9; simp only [List.cons_append, List.nil_append] at N9 m91 m92); (try dsimp only); (try k_fold)) | (k_here; (show wpAny _ _ (call (Value.ref 125) _) _ _ _); (try k_fold); (k_dflt (refine' Ct.use (is_fit_led (hd := [_, _]) (by assumption) (by assumption) (by assumption) (by assumption) _ _ _ (by assumption) (by omega) (by omega)) ?k1 ?k2 ?k3 ?k4 ?k5 ?kK ?kd ?ku ?_; (case k1 => k_asm); (case k2 => k_asm); (case k3 => k_asm); (case k4 => k_asm); (case k5 => k_asm); (case kK => first | exact rfl | assumption); (case kd => ktr_room); (case ku => ktr_units))); (intro _ _ _ _ _ N9 hp9; obtain ⟨hn9, hr9⟩ := hp9; subst hn9; subst hr9; simp only [List.cons_append, List.nil_append] at N9); (try dsimp only); (try k_fold)) | (k_here; (show wpAny _ _ (call (Value.ref 111) _) _ _ _); (try k_fold); (k_dflt (refine' Ct.use (width_led (hd := [_, _]) (by assumption) (by assumption) (by assumption)) ?k1 ?k2 ?k3 ?k4 ?k5 ?kK ?kd ?ku ?_; (case k1 => k_asm); (case k2 => k_asm); (case k3 => k_asm); (case k4 => k_asm); (case k5 => k_asm); (case kK => first | exact rfl | assumption); (case kd => ktr_room); (case ku => ktr_units))); (intro _ _ _ _ _ N9 hp9; obtain ⟨hn9, _, hr9⟩ := hp9; subst hn9; subst hr9; simp only [List.cons_append, List.nil_append] at N9); (try dsimp only); (try k_fold)) | ((show wpAny _ _ (subscriptTail _ _ (Value.ref _) (Value.int _ _)) _ _ _); refine Stop.of ?_) | ((show wpAny _ _ (eval (Expr.Constant (Const.int _) _ _) _) _ _ _); refine flat_int ?_) | ((show wpAny _ _ (binaryOp Operator.Add (Value.int _ _) (Value.int _ _)) _ _ _); refine flat_add ?_) | ((show wpAny _ _ (binaryOp Operator.Sub (Value.int _ _) (Value.int _ _)) _ _ _); refine flat_sub ?_) | ((show wpAny _ _ (eval (Expr.BinOp _ _ _ _) _) _ _ _); k_fold; k_dflt walk1) | ((show wpAny _ _ (eval (Expr.Compare _ _ _ _) _) _ _ _); k_fold; k_dflt walk1)) | walk1 | (dsimp only; first | (with_reducible first | (k_here; (show wpAny _ _ (call (Value.ref 118) _) _ _ _); (try k_fold); (k_dflt (refine' Ct.use (reach_led (hd := [_, _]) (by assumption) (by assumption) (by assumption) (by assumption) _ _) ?k1 ?k2 ?k3 ?k4 ?k5 ?kK ?kd ?ku ?_; (case k1 => k_asm); (case k2 => k_asm); (case k3 => k_asm); (case k4 => k_asm); (case k5 => k_asm); (case kK => first | exact rfl | assumption); (case kd => ktr_room); (case ku => ktr_units))); k_dflt (intro _ _ _ _ _ N9 hp9; obtain ⟨hr9, _, _, _, hn9, _, _, _, m91, m92, _, _, _, _, _, _, _, _, _, _, _, he9, _, _⟩ := hp9; subst he9; subst hn9; subst hr9; simp only [List.cons_append, List.nil_append] at N9 m91 m92); (try dsimp only); (try k_fold)) | (k_here; (show wpAny _ _ (call (Value.ref 132) _) _ _ _); (try k_fold); (k_dflt (refine' Ct.use (took_led (hd := [_, _]) (by assumption) (by assumption) (by assumption) (by assumption) _ _) ?k1 ?k2 ?k3 ?k4 ?k5 ?kK ?kd ?ku ?_; (case k1 => k_asm); (case k2 => k_asm); (case k3 => k_asm); (case k4 => k_asm); (case k5 => k_asm); (case kK => first | exact rfl | assumption); (case kd => ktr_room); (case ku => ktr_units))); k_dflt (intro _ _ _ _ _ N9 hp9; obtain ⟨hr9, _, _, _, hn9, _, _, _, m91, m92, _, _, _, _, _, _, _, _, _, _, _, he9, _, _⟩ := hp9; subst he9; subst hn9; subst hr9; simp only [List.cons_append, List.nil_append] at N9 m91 m92); (try dsimp only); (try k_fold)) | (k_here; (show wpAny _ _ (call (Value.ref 125) _) _ _ _); (try k_fold); (k_dflt (refine' Ct.use (is_fit_led (hd := [_, _]) (by assumption) (by assumption) (by assumption) (by assumption) _ _ _ (by assumption) (by omega) (by omega)) ?k1 ?k2 ?k3 ?k4 ?k5 ?kK ?kd ?ku ?_; (case k1 => k_asm); (case k2 => k_asm); (case k3 => k_asm); (case k4 => k_asm); (case k5 => k_asm); (case kK => first | exact rfl | assumption); (case kd => ktr_room); (case ku => ktr_units))); (intro _ _ _ _ _ N9 hp9; obtain ⟨hn9, hr9⟩ := hp9; subst hn9; subst hr9; simp only [List.cons_append, List.nil_append] at N9); (try dsimp only); (try k_fold)) | (k_here; (show wpAny _ _ (call (Value.ref 111) _) _ _ _); (try k_fold); (k_dflt (refine' Ct.use (width_led (hd := [_, _]) (by assumption) (by assumption) (by assumption)) ?k1 ?k2 ?k3 ?k4 ?k5 ?kK ?kd ?ku ?_; (case k1 => k_asm); (case k2 => k_asm); (case k3 => k_asm); (case k4 => k_asm); (case k5 => k_asm); (case kK => first | exact rfl | assumption); (case kd => ktr_room); (case ku => ktr_units))); (intro _ _ _ _ _ N9 hp9; obtain ⟨hn9, _, hr9⟩ := hp9; subst hn9; subst hr9; simp only [List.cons_append, List.nil_append] at N9); (try dsimp only); (try k_fold)) | ((show wpAny _ _ (subscriptTail _ _ (Value.ref _) (Value.int _ _)) _ _ _); refine Stop.of ?_)) | walk1) | (leave1; walk_say "STEP leave1"; try dsimp only) | fail "no step"))
  · rename Fr g' _ _ _ => F3
    rename News g' _ _ _ => N3
    obtain ⟨m1, hm1, F3⟩ : ∃ m1, m1 = _ ∧ Fr g' L' _ m1 := ⟨_, rfl, F3⟩
    let J9 : Nat → (Str → Option Value) → List (Addr × Obj) → Prop := (fun j m₁ news₁ => ∃ led2, SeekL w.params b e cks xs led2 ∧ led2.map (·.1) = led'.map (·.1) ∧ news₁ = (F, listOf (Ts.map Value.ref).toArray kf) :: (S, listOf (xs.map Value.ref).toArray n) :: (led2 ++ (tl' ++ rest)) ∧
        ∃ tv, TakerIs (firstK ko b e i (cks.take j)) tv ∧ ∃ vs vn, m₁ = fun y => if y = Str.ofString "taker" then some tv else if y = Str.ofString "seeker" then vs else if y = Str.ofString "number" then vn else m1 y)
    refine Stop.go (enum_list J9
      rfl ⟨_, (N3 (S, listOf (xs.map Value.ref).toArray n) (by simp)).1, rfl, n, rfl⟩ (N3 (S, listOf (xs.map Value.ref).toArray n) (by simp)).2.2 (N3 (S, listOf (xs.map Value.ref).toArray n) (by simp)).2.1 F3 N3 ⟨led', hH, rfl, rfl, .none, rfl, norm3 (by rw [hm1]; rfl) (fun _ _ _ _ => rfl)⟩ ?_ ?_)
    · intro j v t m₁ news₁ h tk own hv hz1 hadr2 hoff F4 N4
      (try k_fold)
      obtain ⟨led2, hH2, had2, rfl, tv, htv, vs, vn, rfl⟩ := hz1
      obtain ⟨x, hx, rfl⟩ : ∃ x, xs[j]? = some x ∧ v = .ref x := by
        rw [List.getElem?_toArray, List.getElem?_map] at hv
        obtain ⟨x, h1, h2⟩ := Option.map_eq_some_iff.mp hv
        exact ⟨x, h1, h2.symm⟩
      obtain ⟨c, hc⟩ : ∃ c, cks[j]? = some c := by
        have : j < xs.length := (List.getElem?_eq_some_iff.mp hx).1
        exact ⟨cks[j]'(by omega), List.getElem?_eq_getElem (by omega)⟩
      have hsp : ∀ p ∈ [(F, listOf (Ts.map Value.ref).toArray kf), (S, listOf (xs.map Value.ref).toArray n)] ++ (tl' ++ (rest ++ own)), ∀ q ∈ led2, p.1 ≠ q.1 := by
        intro p hp q hq
        rcases List.mem_append.mp hp with hp | hp
        · exact hFS p hp q (had2.trans hadr) hq
        · rcases List.mem_append.mp hp with hp | hp
          · exact sep_map (had2.trans hadr) (fun p hp q hq => Nat.ne_of_gt ((hfr p hp).2 q (List.mem_append_left _ hq))) p hp q hq
          · rcases List.mem_append.mp hp with hp | hp
            · exact sep_map (had2.trans hadr) hsep p hp q hq
            · refine hoff p hp q.1 ?_ ?_
              · rw [map_eq3 had2.symm]
                exact List.mem_map_of_mem (by simp [hq])
              · exact (hFS (Ts := Ts) (kf := kf) (S, listOf (xs.map Value.ref).toArray n) (by simp) q (had2.trans hadr) hq).symm
      obtain ⟨d, es, hm1', hm2', k91, k92, k93, k94, k95, k96, vk9, vw9, tb9, te9, vl9, rfl, hk9, hl9⟩ := hH2.here (P := w.params) (hd := [(F, listOf (Ts.map Value.ref).toArray kf), (S, listOf (xs.map Value.ref).toArray n)]) (tl := tl' ++ (rest ++ own)) hc hx
      have hfs := firstK_succ (ko := ko) (b := b) (e := e) (i := i) hc
      clear hadr2 hoff N3 F3 hH H
      subst hm1
      simp only [List.cons_append, List.nil_append, List.append_assoc] at F4 N4 hm1' hm2'
      cases hfk : firstK ko b e i (cks.take j) with
      | none =>
        rw [hfk] at htv hfs
        obtain rfl : tv = .none := htv
        (repeat' (first | (k_unfold; (try dsimp only)) | (k_end; kc_close) | (with_reducible first | (k_here; (show wpAny _ _ (call (Value.ref 118) _) _ _ _); (try k_fold); (k_dflt (refine' Ct.use (reach_led (hd := [_, _]) (by assumption) (by assumption) (by assumption) (by assumption) _ _) ?k1 ?k2 ?k3 ?k4 ?k5 ?kK ?kd ?ku ?_; (case k1 => k_asm); (case k2 => k_asm); (case k3 => k_asm); (case k4 => k_asm); (case k5 => k_asm); (case kK => first | exact rfl | assumption); (case kd => ktr_room); (case ku => ktr_units))); k_dflt (intro _ _ _ _ _ N9 hp9; obtain ⟨hr9, _, _, _, hn9, _, _, _, m91, m92, _, _, _, _, _, _, _, _, _, _, _, he9, _, _⟩ := hp9; subst he9; subst hn9; subst hr9; simp only [List.cons_append, List.nil_append] at N9 m91 m92); (try dsimp only); (try k_fold)) | (k_here; (show wpAny _ _ (call (Value.ref 132) _) _ _ _); (try k_fold); (k_dflt (refine' Ct.use (took_led (hd := [_, _]) (by assumption) (by assumption) (by assumption) (by assumption) _ _) ?k1 ?k2 ?k3 ?k4 ?k5 ?kK ?kd ?ku ?_; (case k1 => k_asm); (case k2 => k_asm); (case k3 => k_asm); (case k4 => k_asm); (case k5 => k_asm); (case kK => first | exact rfl | assumption); (case kd => ktr_room); (case ku => ktr_units))); k_dflt (intro _ _ _ _ _ N9 hp9; obtain ⟨hr9, _, _, _, hn9, _, _, _, m91, m92, _, _, _, _, _, _, _, _, _, _, _, he9, _, _⟩ := hp9; subst he9; subst hn9; subst hr9; simp only [List.cons_append, List.nil_append] at N9 m91 m92); (try dsimp only); (try k_fold)) | (k_here; (show wpAny _ _ (call (Value.ref 125) _) _ _ _); (try k_fold); (k_dflt (refine' Ct.use (is_fit_led (hd := [_, _]) (by assumption) (by assumption) (by assumption) (by assumption) _ _ _ (by assumption) (by omega) (by omega)) ?k1 ?k2 ?k3 ?k4 ?k5 ?kK ?kd ?ku ?_; (case k1 => k_asm); (case k2 => k_asm); (case k3 => k_asm); (case k4 => k_asm); (case k5 => k_asm); (case kK => first | exact rfl | assumption); (case kd => ktr_room); (case ku => ktr_units))); (intro _ _ _ _ _ N9 hp9; obtain ⟨hn9, hr9⟩ := hp9; subst hn9; subst hr9; simp only [List.cons_append, List.nil_append] at N9); (try dsimp only); (try k_fold)) | (k_here; (show wpAny _ _ (call (Value.ref 111) _) _ _ _); (try k_fold); (k_dflt (refine' Ct.use (width_led (hd := [_, _]) (by assumption) (by assumption) (by assumption)) ?k1 ?k2 ?k3 ?k4 ?k5 ?kK ?kd ?ku ?_; (case k1 => k_asm); (case k2 => k_asm); (case k3 => k_asm); (case k4 => k_asm); (case k5 => k_asm); (case kK => first | exact rfl | assumption); (case kd => ktr_room); (case ku => ktr_units))); (intro _ _ _ _ _ N9 hp9; obtain ⟨hn9, _, hr9⟩ := hp9; subst hn9; subst hr9; simp only [List.cons_append, List.nil_append] at N9); (try dsimp only); (try k_fold)) | ((show wpAny _ _ (subscriptTail _ _ (Value.ref _) (Value.int _ _)) _ _ _); refine Stop.of ?_) | ((show wpAny _ _ (eval (Expr.Constant (Const.int _) _ _) _) _ _ _); refine flat_int ?_) | ((show wpAny _ _ (binaryOp Operator.Add (Value.int _ _) (Value.int _ _)) _ _ _); refine flat_add ?_) | ((show wpAny _ _ (binaryOp Operator.Sub (Value.int _ _) (Value.int _ _)) _ _ _); refine flat_sub ?_) | ((show wpAny _ _ (eval (Expr.BinOp _ _ _ _) _) _ _ _); k_fold; k_dflt walk1) | ((show wpAny _ _ (eval (Expr.Compare _ _ _ _) _) _ _ _); k_fold; k_dflt walk1)) | walk1 | (dsimp only; first | (with_reducible first | (k_here; (show wpAny _ _ (call (Value.ref 118) _) _ _ _); (try k_fold); (k_dflt (refine' Ct.use (reach_led (hd := [_, _]) (by assumption) (by assumption) (by assumption) (by assumption) _ _) ?k1 ?k2 ?k3 ?k4 ?k5 ?kK ?kd ?ku ?_; (case k1 => k_asm); (case k2 => k_asm); (case k3 => k_asm); (case k4 => k_asm); (case k5 => k_asm); (case kK => first | exact rfl | assumption); (case kd => ktr_room); (case ku => ktr_units))); k_dflt (intro _ _ _ _ _ N9 hp9; obtain ⟨hr9, _, _, _, hn9, _, _, _, m91, m92, _, _, _, _, _, _, _, _, _, _, _, he9, _, _⟩ := hp9; subst he9; subst hn9; subst hr9; simp only [List.cons_append, List.nil_append] at N9 m91 m92); (try dsimp only); (try k_fold)) | (k_here; (show wpAny _ _ (call (Value.ref 132) _) _ _ _); (try k_fold); (k_dflt (refine' Ct.use (took_led (hd := [_, _]) (by assumption) (by assumption) (by assumption) (by assumption) _ _) ?k1 ?k2 ?k3 ?k4 ?k5 ?kK ?kd ?ku ?_; (case k1 => k_asm); (case k2 => k_asm); (case k3 => k_asm); (case k4 => k_asm); (case k5 => k_asm); (case kK => first | exact rfl | assumption); (case kd => ktr_room); (case ku => ktr_units))); k_dflt (intro _ _ _ _ _ N9 hp9; obtain ⟨hr9, _, _, _, hn9, _, _, _, m91, m92, _, _, _, _, _, _, _, _, _, _, _, he9, _, _⟩ := hp9; subst he9; subst hn9; subst hr9; simp only [List.cons_append, List.nil_append] at N9 m91 m92); (try dsimp only); (try k_fold)) | (k_here; (show wpAny _ _ (call (Value.ref 125) _) _ _ _); (try k_fold); (k_dflt (refine' Ct.use (is_fit_led (hd := [_, _]) (by assumption) (by assumption) (by assumption) (by assumption) _ _ _ (by assumption) (by omega) (by omega)) ?k1 ?k2 ?k3 ?k4 ?k5 ?kK ?kd ?ku ?_; (case k1 => k_asm); (case k2 => k_asm); (case k3 => k_asm); (case k4 => k_asm); (case k5 => k_asm); (case kK => first | exact rfl | assumption); (case kd => ktr_room); (case ku => ktr_units))); (intro _ _ _ _ _ N9 hp9; obtain ⟨hn9, hr9⟩ := hp9; subst hn9; subst hr9; simp only [List.cons_append, List.nil_append] at N9); (try dsimp only); (try k_fold)) | (k_here; (show wpAny _ _ (call (Value.ref 111) _) _ _ _); (try k_fold); (k_dflt (refine' Ct.use (width_led (hd := [_, _]) (by assumption) (by assumption) (by assumption)) ?k1 ?k2 ?k3 ?k4 ?k5 ?kK ?kd ?ku ?_; (case k1 => k_asm); (case k2 => k_asm); (case k3 => k_asm); (case k4 => k_asm); (case k5 => k_asm); (case kK => first | exact rfl | assumption); (case kd => ktr_room); (case ku => ktr_units))); (intro _ _ _ _ _ N9 hp9; obtain ⟨hn9, _, hr9⟩ := hp9; subst hn9; subst hr9; simp only [List.cons_append, List.nil_append] at N9); (try dsimp only); (try k_fold)) | ((show wpAny _ _ (subscriptTail _ _ (Value.ref _) (Value.int _ _)) _ _ _); refine Stop.of ?_)) | walk1) | (leave1; walk_say "STEP leave1"; try dsimp only) | fail "no step"))
        · rename fits ko c b e i = true => hf
          refine PairEnd.next (by k_asm) (news_assoc3 (by assumption)) (map_eq3 (Eq.trans (by assumption) had2)) ⟨_, by assumption, Eq.trans (by assumption) had2, rfl, .int j t, ?_, norm3 rfl fun z h1 h2 h3 => by simp only [if_neg h1, if_neg h2, if_neg h3]⟩
          rw [hfs]; dsimp only; rw [if_pos hf]; exact ⟨_, rfl⟩
        · rename fits ko c b e i = false => hf
          refine PairEnd.next (by k_asm) (news_assoc3 (by assumption)) (map_eq3 (Eq.trans (by assumption) had2)) ⟨_, by assumption, Eq.trans (by assumption) had2, rfl, .none, ?_, norm3 rfl fun z h1 h2 h3 => by simp only [if_neg h1, if_neg h2, if_neg h3]⟩
          rw [hfs]; dsimp only; rw [hf]; rfl
      | some j0 =>
        rw [hfk] at htv hfs
        obtain ⟨t0, rfl⟩ := htv
        (repeat' (first | (k_unfold; (try dsimp only)) | (k_end; kc_close) | (with_reducible first | (k_here; (show wpAny _ _ (call (Value.ref 118) _) _ _ _); (try k_fold); (k_dflt (refine' Ct.use (reach_led (hd := [_, _]) (by assumption) (by assumption) (by assumption) (by assumption) _ _) ?k1 ?k2 ?k3 ?k4 ?k5 ?kK ?kd ?ku ?_; (case k1 => k_asm); (case k2 => k_asm); (case k3 => k_asm); (case k4 => k_asm); (case k5 => k_asm); (case kK => first | exact rfl | assumption); (case kd => ktr_room); (case ku => ktr_units))); k_dflt (intro _ _ _ _ _ N9 hp9; obtain ⟨hr9, _, _, _, hn9, _, _, _, m91, m92, _, _, _, _, _, _, _, _, _, _, _, he9, _, _⟩ := hp9; subst he9; subst hn9; subst hr9; simp only [List.cons_append, List.nil_append] at N9 m91 m92); (try dsimp only); (try k_fold)) | (k_here; (show wpAny _ _ (call (Value.ref 132) _) _ _ _); (try k_fold); (k_dflt (refine' Ct.use (took_led (hd := [_, _]) (by assumption) (by assumption) (by assumption) (by assumption) _ _) ?k1 ?k2 ?k3 ?k4 ?k5 ?kK ?kd ?ku ?_; (case k1 => k_asm); (case k2 => k_asm); (case k3 => k_asm); (case k4 => k_asm); (case k5 => k_asm); (case kK => first | exact rfl | assumption); (case kd => ktr_room); (case ku => ktr_units))); k_dflt (intro _ _ _ _ _ N9 hp9; obtain ⟨hr9, _, _, _, hn9, _, _, _, m91, m92, _, _, _, _, _, _, _, _, _, _, _, he9, _, _⟩ := hp9; subst he9; subst hn9; subst hr9; simp only [List.cons_append, List.nil_append] at N9 m91 m92); (try dsimp only); (try k_fold)) | (k_here; (show wpAny _ _ (call (Value.ref 125) _) _ _ _); (try k_fold); (k_dflt (refine' Ct.use (is_fit_led (hd := [_, _]) (by assumption) (by assumption) (by assumption) (by assumption) _ _ _ (by assumption) (by omega) (by omega)) ?k1 ?k2 ?k3 ?k4 ?k5 ?kK ?kd ?ku ?_; (case k1 => k_asm); (case k2 => k_asm); (case k3 => k_asm); (case k4 => k_asm); (case k5 => k_asm); (case kK => first | exact rfl | assumption); (case kd => ktr_room); (case ku => ktr_units))); (intro _ _ _ _ _ N9 hp9; obtain ⟨hn9, hr9⟩ := hp9; subst hn9; subst hr9; simp only [List.cons_append, List.nil_append] at N9); (try dsimp only); (try k_fold)) | (k_here; (show wpAny _ _ (call (Value.ref 111) _) _ _ _); (try k_fold); (k_dflt (refine' Ct.use (width_led (hd := [_, _]) (by assumption) (by assumption) (by assumption)) ?k1 ?k2 ?k3 ?k4 ?k5 ?kK ?kd ?ku ?_; (case k1 => k_asm); (case k2 => k_asm); (case k3 => k_asm); (case k4 => k_asm); (case k5 => k_asm); (case kK => first | exact rfl | assumption); (case kd => ktr_room); (case ku => ktr_units))); (intro _ _ _ _ _ N9 hp9; obtain ⟨hn9, _, hr9⟩ := hp9; subst hn9; subst hr9; simp only [List.cons_append, List.nil_append] at N9); (try dsimp only); (try k_fold)) | ((show wpAny _ _ (subscriptTail _ _ (Value.ref _) (Value.int _ _)) _ _ _); refine Stop.of ?_) | ((show wpAny _ _ (eval (Expr.Constant (Const.int _) _ _) _) _ _ _); refine flat_int ?_) | ((show wpAny _ _ (binaryOp Operator.Add (Value.int _ _) (Value.int _ _)) _ _ _); refine flat_add ?_) | ((show wpAny _ _ (binaryOp Operator.Sub (Value.int _ _) (Value.int _ _)) _ _ _); refine flat_sub ?_) | ((show wpAny _ _ (eval (Expr.BinOp _ _ _ _) _) _ _ _); k_fold; k_dflt walk1) | ((show wpAny _ _ (eval (Expr.Compare _ _ _ _) _) _ _ _); k_fold; k_dflt walk1)) | walk1 | (dsimp only; first | (with_reducible first | (k_here; (show wpAny _ _ (call (Value.ref 118) _) _ _ _); (try k_fold); (k_dflt (refine' Ct.use (reach_led (hd := [_, _]) (by assumption) (by assumption) (by assumption) (by assumption) _ _) ?k1 ?k2 ?k3 ?k4 ?k5 ?kK ?kd ?ku ?_; (case k1 => k_asm); (case k2 => k_asm); (case k3 => k_asm); (case k4 => k_asm); (case k5 => k_asm); (case kK => first | exact rfl | assumption); (case kd => ktr_room); (case ku => ktr_units))); k_dflt (intro _ _ _ _ _ N9 hp9; obtain ⟨hr9, _, _, _, hn9, _, _, _, m91, m92, _, _, _, _, _, _, _, _, _, _, _, he9, _, _⟩ := hp9; subst he9; subst hn9; subst hr9; simp only [List.cons_append, List.nil_append] at N9 m91 m92); (try dsimp only); (try k_fold)) | (k_here; (show wpAny _ _ (call (Value.ref 132) _) _ _ _); (try k_fold); (k_dflt (refine' Ct.use (took_led (hd := [_, _]) (by assumption) (by assumption) (by assumption) (by assumption) _ _) ?k1 ?k2 ?k3 ?k4 ?k5 ?kK ?kd ?ku ?_; (case k1 => k_asm); (case k2 => k_asm); (case k3 => k_asm); (case k4 => k_asm); (case k5 => k_asm); (case kK => first | exact rfl | assumption); (case kd => ktr_room); (case ku => ktr_units))); k_dflt (intro _ _ _ _ _ N9 hp9; obtain ⟨hr9, _, _, _, hn9, _, _, _, m91, m92, _, _, _, _, _, _, _, _, _, _, _, he9, _, _⟩ := hp9; subst he9; subst hn9; subst hr9; simp only [List.cons_append, List.nil_append] at N9 m91 m92); (try dsimp only); (try k_fold)) | (k_here; (show wpAny _ _ (call (Value.ref 125) _) _ _ _); (try k_fold); (k_dflt (refine' Ct.use (is_fit_led (hd := [_, _]) (by assumption) (by assumption) (by assumption) (by assumption) _ _ _ (by assumption) (by omega) (by omega)) ?k1 ?k2 ?k3 ?k4 ?k5 ?kK ?kd ?ku ?_; (case k1 => k_asm); (case k2 => k_asm); (case k3 => k_asm); (case k4 => k_asm); (case k5 => k_asm); (case kK => first | exact rfl | assumption); (case kd => ktr_room); (case ku => ktr_units))); (intro _ _ _ _ _ N9 hp9; obtain ⟨hn9, hr9⟩ := hp9; subst hn9; subst hr9; simp only [List.cons_append, List.nil_append] at N9); (try dsimp only); (try k_fold)) | (k_here; (show wpAny _ _ (call (Value.ref 111) _) _ _ _); (try k_fold); (k_dflt (refine' Ct.use (width_led (hd := [_, _]) (by assumption) (by assumption) (by assumption)) ?k1 ?k2 ?k3 ?k4 ?k5 ?kK ?kd ?ku ?_; (case k1 => k_asm); (case k2 => k_asm); (case k3 => k_asm); (case k4 => k_asm); (case k5 => k_asm); (case kK => first | exact rfl | assumption); (case kd => ktr_room); (case ku => ktr_units))); (intro _ _ _ _ _ N9 hp9; obtain ⟨hn9, _, hr9⟩ := hp9; subst hn9; subst hr9; simp only [List.cons_append, List.nil_append] at N9); (try dsimp only); (try k_fold)) | ((show wpAny _ _ (subscriptTail _ _ (Value.ref _) (Value.int _ _)) _ _ _); refine Stop.of ?_)) | walk1) | (leave1; walk_say "STEP leave1"; try dsimp only) | fail "no step"))
        refine PairEnd.next (by k_asm) (news_assoc3 (by assumption)) (map_eq3 (Eq.trans (by assumption) had2)) ⟨_, by assumption, Eq.trans (by assumption) had2, rfl, .int j0 t0, ?_, norm3 rfl fun z h1 h2 h3 => by simp only [if_neg h1, if_neg h2, if_neg h3]⟩
        rw [hfs]; exact ⟨_, rfl⟩
    · intro m₁ news₁ h tk hz1 hadr2 F4 N4
      (try k_fold)
      obtain ⟨led2, hH2, had2, rfl, tv, htv, vs, vn, rfl⟩ := hz1
      rw [List.take_of_length_le (by simp; omega)] at htv
      have hsp : ∀ p ∈ [(F, listOf (Ts.map Value.ref).toArray kf), (S, listOf (xs.map Value.ref).toArray n)] ++ (tl' ++ rest), ∀ q ∈ led2, p.1 ≠ q.1 := by
        intro p hp q hq
        rcases List.mem_append.mp hp with hp | hp
        · exact hFS p hp q (had2.trans hadr) hq
        · rcases List.mem_append.mp hp with hp | hp
          · exact sep_map (had2.trans hadr) (fun p hp q hq => Nat.ne_of_gt ((hfr p hp).2 q (List.mem_append_left _ hq))) p hp q hq
          · exact sep_map (had2.trans hadr) hsep p hp q hq
      clear hadr2 N3 F3 hH H
      subst hm1
      dsimp only at F4
      cases hfk : firstK ko b e i cks with
      | none =>
        rw [hfk] at htv
        obtain rfl : tv = .none := htv
        (repeat' (first | (k_unfold; (try dsimp only)) | (k_end; kc_close) | (with_reducible first | (k_here; (show wpAny _ _ (call (Value.ref 118) _) _ _ _); (try k_fold); (k_dflt (refine' Ct.use (reach_led (hd := [_, _]) (by assumption) (by assumption) (by assumption) (by assumption) _ _) ?k1 ?k2 ?k3 ?k4 ?k5 ?kK ?kd ?ku ?_; (case k1 => k_asm); (case k2 => k_asm); (case k3 => k_asm); (case k4 => k_asm); (case k5 => k_asm); (case kK => first | exact rfl | assumption); (case kd => ktr_room); (case ku => ktr_units))); k_dflt (intro _ _ _ _ _ N9 hp9; obtain ⟨hr9, _, _, _, hn9, _, _, _, m91, m92, _, _, _, _, _, _, _, _, _, _, _, he9, _, _⟩ := hp9; subst he9; subst hn9; subst hr9; simp only [List.cons_append, List.nil_append] at N9 m91 m92); (try dsimp only); (try k_fold)) | (k_here; (show wpAny _ _ (call (Value.ref 132) _) _ _ _); (try k_fold); (k_dflt (refine' Ct.use (took_led (hd := [_, _]) (by assumption) (by assumption) (by assumption) (by assumption) _ _) ?k1 ?k2 ?k3 ?k4 ?k5 ?kK ?kd ?ku ?_; (case k1 => k_asm); (case k2 => k_asm); (case k3 => k_asm); (case k4 => k_asm); (case k5 => k_asm); (case kK => first | exact rfl | assumption); (case kd => ktr_room); (case ku => ktr_units))); k_dflt (intro _ _ _ _ _ N9 hp9; obtain ⟨hr9, _, _, _, hn9, _, _, _, m91, m92, _, _, _, _, _, _, _, _, _, _, _, he9, _, _⟩ := hp9; subst he9; subst hn9; subst hr9; simp only [List.cons_append, List.nil_append] at N9 m91 m92); (try dsimp only); (try k_fold)) | (k_here; (show wpAny _ _ (call (Value.ref 125) _) _ _ _); (try k_fold); (k_dflt (refine' Ct.use (is_fit_led (hd := [_, _]) (by assumption) (by assumption) (by assumption) (by assumption) _ _ _ (by assumption) (by omega) (by omega)) ?k1 ?k2 ?k3 ?k4 ?k5 ?kK ?kd ?ku ?_; (case k1 => k_asm); (case k2 => k_asm); (case k3 => k_asm); (case k4 => k_asm); (case k5 => k_asm); (case kK => first | exact rfl | assumption); (case kd => ktr_room); (case ku => ktr_units))); (intro _ _ _ _ _ N9 hp9; obtain ⟨hn9, hr9⟩ := hp9; subst hn9; subst hr9; simp only [List.cons_append, List.nil_append] at N9); (try dsimp only); (try k_fold)) | (k_here; (show wpAny _ _ (call (Value.ref 111) _) _ _ _); (try k_fold); (k_dflt (refine' Ct.use (width_led (hd := [_, _]) (by assumption) (by assumption) (by assumption)) ?k1 ?k2 ?k3 ?k4 ?k5 ?kK ?kd ?ku ?_; (case k1 => k_asm); (case k2 => k_asm); (case k3 => k_asm); (case k4 => k_asm); (case k5 => k_asm); (case kK => first | exact rfl | assumption); (case kd => ktr_room); (case ku => ktr_units))); (intro _ _ _ _ _ N9 hp9; obtain ⟨hn9, _, hr9⟩ := hp9; subst hn9; subst hr9; simp only [List.cons_append, List.nil_append] at N9); (try dsimp only); (try k_fold)) | ((show wpAny _ _ (subscriptTail _ _ (Value.ref _) (Value.int _ _)) _ _ _); refine Stop.of ?_) | ((show wpAny _ _ (eval (Expr.Constant (Const.int _) _ _) _) _ _ _); refine flat_int ?_) | ((show wpAny _ _ (binaryOp Operator.Add (Value.int _ _) (Value.int _ _)) _ _ _); refine flat_add ?_) | ((show wpAny _ _ (binaryOp Operator.Sub (Value.int _ _) (Value.int _ _)) _ _ _); refine flat_sub ?_) | ((show wpAny _ _ (eval (Expr.BinOp _ _ _ _) _) _ _ _); k_fold; k_dflt walk1) | ((show wpAny _ _ (eval (Expr.Compare _ _ _ _) _) _ _ _); k_fold; k_dflt walk1)) | walk1 | (dsimp only; first | (with_reducible first | (k_here; (show wpAny _ _ (call (Value.ref 118) _) _ _ _); (try k_fold); (k_dflt (refine' Ct.use (reach_led (hd := [_, _]) (by assumption) (by assumption) (by assumption) (by assumption) _ _) ?k1 ?k2 ?k3 ?k4 ?k5 ?kK ?kd ?ku ?_; (case k1 => k_asm); (case k2 => k_asm); (case k3 => k_asm); (case k4 => k_asm); (case k5 => k_asm); (case kK => first | exact rfl | assumption); (case kd => ktr_room); (case ku => ktr_units))); k_dflt (intro _ _ _ _ _ N9 hp9; obtain ⟨hr9, _, _, _, hn9, _, _, _, m91, m92, _, _, _, _, _, _, _, _, _, _, _, he9, _, _⟩ := hp9; subst he9; subst hn9; subst hr9; simp only [List.cons_append, List.nil_append] at N9 m91 m92); (try dsimp only); (try k_fold)) | (k_here; (show wpAny _ _ (call (Value.ref 132) _) _ _ _); (try k_fold); (k_dflt (refine' Ct.use (took_led (hd := [_, _]) (by assumption) (by assumption) (by assumption) (by assumption) _ _) ?k1 ?k2 ?k3 ?k4 ?k5 ?kK ?kd ?ku ?_; (case k1 => k_asm); (case k2 => k_asm); (case k3 => k_asm); (case k4 => k_asm); (case k5 => k_asm); (case kK => first | exact rfl | assumption); (case kd => ktr_room); (case ku => ktr_units))); k_dflt (intro _ _ _ _ _ N9 hp9; obtain ⟨hr9, _, _, _, hn9, _, _, _, m91, m92, _, _, _, _, _, _, _, _, _, _, _, he9, _, _⟩ := hp9; subst he9; subst hn9; subst hr9; simp only [List.cons_append, List.nil_append] at N9 m91 m92); (try dsimp only); (try k_fold)) | (k_here; (show wpAny _ _ (call (Value.ref 125) _) _ _ _); (try k_fold); (k_dflt (refine' Ct.use (is_fit_led (hd := [_, _]) (by assumption) (by assumption) (by assumption) (by assumption) _ _ _ (by assumption) (by omega) (by omega)) ?k1 ?k2 ?k3 ?k4 ?k5 ?kK ?kd ?ku ?_; (case k1 => k_asm); (case k2 => k_asm); (case k3 => k_asm); (case k4 => k_asm); (case k5 => k_asm); (case kK => first | exact rfl | assumption); (case kd => ktr_room); (case ku => ktr_units))); (intro _ _ _ _ _ N9 hp9; obtain ⟨hn9, hr9⟩ := hp9; subst hn9; subst hr9; simp only [List.cons_append, List.nil_append] at N9); (try dsimp only); (try k_fold)) | (k_here; (show wpAny _ _ (call (Value.ref 111) _) _ _ _); (try k_fold); (k_dflt (refine' Ct.use (width_led (hd := [_, _]) (by assumption) (by assumption) (by assumption)) ?k1 ?k2 ?k3 ?k4 ?k5 ?kK ?kd ?ku ?_; (case k1 => k_asm); (case k2 => k_asm); (case k3 => k_asm); (case k4 => k_asm); (case k5 => k_asm); (case kK => first | exact rfl | assumption); (case kd => ktr_room); (case ku => ktr_units))); (intro _ _ _ _ _ N9 hp9; obtain ⟨hn9, _, hr9⟩ := hp9; subst hn9; subst hr9; simp only [List.cons_append, List.nil_append] at N9); (try dsimp only); (try k_fold)) | ((show wpAny _ _ (subscriptTail _ _ (Value.ref _) (Value.int _ _)) _ _ _); refine Stop.of ?_)) | walk1) | (leave1; walk_say "STEP leave1"; try dsimp only) | fail "no step"))
        refine ws2_next (by k_asm) (by assumption) (n' := ko.length - (i + 1)) (by omega) ⟨i + 1, _, Ts, tl', led2, kf, rfl, by omega, hH2, had2.trans hadr, rfl, ?_, hfr, norm4 rfl fun z h1 h2 h3 h4 => by simp only [if_neg h1, if_neg h2, if_neg h3, if_neg h4]⟩
        rw [fitsL_succ, hfk]; simpa using hT
      | some j0 =>
        rw [hfk] at htv
        obtain ⟨t0, rfl⟩ := htv
        have hTl : Ts.length ≤ 1000 := by rw [hT.1]; exact Nat.le_trans fitsL_len (by omega)
        have hsz : (Ts.map Value.ref).toArray.size ≤ 1000 := by simpa using hTl
        have hneF : ∀ p ∈ led2 ++ (tl' ++ rest), p.1 ≠ F := by
          intro p hp
          rcases List.mem_append.mp hp with hp | hp
          · exact (hsp (F, listOf (Ts.map Value.ref).toArray kf) (by simp) p hp).symm
          · rcases List.mem_append.mp hp with hp | hp
            · exact Nat.ne_of_gt (hfr p hp).1
            · exact Nat.ne_of_lt (lt_all lA.2 p (List.mem_append_right _ hp))
        (repeat' (first | (k_unfold; (try dsimp only)) | (k_end; kc_close) | (with_reducible first | (k_here; (show wpAny _ _ (call (Value.ref 118) _) _ _ _); (try k_fold); (k_dflt (refine' Ct.use (reach_led (hd := [_, _]) (by assumption) (by assumption) (by assumption) (by assumption) _ _) ?k1 ?k2 ?k3 ?k4 ?k5 ?kK ?kd ?ku ?_; (case k1 => k_asm); (case k2 => k_asm); (case k3 => k_asm); (case k4 => k_asm); (case k5 => k_asm); (case kK => first | exact rfl | assumption); (case kd => ktr_room); (case ku => ktr_units))); k_dflt (intro _ _ _ _ _ N9 hp9; obtain ⟨hr9, _, _, _, hn9, _, _, _, m91, m92, _, _, _, _, _, _, _, _, _, _, _, he9, _, _⟩ := hp9; subst he9; subst hn9; subst hr9; simp only [List.cons_append, List.nil_append] at N9 m91 m92); (try dsimp only); (try k_fold)) | (k_here; (show wpAny _ _ (call (Value.ref 132) _) _ _ _); (try k_fold); (k_dflt (refine' Ct.use (took_led (hd := [_, _]) (by assumption) (by assumption) (by assumption) (by assumption) _ _) ?k1 ?k2 ?k3 ?k4 ?k5 ?kK ?kd ?ku ?_; (case k1 => k_asm); (case k2 => k_asm); (case k3 => k_asm); (case k4 => k_asm); (case k5 => k_asm); (case kK => first | exact rfl | assumption); (case kd => ktr_room); (case ku => ktr_units))); k_dflt (intro _ _ _ _ _ N9 hp9; obtain ⟨hr9, _, _, _, hn9, _, _, _, m91, m92, _, _, _, _, _, _, _, _, _, _, _, he9, _, _⟩ := hp9; subst he9; subst hn9; subst hr9; simp only [List.cons_append, List.nil_append] at N9 m91 m92); (try dsimp only); (try k_fold)) | (k_here; (show wpAny _ _ (call (Value.ref 125) _) _ _ _); (try k_fold); (k_dflt (refine' Ct.use (is_fit_led (hd := [_, _]) (by assumption) (by assumption) (by assumption) (by assumption) _ _ _ (by assumption) (by omega) (by omega)) ?k1 ?k2 ?k3 ?k4 ?k5 ?kK ?kd ?ku ?_; (case k1 => k_asm); (case k2 => k_asm); (case k3 => k_asm); (case k4 => k_asm); (case k5 => k_asm); (case kK => first | exact rfl | assumption); (case kd => ktr_room); (case ku => ktr_units))); (intro _ _ _ _ _ N9 hp9; obtain ⟨hn9, hr9⟩ := hp9; subst hn9; subst hr9; simp only [List.cons_append, List.nil_append] at N9); (try dsimp only); (try k_fold)) | (k_here; (show wpAny _ _ (call (Value.ref 111) _) _ _ _); (try k_fold); (k_dflt (refine' Ct.use (width_led (hd := [_, _]) (by assumption) (by assumption) (by assumption)) ?k1 ?k2 ?k3 ?k4 ?k5 ?kK ?kd ?ku ?_; (case k1 => k_asm); (case k2 => k_asm); (case k3 => k_asm); (case k4 => k_asm); (case k5 => k_asm); (case kK => first | exact rfl | assumption); (case kd => ktr_room); (case ku => ktr_units))); (intro _ _ _ _ _ N9 hp9; obtain ⟨hn9, _, hr9⟩ := hp9; subst hn9; subst hr9; simp only [List.cons_append, List.nil_append] at N9); (try dsimp only); (try k_fold)) | ((show wpAny _ _ (subscriptTail _ _ (Value.ref _) (Value.int _ _)) _ _ _); refine Stop.of ?_) | ((show wpAny _ _ (eval (Expr.Constant (Const.int _) _ _) _) _ _ _); refine flat_int ?_) | ((show wpAny _ _ (binaryOp Operator.Add (Value.int _ _) (Value.int _ _)) _ _ _); refine flat_add ?_) | ((show wpAny _ _ (binaryOp Operator.Sub (Value.int _ _) (Value.int _ _)) _ _ _); refine flat_sub ?_) | ((show wpAny _ _ (eval (Expr.BinOp _ _ _ _) _) _ _ _); k_fold; k_dflt walk1) | ((show wpAny _ _ (eval (Expr.Compare _ _ _ _) _) _ _ _); k_fold; k_dflt walk1)) | walk1 | (dsimp only; first | (with_reducible first | (k_here; (show wpAny _ _ (call (Value.ref 118) _) _ _ _); (try k_fold); (k_dflt (refine' Ct.use (reach_led (hd := [_, _]) (by assumption) (by assumption) (by assumption) (by assumption) _ _) ?k1 ?k2 ?k3 ?k4 ?k5 ?kK ?kd ?ku ?_; (case k1 => k_asm); (case k2 => k_asm); (case k3 => k_asm); (case k4 => k_asm); (case k5 => k_asm); (case kK => first | exact rfl | assumption); (case kd => ktr_room); (case ku => ktr_units))); k_dflt (intro _ _ _ _ _ N9 hp9; obtain ⟨hr9, _, _, _, hn9, _, _, _, m91, m92, _, _, _, _, _, _, _, _, _, _, _, he9, _, _⟩ := hp9; subst he9; subst hn9; subst hr9; simp only [List.cons_append, List.nil_append] at N9 m91 m92); (try dsimp only); (try k_fold)) | (k_here; (show wpAny _ _ (call (Value.ref 132) _) _ _ _); (try k_fold); (k_dflt (refine' Ct.use (took_led (hd := [_, _]) (by assumption) (by assumption) (by assumption) (by assumption) _ _) ?k1 ?k2 ?k3 ?k4 ?k5 ?kK ?kd ?ku ?_; (case k1 => k_asm); (case k2 => k_asm); (case k3 => k_asm); (case k4 => k_asm); (case k5 => k_asm); (case kK => first | exact rfl | assumption); (case kd => ktr_room); (case ku => ktr_units))); k_dflt (intro _ _ _ _ _ N9 hp9; obtain ⟨hr9, _, _, _, hn9, _, _, _, m91, m92, _, _, _, _, _, _, _, _, _, _, _, he9, _, _⟩ := hp9; subst he9; subst hn9; subst hr9; simp only [List.cons_append, List.nil_append] at N9 m91 m92); (try dsimp only); (try k_fold)) | (k_here; (show wpAny _ _ (call (Value.ref 125) _) _ _ _); (try k_fold); (k_dflt (refine' Ct.use (is_fit_led (hd := [_, _]) (by assumption) (by assumption) (by assumption) (by assumption) _ _ _ (by assumption) (by omega) (by omega)) ?k1 ?k2 ?k3 ?k4 ?k5 ?kK ?kd ?ku ?_; (case k1 => k_asm); (case k2 => k_asm); (case k3 => k_asm); (case k4 => k_asm); (case k5 => k_asm); (case kK => first | exact rfl | assumption); (case kd => ktr_room); (case ku => ktr_units))); (intro _ _ _ _ _ N9 hp9; obtain ⟨hn9, hr9⟩ := hp9; subst hn9; subst hr9; simp only [List.cons_append, List.nil_append] at N9); (try dsimp only); (try k_fold)) | (k_here; (show wpAny _ _ (call (Value.ref 111) _) _ _ _); (try k_fold); (k_dflt (refine' Ct.use (width_led (hd := [_, _]) (by assumption) (by assumption) (by assumption)) ?k1 ?k2 ?k3 ?k4 ?k5 ?kK ?kd ?ku ?_; (case k1 => k_asm); (case k2 => k_asm); (case k3 => k_asm); (case k4 => k_asm); (case k5 => k_asm); (case kK => first | exact rfl | assumption); (case kd => ktr_room); (case ku => ktr_units))); (intro _ _ _ _ _ N9 hp9; obtain ⟨hn9, _, hr9⟩ := hp9; subst hn9; subst hr9; simp only [List.cons_append, List.nil_append] at N9); (try dsimp only); (try k_fold)) | ((show wpAny _ _ (subscriptTail _ _ (Value.ref _) (Value.int _ _)) _ _ _); refine Stop.of ?_)) | walk1) | (leave1; walk_say "STEP leave1"; try dsimp only) | fail "no step"))
        rename_i T hT1 lT hT2 F5 N5
        have hj0 : j0 < cks.length := (List.findIdx?_eq_some_iff_getElem.mp hfk).1
        have hc : cks[j0]? = some cks[j0] := List.getElem?_eq_getElem hj0
        have hx : xs[j0]? = some (xs[j0]'(by omega)) := List.getElem?_eq_getElem (by omega)
        generalize cks[j0] = c at hc
        generalize xs[j0]'(by omega) = x at hx
        have hx0 : ((xs.map Value.ref).toArray)[((j0 : Nat) : Int).toNat]? = some (.ref x) := by
          rw [Int.toNat_natCast, List.getElem?_toArray, List.getElem?_map, hx]; rfl
        have N6 : News g' L' hT2 ((F, listOf ((Ts ++ [T]).map Value.ref).toArray (kf + 1)) :: (S, listOf (xs.map Value.ref).toArray n) :: (led2 ++ (((T, tup2 (.int i ti) (.int j0 t0)) :: tl') ++ rest))) := by
          have e : ((Ts ++ [T]).map Value.ref).toArray = (Ts.map Value.ref).toArray.push (.ref T) := by simp
          rw [e]
          intro p hp
          refine N5 p ?_
          simp only [List.mem_cons, List.mem_append] at hp ⊢
          grind
        obtain ⟨tl2, htl2, N6⟩ : ∃ tl2, tl2 = (T, tup2 (.int i ti) (.int j0 t0)) :: tl' ∧ News g' L' hT2 ((F, listOf ((Ts ++ [T]).map Value.ref).toArray (kf + 1)) :: (S, listOf (xs.map Value.ref).toArray n) :: (led2 ++ (tl2 ++ rest))) := ⟨_, rfl, N6⟩
        have hsp2 : ∀ p ∈ [(F, listOf ((Ts ++ [T]).map Value.ref).toArray (kf + 1)), (S, listOf (xs.map Value.ref).toArray n)] ++ (tl2 ++ rest), ∀ q ∈ led2, p.1 ≠ q.1 := by
          intro p hp q hq
          rcases List.mem_append.mp hp with hp | hp
          · exact hFS p hp q (had2.trans hadr) hq
          · rw [htl2] at hp
            rcases List.mem_append.mp hp with hp | hp
            · rcases List.mem_cons.mp hp with rfl | hp
              · exact Nat.ne_of_gt (lt_all lT.2.2 q (List.mem_append_left _ hq))
              · exact hsp p (List.mem_append_right _ (List.mem_append_left _ hp)) q hq
            · exact hsp p (List.mem_append_right _ (List.mem_append_right _ hp)) q hq
        obtain ⟨d, es, hm1', hm2', k91, k92, k93, k94, k95, k96, vk9, vw9, tb9, te9, vl9, rfl, hk9, hl9⟩ := hH2.here (P := w.params) (hd := [(F, listOf ((Ts ++ [T]).map Value.ref).toArray (kf + 1)), (S, listOf (xs.map Value.ref).toArray n)]) (tl := tl2 ++ rest) hc hx
        simp only [List.cons_append, List.nil_append] at hm1' hm2'
        clear N5 hsp hneF
        refine Stop.go ?_
        (try k_fold)
        refine (list_item (l := S) ⟨_, (N6 (S, listOf (xs.map Value.ref).toArray n) (by simp)).1, rfl, n, rfl⟩ (by omega) (by omega) hx0 ?_)
        (repeat' (first | (k_unfold; (try dsimp only)) | (k_end; kc_close) | (with_reducible first | (k_here; (show wpAny _ _ (call (Value.ref 118) _) _ _ _); (try k_fold); (k_dflt (refine' Ct.use (reach_led (hd := [_, _]) (by assumption) (by assumption) (by assumption) (by assumption) _ _) ?k1 ?k2 ?k3 ?k4 ?k5 ?kK ?kd ?ku ?_; (case k1 => k_asm); (case k2 => k_asm); (case k3 => k_asm); (case k4 => k_asm); (case k5 => k_asm); (case kK => first | exact rfl | assumption); (case kd => ktr_room); (case ku => ktr_units))); k_dflt (intro _ _ _ _ _ N9 hp9; obtain ⟨hr9, _, _, _, hn9, _, _, _, m91, m92, _, _, _, _, _, _, _, _, _, _, _, he9, _, _⟩ := hp9; subst he9; subst hn9; subst hr9; simp only [List.cons_append, List.nil_append] at N9 m91 m92); (try dsimp only); (try k_fold)) | (k_here; (show wpAny _ _ (call (Value.ref 132) _) _ _ _); (try k_fold); (k_dflt (refine' Ct.use (took_led (hd := [_, _]) (by assumption) (by assumption) (by assumption) (by assumption) _ _) ?k1 ?k2 ?k3 ?k4 ?k5 ?kK ?kd ?ku ?_; (case k1 => k_asm); (case k2 => k_asm); (case k3 => k_asm); (case k4 => k_asm); (case k5 => k_asm); (case kK => first | exact rfl | assumption); (case kd => ktr_room); (case ku => ktr_units))); k_dflt (intro _ _ _ _ _ N9 hp9; obtain ⟨hr9, _, _, _, hn9, _, _, _, m91, m92, _, _, _, _, _, _, _, _, _, _, _, he9, _, _⟩ := hp9; subst he9; subst hn9; subst hr9; simp only [List.cons_append, List.nil_append] at N9 m91 m92); (try dsimp only); (try k_fold)) | (k_here; (show wpAny _ _ (call (Value.ref 125) _) _ _ _); (try k_fold); (k_dflt (refine' Ct.use (is_fit_led (hd := [_, _]) (by assumption) (by assumption) (by assumption) (by assumption) _ _ _ (by assumption) (by omega) (by omega)) ?k1 ?k2 ?k3 ?k4 ?k5 ?kK ?kd ?ku ?_; (case k1 => k_asm); (case k2 => k_asm); (case k3 => k_asm); (case k4 => k_asm); (case k5 => k_asm); (case kK => first | exact rfl | assumption); (case kd => ktr_room); (case ku => ktr_units))); (intro _ _ _ _ _ N9 hp9; obtain ⟨hn9, hr9⟩ := hp9; subst hn9; subst hr9; simp only [List.cons_append, List.nil_append] at N9); (try dsimp only); (try k_fold)) | (k_here; (show wpAny _ _ (call (Value.ref 111) _) _ _ _); (try k_fold); (k_dflt (refine' Ct.use (width_led (hd := [_, _]) (by assumption) (by assumption) (by assumption)) ?k1 ?k2 ?k3 ?k4 ?k5 ?kK ?kd ?ku ?_; (case k1 => k_asm); (case k2 => k_asm); (case k3 => k_asm); (case k4 => k_asm); (case k5 => k_asm); (case kK => first | exact rfl | assumption); (case kd => ktr_room); (case ku => ktr_units))); (intro _ _ _ _ _ N9 hp9; obtain ⟨hn9, _, hr9⟩ := hp9; subst hn9; subst hr9; simp only [List.cons_append, List.nil_append] at N9); (try dsimp only); (try k_fold)) | ((show wpAny _ _ (subscriptTail _ _ (Value.ref _) (Value.int _ _)) _ _ _); refine Stop.of ?_) | ((show wpAny _ _ (eval (Expr.Constant (Const.int _) _ _) _) _ _ _); refine flat_int ?_) | ((show wpAny _ _ (binaryOp Operator.Add (Value.int _ _) (Value.int _ _)) _ _ _); refine flat_add ?_) | ((show wpAny _ _ (binaryOp Operator.Sub (Value.int _ _) (Value.int _ _)) _ _ _); refine flat_sub ?_) | ((show wpAny _ _ (eval (Expr.BinOp _ _ _ _) _) _ _ _); k_fold; k_dflt walk1) | ((show wpAny _ _ (eval (Expr.Compare _ _ _ _) _) _ _ _); k_fold; k_dflt walk1)) | walk1 | (dsimp only; first | (with_reducible first | (k_here; (show wpAny _ _ (call (Value.ref 118) _) _ _ _); (try k_fold); (k_dflt (refine' Ct.use (reach_led (hd := [_, _]) (by assumption) (by assumption) (by assumption) (by assumption) _ _) ?k1 ?k2 ?k3 ?k4 ?k5 ?kK ?kd ?ku ?_; (case k1 => k_asm); (case k2 => k_asm); (case k3 => k_asm); (case k4 => k_asm); (case k5 => k_asm); (case kK => first | exact rfl | assumption); (case kd => ktr_room); (case ku => ktr_units))); k_dflt (intro _ _ _ _ _ N9 hp9; obtain ⟨hr9, _, _, _, hn9, _, _, _, m91, m92, _, _, _, _, _, _, _, _, _, _, _, he9, _, _⟩ := hp9; subst he9; subst hn9; subst hr9; simp only [List.cons_append, List.nil_append] at N9 m91 m92); (try dsimp only); (try k_fold)) | (k_here; (show wpAny _ _ (call (Value.ref 132) _) _ _ _); (try k_fold); (k_dflt (refine' Ct.use (took_led (hd := [_, _]) (by assumption) (by assumption) (by assumption) (by assumption) _ _) ?k1 ?k2 ?k3 ?k4 ?k5 ?kK ?kd ?ku ?_; (case k1 => k_asm); (case k2 => k_asm); (case k3 => k_asm); (case k4 => k_asm); (case k5 => k_asm); (case kK => first | exact rfl | assumption); (case kd => ktr_room); (case ku => ktr_units))); k_dflt (intro _ _ _ _ _ N9 hp9; obtain ⟨hr9, _, _, _, hn9, _, _, _, m91, m92, _, _, _, _, _, _, _, _, _, _, _, he9, _, _⟩ := hp9; subst he9; subst hn9; subst hr9; simp only [List.cons_append, List.nil_append] at N9 m91 m92); (try dsimp only); (try k_fold)) | (k_here; (show wpAny _ _ (call (Value.ref 125) _) _ _ _); (try k_fold); (k_dflt (refine' Ct.use (is_fit_led (hd := [_, _]) (by assumption) (by assumption) (by assumption) (by assumption) _ _ _ (by assumption) (by omega) (by omega)) ?k1 ?k2 ?k3 ?k4 ?k5 ?kK ?kd ?ku ?_; (case k1 => k_asm); (case k2 => k_asm); (case k3 => k_asm); (case k4 => k_asm); (case k5 => k_asm); (case kK => first | exact rfl | assumption); (case kd => ktr_room); (case ku => ktr_units))); (intro _ _ _ _ _ N9 hp9; obtain ⟨hn9, hr9⟩ := hp9; subst hn9; subst hr9; simp only [List.cons_append, List.nil_append] at N9); (try dsimp only); (try k_fold)) | (k_here; (show wpAny _ _ (call (Value.ref 111) _) _ _ _); (try k_fold); (k_dflt (refine' Ct.use (width_led (hd := [_, _]) (by assumption) (by assumption) (by assumption)) ?k1 ?k2 ?k3 ?k4 ?k5 ?kK ?kd ?ku ?_; (case k1 => k_asm); (case k2 => k_asm); (case k3 => k_asm); (case k4 => k_asm); (case k5 => k_asm); (case kK => first | exact rfl | assumption); (case kd => ktr_room); (case ku => ktr_units))); (intro _ _ _ _ _ N9 hp9; obtain ⟨hn9, _, hr9⟩ := hp9; subst hn9; subst hr9; simp only [List.cons_append, List.nil_append] at N9); (try dsimp only); (try k_fold)) | ((show wpAny _ _ (subscriptTail _ _ (Value.ref _) (Value.int _ _)) _ _ _); refine Stop.of ?_)) | walk1) | (leave1; walk_say "STEP leave1"; try dsimp only) | fail "no step"))
        rename News g' _ _ _ => N9
        refine Stop.go ?_
        (try k_fold)
        refine (list_item (l := S) ⟨_, (N9 (S, listOf (xs.map Value.ref).toArray n) (by simp)).1, rfl, n, rfl⟩ (by omega) (by omega) hx0 ?_)
        (repeat' (first | (k_unfold; (try dsimp only)) | (k_end; kc_close) | (with_reducible first | (k_here; (show wpAny _ _ (call (Value.ref 118) _) _ _ _); (try k_fold); (k_dflt (refine' Ct.use (reach_led (hd := [_, _]) (by assumption) (by assumption) (by assumption) (by assumption) _ _) ?k1 ?k2 ?k3 ?k4 ?k5 ?kK ?kd ?ku ?_; (case k1 => k_asm); (case k2 => k_asm); (case k3 => k_asm); (case k4 => k_asm); (case k5 => k_asm); (case kK => first | exact rfl | assumption); (case kd => ktr_room); (case ku => ktr_units))); k_dflt (intro _ _ _ _ _ N9 hp9; obtain ⟨hr9, _, _, _, hn9, _, _, _, m91, m92, _, _, _, _, _, _, _, _, _, _, _, he9, _, _⟩ := hp9; subst he9; subst hn9; subst hr9; simp only [List.cons_append, List.nil_append] at N9 m91 m92); (try dsimp only); (try k_fold)) | (k_here; (show wpAny _ _ (call (Value.ref 132) _) _ _ _); (try k_fold); (k_dflt (refine' Ct.use (took_led (hd := [_, _]) (by assumption) (by assumption) (by assumption) (by assumption) _ _) ?k1 ?k2 ?k3 ?k4 ?k5 ?kK ?kd ?ku ?_; (case k1 => k_asm); (case k2 => k_asm); (case k3 => k_asm); (case k4 => k_asm); (case k5 => k_asm); (case kK => first | exact rfl | assumption); (case kd => ktr_room); (case ku => ktr_units))); k_dflt (intro _ _ _ _ _ N9 hp9; obtain ⟨hr9, _, _, _, hn9, _, _, _, m91, m92, _, _, _, _, _, _, _, _, _, _, _, he9, _, _⟩ := hp9; subst he9; subst hn9; subst hr9; simp only [List.cons_append, List.nil_append] at N9 m91 m92); (try dsimp only); (try k_fold)) | (k_here; (show wpAny _ _ (call (Value.ref 125) _) _ _ _); (try k_fold); (k_dflt (refine' Ct.use (is_fit_led (hd := [_, _]) (by assumption) (by assumption) (by assumption) (by assumption) _ _ _ (by assumption) (by omega) (by omega)) ?k1 ?k2 ?k3 ?k4 ?k5 ?kK ?kd ?ku ?_; (case k1 => k_asm); (case k2 => k_asm); (case k3 => k_asm); (case k4 => k_asm); (case k5 => k_asm); (case kK => first | exact rfl | assumption); (case kd => ktr_room); (case ku => ktr_units))); (intro _ _ _ _ _ N9 hp9; obtain ⟨hn9, hr9⟩ := hp9; subst hn9; subst hr9; simp only [List.cons_append, List.nil_append] at N9); (try dsimp only); (try k_fold)) | (k_here; (show wpAny _ _ (call (Value.ref 111) _) _ _ _); (try k_fold); (k_dflt (refine' Ct.use (width_led (hd := [_, _]) (by assumption) (by assumption) (by assumption)) ?k1 ?k2 ?k3 ?k4 ?k5 ?kK ?kd ?ku ?_; (case k1 => k_asm); (case k2 => k_asm); (case k3 => k_asm); (case k4 => k_asm); (case k5 => k_asm); (case kK => first | exact rfl | assumption); (case kd => ktr_room); (case ku => ktr_units))); (intro _ _ _ _ _ N9 hp9; obtain ⟨hn9, _, hr9⟩ := hp9; subst hn9; subst hr9; simp only [List.cons_append, List.nil_append] at N9); (try dsimp only); (try k_fold)) | ((show wpAny _ _ (subscriptTail _ _ (Value.ref _) (Value.int _ _)) _ _ _); refine Stop.of ?_) | ((show wpAny _ _ (eval (Expr.Constant (Const.int _) _ _) _) _ _ _); refine flat_int ?_) | ((show wpAny _ _ (binaryOp Operator.Add (Value.int _ _) (Value.int _ _)) _ _ _); refine flat_add ?_) | ((show wpAny _ _ (binaryOp Operator.Sub (Value.int _ _) (Value.int _ _)) _ _ _); refine flat_sub ?_) | ((show wpAny _ _ (eval (Expr.BinOp _ _ _ _) _) _ _ _); k_fold; k_dflt walk1) | ((show wpAny _ _ (eval (Expr.Compare _ _ _ _) _) _ _ _); k_fold; k_dflt walk1)) | walk1 | (dsimp only; first | (with_reducible first | (k_here; (show wpAny _ _ (call (Value.ref 118) _) _ _ _); (try k_fold); (k_dflt (refine' Ct.use (reach_led (hd := [_, _]) (by assumption) (by assumption) (by assumption) (by assumption) _ _) ?k1 ?k2 ?k3 ?k4 ?k5 ?kK ?kd ?ku ?_; (case k1 => k_asm); (case k2 => k_asm); (case k3 => k_asm); (case k4 => k_asm); (case k5 => k_asm); (case kK => first | exact rfl | assumption); (case kd => ktr_room); (case ku => ktr_units))); k_dflt (intro _ _ _ _ _ N9 hp9; obtain ⟨hr9, _, _, _, hn9, _, _, _, m91, m92, _, _, _, _, _, _, _, _, _, _, _, he9, _, _⟩ := hp9; subst he9; subst hn9; subst hr9; simp only [List.cons_append, List.nil_append] at N9 m91 m92); (try dsimp only); (try k_fold)) | (k_here; (show wpAny _ _ (call (Value.ref 132) _) _ _ _); (try k_fold); (k_dflt (refine' Ct.use (took_led (hd := [_, _]) (by assumption) (by assumption) (by assumption) (by assumption) _ _) ?k1 ?k2 ?k3 ?k4 ?k5 ?kK ?kd ?ku ?_; (case k1 => k_asm); (case k2 => k_asm); (case k3 => k_asm); (case k4 => k_asm); (case k5 => k_asm); (case kK => first | exact rfl | assumption); (case kd => ktr_room); (case ku => ktr_units))); k_dflt (intro _ _ _ _ _ N9 hp9; obtain ⟨hr9, _, _, _, hn9, _, _, _, m91, m92, _, _, _, _, _, _, _, _, _, _, _, he9, _, _⟩ := hp9; subst he9; subst hn9; subst hr9; simp only [List.cons_append, List.nil_append] at N9 m91 m92); (try dsimp only); (try k_fold)) | (k_here; (show wpAny _ _ (call (Value.ref 125) _) _ _ _); (try k_fold); (k_dflt (refine' Ct.use (is_fit_led (hd := [_, _]) (by assumption) (by assumption) (by assumption) (by assumption) _ _ _ (by assumption) (by omega) (by omega)) ?k1 ?k2 ?k3 ?k4 ?k5 ?kK ?kd ?ku ?_; (case k1 => k_asm); (case k2 => k_asm); (case k3 => k_asm); (case k4 => k_asm); (case k5 => k_asm); (case kK => first | exact rfl | assumption); (case kd => ktr_room); (case ku => ktr_units))); (intro _ _ _ _ _ N9 hp9; obtain ⟨hn9, hr9⟩ := hp9; subst hn9; subst hr9; simp only [List.cons_append, List.nil_append] at N9); (try dsimp only); (try k_fold)) | (k_here; (show wpAny _ _ (call (Value.ref 111) _) _ _ _); (try k_fold); (k_dflt (refine' Ct.use (width_led (hd := [_, _]) (by assumption) (by assumption) (by assumption)) ?k1 ?k2 ?k3 ?k4 ?k5 ?kK ?kd ?ku ?_; (case k1 => k_asm); (case k2 => k_asm); (case k3 => k_asm); (case k4 => k_asm); (case k5 => k_asm); (case kK => first | exact rfl | assumption); (case kd => ktr_room); (case ku => ktr_units))); (intro _ _ _ _ _ N9 hp9; obtain ⟨hn9, _, hr9⟩ := hp9; subst hn9; subst hr9; simp only [List.cons_append, List.nil_append] at N9); (try dsimp only); (try k_fold)) | ((show wpAny _ _ (subscriptTail _ _ (Value.ref _) (Value.int _ _)) _ _ _); refine Stop.of ?_)) | walk1) | (leave1; walk_say "STEP leave1"; try dsimp only) | fail "no step"))
        refine ws2_next (by k_asm) (by assumption) (n' := ko.length - (i + 1)) (by omega) ⟨i + 1, _, Ts ++ [T], tl2, _, kf + 1, rfl, by omega, by assumption, Eq.trans (by assumption) (had2.trans hadr), rfl, ?_, ?_, norm4 rfl fun z h1 h2 h3 h4 => by simp only [if_neg h1, if_neg h2, if_neg h3, if_neg h4]⟩
        · rw [fitsL_succ, hfk]
          exact tups_snoc hT (by rw [htl2]; exact List.mem_cons_self ..) (fun p hp => by rw [htl2]; exact List.mem_cons_of_mem _ hp)
        · rw [htl2]
          intro p hp
          rcases List.mem_cons.mp hp with rfl | hp
          · refine ⟨lT.1, fun q hq => ?_⟩
            rcases List.mem_append.mp hq with hq | hq
            · have : q.1 ∈ led2.map (·.1) := by rw [had2, hadr]; exact List.mem_map_of_mem hq
              obtain ⟨q', hq', e⟩ := List.mem_map.mp this
              exact e ▸ lt_all lT.2.2 q' (List.mem_append_left _ hq')
            · exact lt_all lT.2.2 q (List.mem_append_right _ (List.mem_append_right _ hq))
          · exact hfr p hp
  · have hie : i = ko.length := by omega
    subst hie
    refine hret _ _ _ _ (by k_asm) (by k_asm) ⟨F, Ts, tl', led', kf, rfl, hH, hadr, rfl, hT, ?_⟩
    intro p hp q hq
    rcases List.mem_cons.mp hp with rfl | hp
    · rcases List.mem_cons.mp hq with rfl | hq
      · exact lA.1
      · exact lt_all lA.2 q hq
    · rcases List.mem_cons.mp hq with rfl | hq
      · exact Nat.lt_trans lA.1 (hfr p hp).1
      · exact (hfr p hp).2 q hq
end


section
open PySem.Spec
/-- a namespace, told of its object -/
def NsO (o : Obj) (m : Str → Option Value) : Prop := ∃ es ep, o.data = .dict es ep ∧ StrKeys es ∧ ∀ name, nsFind es name = m name
theorem NsO.ns {h : Heap} {a : Addr} {o : Obj} {m : Str → Option Value} (x : NsO o m) (e : h.get? a = some o) : h.Ns a m := let ⟨es, ep, h1, h2, h3⟩ := x; ⟨o, es, ep, e, h1, h2, h3⟩
theorem ns_obj {h : Heap} {a : Addr} {m : Str → Option Value} (x : h.Ns a m) : ∃ o, h.get? a = some o ∧ NsO o m := let ⟨o, es, ep, e, h1, h2, h3⟩ := x; ⟨o, e, es, ep, h1, h2, h3⟩
/-- the three objects that a comprehension keeps: what it gathers, its names, its source's iterator -/
noncomputable abbrev own3 (D C I : Addr) (ys : Array Value) (k : Nat) (oC oI : Obj) : List (Addr × Obj) := [(D, listOf ys k), (C, oC), (I, oI)]
/-- what an element's walk has to leave -/
def CompEnd (h₀ : Heap) (L : Addr) (m : Str → Option Value) (D C I : Addr) (ys : Array Value) (k : Nat) (oC oI : Obj) (J : Array Value → List (Addr × Obj) → Prop) (s₁ : Shared) (add : List Value) (s₂ : Shared) : Prop :=
  ∃ h' tk' news', s₂ = { s₁ with heap := h', toks := tk' } ∧ Fr h₀ L h' m ∧ News h₀ L h' (news' ++ own3 D C I ys k oC oI) ∧ (∀ p ∈ news', p.1 ≠ D ∧ p.1 ≠ C ∧ p.1 ≠ I) ∧ J (ys ++ add.toArray) news'
theorem CompEnd.mk {h₀ : Heap} {L : Addr} {m : Str → Option Value} {D C I : Addr} {ys : Array Value} {k : Nat} {oC oI : Obj} {J : Array Value → List (Addr × Obj) → Prop} {s₁ : Shared} {add : List Value} {h' : Heap} {tk' : Nat} {news' : List (Addr × Obj)}
    (F : Fr h₀ L h' m) (N : News h₀ L h' (news' ++ own3 D C I ys k oC oI)) (off : ∀ p ∈ news', p.1 ≠ D ∧ p.1 ≠ C ∧ p.1 ≠ I) (hj : J (ys ++ add.toArray) news') : CompEnd h₀ L m D C I ys k oC oI J s₁ add { s₁ with heap := h', toks := tk' } :=
  ⟨h', tk', news', rfl, F, N, off, hj⟩
theorem get_push_lt {h : Heap} {o : Obj} {a : Addr} {x : Obj} (e : h.get? a = some x) : (h.push o).get? a = some x := Heap.get?_push_of_some _ e
variable {prog : Program} {w : World} {A : Around} {s₂ : Shared} {env : Env} {h₀ : Heap} {L : Addr}
theorem compTurn_wp {elt target iter : Expr} {ifs : List Expr} {scope : Scope} {pos : Pos} {it acc : Value} {cenv : Env} {Qf : Fin → Shared → Prop} {E : Value → Shared → Prop} {s : Shared}
    (h : wpAny (model prog w) A (pyNext it) (fun r s₁ => match r with
      | none => Qf (.done .next) s₁
      | some v => wpAny (model prog w) A (letOwnedTupleGo target it v) (fun _ s₁' => wpAny (model prog w) A (assign target cenv v) (fun _ s₂ =>
          wpAny (model prog w) A (forIn ifs true fun c r => if r = true then do let ok ← isTrue c cenv (eval c cenv); pure (ForInStep.yield ok) else pure (ForInStep.yield r)) (fun ok s₃ =>
            if ok = true then wpAny (model prog w) A (eval elt cenv) (fun x s₄ =>
              wpAny (model prog w) A (call (.builtin "list.append") [acc, x]) (fun _ s₅ => Qf (.again (.compLoop (.ListComp elt [⟨target, iter, ifs, 0⟩] scope pos) 0 it acc cenv)) s₅) E s₄) E s₃
            else Qf (.again (.compLoop (.ListComp elt [⟨target, iter, ifs, 0⟩] scope pos) 0 it acc cenv)) s₃) E s₂) E s₁') E s₁) E s) :
    wpAny (model prog w) A (compTurn (.ListComp elt [⟨target, iter, ifs, 0⟩] scope pos) 0 it acc cenv) Qf E s := by
  rw [compTurn_list]
  refine wpAny_bind (wpAny_standAt (wpAny_bind (wpAny_mono h (fun r s₁ h₁ => ?_) fun _ _ h' => h')))
  cases r with
  | none => exact wpAny_pure h₁
  | some v =>
    refine wpAny_bind (wpAny_mono h₁ (fun _ s₁' h₁' => wpAny_bind (wpAny_mono h₁' (fun _ s₂ h₂ => wpAny_bind (wpAny_mono h₂ (fun ok s₃ h₃ => ?_) fun _ _ h' => h')) fun _ _ h' => h')) fun _ _ h' => h')
    cases ok with
    | false => exact wpAny_pure h₃
    | true => exact wpAny_bind (wpAny_bind (wpAny_mono h₃ (fun x s₄ h₄ => wpAny_bind (wpAny_mono h₄ (fun _ s₅ h₅ => wpAny_pure (wpAny_pure h₅)) fun _ _ h' => h')) fun _ _ h' => h'))
theorem comp_loop {elt target iter : Expr} {ifs : List Expr} {scope : Scope} {pos : Pos} {D C I : Addr} {n : Nat} {It : Nat → Obj → Prop} {cenv : Env} {R : Result → Shared → Prop} {m : Str → Option Value} {news : List (Addr × Obj)}
    (Bind : Nat → (Str → Option Value) → Prop) (J : Nat → Array Value → List (Addr × Obj) → Prop) (hDC : D ≠ C) (hDI : D ≠ I) (hCI : C ≠ I) (hn : n ≤ 1000) (hys : ∀ i ys nw, J i ys nw → ys.size ≤ i)
    (enter : ∀ i ys nw (s : Shared) (mC : Str → Option Value) (oI : Obj) (K : Shared → Prop) (E : Value → Shared → Prop), i < n → J i ys nw → It i oI → s.heap.get? I = some oI → News h₀ L s.heap nw → Fr h₀ L s.heap m → s.heap.Ns C mC →
      (∀ h' tk' mC' oI', Bind i mC' → It (i + 1) oI' → h'.get? I = some oI' → h'.Ns C mC' → (∀ b o, b ≠ I → b ≠ C → s.heap.get? b = some o → h'.get? b = some o) → K { s with heap := h', toks := tk' }) →
      wpAny (model prog w) A (pyNext (.ref I)) (fun r s₁ => ∃ v, r = some v ∧ wpAny (model prog w) A (letOwnedTupleGo target (.ref I) v) (fun _ s₃ => wpAny (model prog w) A (assign target cenv v) (fun _ s₄ => K s₄) E s₃) E s₁) E s)
    (leave : ∀ ys nw (s : Shared) (oI : Obj) (Q : Option Value → Shared → Prop) (E : Value → Shared → Prop), J n ys nw → It n oI → s.heap.get? I = some oI → News h₀ L s.heap nw → Fr h₀ L s.heap m →
      (∀ h' tk', (∀ b o, b ≠ I → s.heap.get? b = some o → h'.get? b = some o) → Q none { s with heap := h', toks := tk' }) → wpAny (model prog w) A (pyNext (.ref I)) Q E s)
    (turn : ∀ i ys k nw oC oI mC h tk E, i < n → J i ys nw → (∀ p ∈ nw, p.1 ≠ D ∧ p.1 ≠ C ∧ p.1 ≠ I) → Bind i mC → NsO oC mC → Fr h₀ L h m → News h₀ L h (nw ++ own3 D C I ys k oC oI) →
      wpAny (model prog w) A (forIn ifs true fun c r => if r = true then do let ok ← isTrue c cenv (eval c cenv); pure (ForInStep.yield ok) else pure (ForInStep.yield r)) (fun ok s₃ =>
        if ok = true then wpAny (model prog w) A (eval elt cenv) (fun y s₄ => CompEnd h₀ L m D C I ys k oC oI (J (i + 1)) { s₂ with heap := h, toks := tk } [y] s₄) E s₃
        else CompEnd h₀ L m D C I ys k oC oI (J (i + 1)) { s₂ with heap := h, toks := tk } [] s₃) E { s₂ with heap := h, toks := tk })
    (hCL : C ≠ L) (hDL : D ≠ L) (hIL : I ≠ L) (hC0 : h₀.get? C = none) (hD0 : h₀.get? D = none) (hI0 : h₀.get? I = none)
    {k₀ : Nat} {oC₀ oI₀ : Obj} {mC₀ : Str → Option Value} (F : Fr h₀ L s₂.heap m) (N : News h₀ L s₂.heap (news ++ own3 D C I #[] k₀ oC₀ oI₀)) (hNs : NsO oC₀ mC₀) (hst : It 0 oI₀) (off : ∀ p ∈ news, p.1 ≠ D ∧ p.1 ≠ C ∧ p.1 ≠ I) (hj : J 0 #[] news)
    (done : ∀ h' tk' ys k nw mC, J n ys nw → (∀ p ∈ nw, p.1 ≠ D ∧ p.1 ≠ C) → Fr h₀ L h' m → News h₀ L h' (nw ++ [(D, listOf ys k)]) → h'.Ns C mC → R (.ok .next) { s₂ with heap := h', toks := tk' }) :
    codeAny (model prog w) A (.compLoop (.ListComp elt [⟨target, iter, ifs, 0⟩] scope pos) 0 (.ref I) (.ref D) cenv) R s₂ := by
  refine codeAny_loop rfl (fun q s' => ∃ i h tk ys k nw oC oI mC, q = n + 1 - i ∧ i ≤ n ∧ s' = { s₂ with heap := h, toks := tk } ∧ J i ys nw ∧ (∀ p ∈ nw, p.1 ≠ D ∧ p.1 ≠ C ∧ p.1 ≠ I) ∧ NsO oC mC ∧ It i oI ∧ Fr h₀ L h m ∧ News h₀ L h (nw ++ own3 D C I ys k oC oI)) ?_ (n + 1)
    ⟨0, s₂.heap, s₂.toks, #[], k₀, news, oC₀, oI₀, mC₀, rfl, Nat.zero_le _, rfl, hj, off, hNs, hst, F, N⟩
  rintro q s' ⟨i, h, tk, ys, k, nw, oC, oI, mC, rfl, hi, rfl, hJ, hoff, hns, hst', F', N'⟩
  show wpAny _ A ((compTurn (.ListComp elt [⟨target, iter, ifs, 0⟩] scope pos) 0 (.ref I) (.ref D) cenv).onRaise (fun x => do noteFrame x cenv; theTreesLotGoes x)) _ _ _
  refine wpAny_noted (compTurn_wp ?_)
  have hget : ∀ p ∈ nw ++ own3 D C I ys k oC oI, h.get? p.1 = some p.2 := fun p hp => (N' p hp).1
  have Nn : News h₀ L h nw := fun p hp => N' p (List.mem_append_left _ hp)
  by_cases hlt : i < n
  · refine' wpAny_mono (enter i ys nw _ mC oI _ _ hlt hJ hst' (hget (I, oI) (by simp)) Nn F' (hns.ns (hget (C, oC) (by simp))) ?k) ?b (fun _ _ e => e)
    case b =>
      rintro r s₁ ⟨v, rfl, hv⟩
      exact hv
    case k =>
    intro h₁ tk₁ mC' oI₁ hb hst₁ hgI hn₁ hk₁
    obtain ⟨oC₁, hgC, hnC⟩ := ns_obj hn₁
    have keepF : ∀ b o, h₀.get? b = some o → h₁.get? b = some o := fun b o e => hk₁ b o (fun q => by rw [q, hI0] at e; cases e) (fun q => by rw [q, hC0] at e; cases e) (F'.keep b o e)
    have F₁ : Fr h₀ L h₁ m := ⟨F'.ns.at' fun o e => hk₁ _ o (Ne.symm hIL) (Ne.symm hCL) e, keepF, F'.above⟩
    have N₁ : News h₀ L h₁ (nw ++ own3 D C I ys k oC₁ oI₁) := by
      intro p hp
      rcases List.mem_append.mp hp with hp | hp
      · have := N' p (List.mem_append_left _ hp)
        exact ⟨hk₁ _ _ (hoff p hp).2.2 (hoff p hp).2.1 this.1, this.2⟩
      · rcases List.mem_cons.mp hp with rfl | hp
        · have := N' (D, listOf ys k) (by simp)
          exact ⟨hk₁ _ _ hDI hDC this.1, this.2⟩
        · rcases List.mem_cons.mp hp with rfl | hp
          · exact ⟨hgC, hCL, hC0⟩
          · rw [List.mem_singleton.mp hp]
            exact ⟨hgI, hIL, hI0⟩
    refine wpAny_mono (turn i ys k nw oC₁ oI₁ mC' h₁ tk₁ _ hlt hJ hoff hb hnC F₁ N₁) (fun ok s₃ h₃ => ?_) fun _ _ e => e
    cases ok with
    | false =>
      simp only [Bool.false_eq_true, if_false] at h₃ ⊢
      obtain ⟨h₄, tk₄, nw', rfl, F₄, N₄, off₄, hJ₄⟩ := h₃
      exact ⟨by trivial, n + 1 - (i + 1), by omega, i + 1, h₄, tk₄, ys, k, nw', oC₁, oI₁, mC', rfl, hlt, rfl, by simpa using hJ₄, off₄, hnC, hst₁, F₄, N₄⟩
    | true =>
      simp only [if_true] at h₃ ⊢
      refine wpAny_mono h₃ (fun y s₄ h₄ => ?_) fun _ _ e => e
      obtain ⟨h₄, tk₄, nw', rfl, F₄, N₄, off₄, hJ₄⟩ := h₄
      have hD := N₄ (D, listOf ys k) (by simp)
      have hsz : ys.size ≤ 1000 := Nat.le_trans (hys i ys nw hJ) (by omega)
      refine wpAny_list_append_plain (items := ys) (hsz := by rw [sizeLine_eq]; omega) ⟨k, hD.1⟩ fun h₅ hl₅ hs₅ => ?_
      obtain ⟨k', hl₅⟩ := hl₅
      have k5 : ∀ b o, b ≠ D → h₄.get? b = some o → h₅.get? b = some o := fun b o hb e => hs₅.extBut b o hb e
      refine ⟨by trivial, n + 1 - (i + 1), by omega, i + 1, h₅, tk₄, ys.push y, k', nw', oC₁, oI₁, mC', rfl, hlt, rfl, by simpa using hJ₄, off₄, hnC, hst₁, ⟨F₄.ns.at' fun o e => k5 _ o (Ne.symm hDL) e, fun b o e => k5 b o (fun q => by rw [q, hD0] at e; cases e) (F₄.keep b o e), F₄.above⟩, ?_⟩
      intro p hp
      rcases List.mem_append.mp hp with hp | hp
      · exact ⟨k5 _ _ (off₄ p hp).1 (N₄ p (List.mem_append_left _ hp)).1, (N₄ p (List.mem_append_left _ hp)).2⟩
      · rcases List.mem_cons.mp hp with rfl | hp
        · exact ⟨hl₅, hDL, hD0⟩
        · rcases List.mem_cons.mp hp with rfl | hp
          · have := N₄ (C, oC₁) (by simp)
            exact ⟨k5 _ _ (Ne.symm hDC) this.1, this.2⟩
          · rw [List.mem_singleton.mp hp]
            have := N₄ (I, oI₁) (by simp)
            exact ⟨k5 _ _ (Ne.symm hDI) this.1, this.2⟩
  · obtain rfl : i = n := by omega
    refine leave ys nw _ oI _ _ hJ hst' (hget (I, oI) (by simp)) Nn F' fun h₁ tk₁ hk₁ => ?_
    refine done h₁ tk₁ ys k nw mC hJ (fun p hp => ⟨(hoff p hp).1, (hoff p hp).2.1⟩) ⟨F'.ns.at' fun o e => hk₁ _ o (Ne.symm hIL) e, fun b o e => hk₁ b o (fun q => by rw [q, hI0] at e; cases e) (F'.keep b o e), F'.above⟩ ?_ ((hns.ns (hget (C, oC) (by simp))).at' fun o e => hk₁ _ o hCI e)
    intro p hp
    rcases List.mem_append.mp hp with hp | hp
    · exact ⟨hk₁ _ _ (hoff p hp).2.2 (N' p (List.mem_append_left _ hp)).1, (N' p (List.mem_append_left _ hp)).2⟩
    · rw [List.mem_singleton.mp hp]
      have := N' (D, listOf ys k) (by simp)
      exact ⟨hk₁ _ _ hDI this.1, this.2⟩

/-- the comprehension's block, ready to be walked from its source's iterator -/
def CompAt (prog : Program) (w : World) (A : Around) (h₀ : Heap) (L : Addr) (env : Env) (elt target iter : Expr) (ifs : List Expr) (scope : Scope) (cl : List (Str × Addr)) (pos : Pos) (RR : Value → Addr → Result → Shared → Prop) (it : Value) (s₂ : Shared) : Prop :=
  ∀ D C, D = s₂.heap.objs.size → C = s₂.heap.objs.size + 1 → ∀ h₁ tk₁ oC, (∀ b o, s₂.heap.get? b = some o → h₁.get? b = some o) → h₁.get? D = some (listOf #[] 0) → h₁.get? C = some oC → (∃ mC, NsO oC mC) →
    ∃ I, it = .ref I ∧ codeAny (model prog w) A (.compLoop (.ListComp elt [⟨target, iter, ifs, 0⟩] scope pos) 0 (.ref I) (.ref D) (compEnvC scope cl C env)) (RR (.ref D) C) { s₂ with heap := h₁, toks := tk₁ } ∧
      (∀ Q E, Q (.ref I) { s₂ with heap := h₁, toks := tk₁ } → wpAny (model prog w) A (pyIter (.ref I)) Q E { s₂ with heap := h₁, toks := tk₁ })
theorem comp_block {E : Value → Shared → Prop} {elt target iter : Expr} {ifs : List Expr} {scope : Scope} {cl : List (Str × Addr)} {pos : Pos} {RR : Value → Addr → Result → Shared → Prop} {it : Value}
    (hcell : ∀ y ∈ scope.names, y.2 ≠ .cell) (hkind : scope.kind = .function) (h : CompAt prog w A h₀ L env elt target iter ifs scope cl pos RR it s₂) :
    wpAny (model prog w) A (newList []) (fun acc s₃ => wpAny (model prog w) A (newFunctionEnv scope env.globals cl [] env.qual none .none (some env)) (fun cenv s₄ =>
      codeAny (model prog w) A (.compStart (.ListComp elt [⟨target, iter, ifs, 0⟩] scope pos) 0 it acc { cenv with scope := relabel scope env }) (RR acc cenv.locals) s₄) E s₃) E s₂ := by
  refine wpAny_newObj_type (wpAny_newFunctionEnv hcell (by intro y hy; simp at hy) (fun h₁ hns₁ hsb₁ => ?_) hkind)
  dsimp only at hns₁ hsb₁ ⊢
  generalize hH2 : s₂.heap.push { cls := .type "list", dict := none, data := .seq ([] : List Value).toArray } = H2 at hns₁ hsb₁ ⊢
  have hC : H2.objs.size = s₂.heap.objs.size + 1 := by rw [← hH2, Heap.size_push]
  have hDC : s₂.heap.objs.size ≠ H2.objs.size := by rw [hC]; exact Nat.ne_of_lt (Nat.lt_succ_self _)
  have old : ∀ b o, s₂.heap.get? b = some o → h₁.get? b = some o := fun b o e => hsb₁.extBut b o (by rw [hC]; exact Nat.ne_of_lt (Nat.lt_succ_of_lt (Heap.lt_size e))) (Heap.get?_push_of_some _ (hH2 ▸ Heap.get?_push_of_some _ e))
  have hacc : h₁.get? s₂.heap.objs.size = some (listOf #[] 0) := hsb₁.extBut _ _ hDC (Heap.get?_push_of_some _ (hH2 ▸ Heap.get?_push_size _ rfl))
  obtain ⟨oC, hoC, hnC⟩ := ns_obj hns₁
  obtain ⟨I, rfl, hloop, hself⟩ := h s₂.heap.objs.size H2.objs.size rfl hC h₁ (s₂.toks + ([] : List (Str × Value)).length) oC old hacc hoC ⟨_, hnC⟩
  exact codeAny_compStart_list hloop (hself _ _ hloop)
theorem eval_comp {E : Value → Shared → Prop} {s : Shared} {elt target iter : Expr} {ifs : List Expr} {scope : Scope} {cl : List (Str × Addr)} {pos : Pos} {Q : Value → Shared → Prop}
    (hclos : closureFor scope env = pure cl) (hcell : ∀ y ∈ scope.names, y.2 ≠ .cell) (hkind : scope.kind = .function) (hnames : ∀ y ∈ scope.names, y.2 = .local → scope.names.lookup y.1 = some .local)
    (h : wpAny (model prog w) A (eval iter env) (fun xv s₁ => wpAny (model prog w) A (pyIter xv) (fun it s₂ => CompAt prog w A h₀ L env elt target iter ifs scope cl pos (fun acc C => compPost (model prog w) A E none Q acc C) it s₂) E s₁) E s)
    (hs : ∀ x, foldedSetIterable iter env x = pure x := by intro _; rfl) :
    wpAny (model prog w) A (eval (.ListComp elt [⟨target, iter, ifs, 0⟩] scope pos) env) Q E s := by
  rw [eval_ListComp]
  exact wpAny_comprehension_free (use := none) rfl hs hclos hkind hnames (wpAny_mono h (fun xv s₁ h₁ => wpAny_mono h₁ (fun it s₂ h₂ => comp_block (RR := fun acc C => compPost (model prog w) A E none Q acc C) hcell hkind h₂) fun _ _ e => e) fun _ _ e => e)
theorem assign_comp {E : Value → Shared → Prop} {s : Shared} {elt target iter : Expr} {ifs : List Expr} {y : Str} {py : Pos} {scope : Scope} {cl : List (Str × Addr)} {pos spos : Pos} {Q : Flow → Shared → Prop}
    (hsw : swapsWith (.ListComp elt [⟨target, iter, ifs, 0⟩] scope pos) (some (.Name y py)) spos.line env = pure true)
    (hclos : closureFor scope env = pure cl) (hcell : ∀ y ∈ scope.names, y.2 ≠ .cell) (hkind : scope.kind = .function) (hnames : ∀ y ∈ scope.names, y.2 = .local → scope.names.lookup y.1 = some .local)
    (h : wpAny (model prog w) A (eval iter env) (fun xv s₁ => wpAny (model prog w) A (pyIter xv) (fun it s₂ => CompAt prog w A h₀ L env elt target iter ifs scope cl pos (fun acc C => compPost (model prog w) A E (some (assign (.Name y py) env)) (fun _ s' => Q .next s') acc C) it s₂) E s₁) E s)
    (hs : ∀ x, foldedSetIterable iter env x = pure x := by intro _; rfl) :
    wpAny (model prog w) A (exec (.Assign [.Name y py] (.ListComp elt [⟨target, iter, ifs, 0⟩] scope pos) spos) env) Q E s := by
  rw [exec_Assign_Name_used _ _ _ _ hsw]
  refine wpAny_bind (wpAny_standAt (wpAny_bind ?_))
  show wpAny _ A (do let _ ← comprehension (.ListComp elt [⟨target, iter, ifs, 0⟩] scope pos) scope env _ (newList []) false (eval iter env) (some (assign (.Name y py) env))) _ _ s
  exact wpAny_bind (wpAny_mono (wpAny_comprehension_free (use := some (assign (.Name y py) env)) (Q := fun _ s' => Q .next s') rfl hs hclos hkind hnames
    (wpAny_mono h (fun xv s₁ h₁ => wpAny_mono h₁ (fun it s₂ h₂ => comp_block (RR := fun acc C => compPost (model prog w) A E (some (assign (.Name y py) env)) (fun _ s' => Q .next s') acc C) hcell hkind h₂) fun _ _ e => e) fun _ _ e => e)) (fun _ s' hq => wpAny_pure (wpAny_pure hq)) fun _ _ e => e)
/-- what a gathered list is worth to the rest: by an expression -/
theorem compPost_eval {E : Value → Shared → Prop} {Q : Value → Shared → Prop} {D C : Addr} {s' : Shared} {m mC : Str → Option Value} {nw : List (Addr × Obj)} (hCL : C ≠ L) (hC0 : h₀.get? C = none) (off : ∀ p ∈ nw, p.1 ≠ C) (F : Fr h₀ L s'.heap m) (N : News h₀ L s'.heap nw) (hn : s'.heap.Ns C mC)
    (h : ∀ h', Fr h₀ L h' m → News h₀ L h' nw → Q (.ref D) { s' with heap := h' }) : compPost (model prog w) A E none Q (.ref D) C (.ok .next) s' := by
  refine ⟨mC, hn, fun h' hs => h h' ⟨F.ns.at' fun o e => hs.extBut _ o (Ne.symm hCL) e, fun b o e => hs.extBut b o (fun q => by rw [q, hC0] at e; cases e) (F.keep b o e), F.above⟩ fun p hp => ⟨hs.extBut _ _ (off p hp) (N p hp).1, (N p hp).2⟩⟩
/-- by an assignment to a name of the frame -/
theorem compPost_assign {E : Value → Shared → Prop} {Q : Flow → Shared → Prop} {D C : Addr} {y : Str} {py : Pos} {s' : Shared} {m mC : Str → Option Value} {nw : List (Addr × Obj)} (hL : env.locals = L) (hy : env.kindOf y = some .local) (hp : (env.scope.kind == .class || (env.scope.kind == .module && env.locals != env.globals)) = false)
    (hCL : C ≠ L) (hC0 : h₀.get? C = none) (off : ∀ p ∈ nw, p.1 ≠ C) (F : Fr h₀ L s'.heap m) (N : News h₀ L s'.heap nw) (hn : s'.heap.Ns C mC)
    (h : ∀ h' tk', Fr h₀ L h' (fun z => if z = y then some (.ref D) else m z) → News h₀ L h' nw → Q .next { s' with heap := h', toks := tk' }) : compPost (model prog w) A E (some (assign (.Name y py) env)) (fun _ s' => Q .next s') (.ref D) C (.ok .next) s' := by
  subst hL
  show wpAny _ A (assign (.Name y py) env (.ref D)) _ _ _
  refine wpAny_assign_Name (wpAny_storeName_local hy F.ns (fun h₂ hn₂ hs₂ => ?_) hp)
  have F₂ := F.set hn₂ hs₂
  have N₂ := N.set hs₂
  refine ⟨mC, hn.sameBut hs₂ hCL, fun h' hs => h h' _ ⟨F₂.ns.at' fun o e => hs.extBut _ o (Ne.symm hCL) e, fun b o e => hs.extBut b o (fun q => by rw [q, hC0] at e; cases e) (F₂.keep b o e), F₂.above⟩ fun p hp => ⟨hs.extBut _ _ (off p hp) (N₂ p hp).1, (N₂ p hp).2⟩⟩
end


section
open PySem.Spec
variable {prog : Program} {w : World} {A : Around} {s₂ : Shared} {env : Env} {h₀ : Heap} {L : Addr}
theorem compAt_walk {elt iter : Expr} {ifs : List Expr} {scope : Scope} {cl : List (Str × Addr)} {pos px : Pos} {x : Str} {RR : Value → Addr → Result → Shared → Prop} {I : Addr} {fp : List Addr} {n : Nat} {P : Nat → Value → Prop} {St : Nat → Heap → Prop} {It : Nat → Obj → Prop} {Rd : Heap → Prop}
    {m : Str → Option Value} {news : List (Addr × Obj)} {oI₀ : Obj} (J : Nat → Array Value → List (Addr × Obj) → Prop) (W : Walks prog w A I fp [I] n P St) (hx : scope.names.lookup x = some .local) (hkind : scope.kind = .function)
    (hSt : ∀ i h oI, It i oI → h.get? I = some oI → Rd h → St i h) (hIt : ∀ i h, St i h → ∃ oI, h.get? I = some oI ∧ It i oI) (hRd : ∀ i ys nw h, J i ys nw → News h₀ L h nw → Fr h₀ L h m → Rd h)
    (hn : n ≤ 1000) (hys : ∀ i ys nw, J i ys nw → ys.size ≤ i) (hI : s₂.heap.get? I = some oI₀) (hIt0 : It 0 oI₀) (hI0 : h₀.get? I = none) (hIL : I ≠ L) (F : Fr h₀ L s₂.heap m) (N : News h₀ L s₂.heap news) (hnI : ∀ p ∈ news, p.1 ≠ I) (hJ : J 0 #[] news)
    (turn : ∀ D C i v ys k nw oC oI mC h tk E, i < n → P i v → J i ys nw → (∀ p ∈ nw, p.1 ≠ D ∧ p.1 ≠ C ∧ p.1 ≠ I) → NsO oC mC → mC x = some v → Fr h₀ L h m → News h₀ L h (nw ++ own3 D C I ys k oC oI) → (∀ p ∈ news, p.1 < D) → D < C →
      wpAny (model prog w) A (forIn ifs true fun c r => if r = true then do let ok ← isTrue c (compEnvC scope cl C env) (eval c (compEnvC scope cl C env)); pure (ForInStep.yield ok) else pure (ForInStep.yield r)) (fun ok s₃ =>
        if ok = true then wpAny (model prog w) A (eval elt (compEnvC scope cl C env)) (fun y s₄ => CompEnd h₀ L m D C I ys k oC oI (J (i + 1)) { s₂ with heap := h, toks := tk } [y] s₄) E s₃
        else CompEnd h₀ L m D C I ys k oC oI (J (i + 1)) { s₂ with heap := h, toks := tk } [] s₃) E { s₂ with heap := h, toks := tk })
    (done : ∀ D C h' tk' ys k nw mC, C ≠ L → h₀.get? C = none → J n ys nw → (∀ p ∈ nw, p.1 ≠ D) → (∀ p ∈ nw ++ [(D, listOf ys k)], p.1 ≠ C) → (∀ p ∈ news, p.1 < D) → Fr h₀ L h' m → News h₀ L h' (nw ++ [(D, listOf ys k)]) → h'.Ns C mC → RR (.ref D) C (.ok .next) { s₂ with heap := h', toks := tk' }) :
    CompAt prog w A h₀ L env elt (.Name x px) iter ifs scope cl pos RR (.ref I) s₂ := by
  intro D C hD hC h₁ tk₁ oC keep gD gC ⟨mC, hoC⟩
  subst hD hC
  have hIs : I < s₂.heap.objs.size := Heap.lt_size hI
  have hLs : L < s₂.heap.objs.size := F.ns.lt
  have hDI : s₂.heap.objs.size ≠ I := Nat.ne_of_gt hIs
  have hCI : s₂.heap.objs.size + 1 ≠ I := Nat.ne_of_gt (Nat.lt_succ_of_lt hIs)
  have hDC : s₂.heap.objs.size ≠ s₂.heap.objs.size + 1 := Nat.ne_of_lt (Nat.lt_succ_self _)
  have hCL : s₂.heap.objs.size + 1 ≠ L := Nat.ne_of_gt (Nat.lt_succ_of_lt hLs)
  have hDL : s₂.heap.objs.size ≠ L := Nat.ne_of_gt hLs
  have hab : h₀.objs.size ≤ s₂.heap.objs.size := Nat.le_trans F.above (Nat.le_of_lt hLs)
  have hD0 : h₀.get? s₂.heap.objs.size = none := Heap.get?_none_of_le hab
  have hC0 : h₀.get? (s₂.heap.objs.size + 1) = none := Heap.get?_none_of_le (Nat.le_succ_of_le hab)
  have hlt : ∀ p ∈ news, p.1 < s₂.heap.objs.size := fun p hp => Heap.lt_size (N p hp).1
  have F₁ : Fr h₀ L h₁ m := ⟨F.ns.keeps keep, fun b o e => keep b o (F.keep b o e), F.above⟩
  have N₁ : News h₀ L h₁ news := fun p hp => ⟨keep _ _ (N p hp).1, (N p hp).2⟩
  have gI : h₁.get? I = some oI₀ := keep _ _ hI
  refine ⟨I, rfl, ?_, fun Q E hQ => W.self 0 _ Q E (hSt 0 h₁ oI₀ hIt0 gI (hRd 0 #[] news h₁ hJ N₁ F₁)) hQ⟩
  refine comp_loop (It := It) (k₀ := 0) (oC₀ := oC) (oI₀ := oI₀) (fun i mC => ∃ v, P i v ∧ mC x = some v) J hDC hDI hCI hn hys ?_ ?_ ?_ hCL hDL hIL hC0 hD0 hI0 F₁ ?_ hoC hIt0 (fun p hp => ⟨Nat.ne_of_lt (hlt p hp), Nat.ne_of_lt (Nat.lt_succ_of_lt (hlt p hp)), hnI p hp⟩) hJ ?_
  · intro i ys nw s mC oI K E hi hj hIt' hg Nn Fn hns hK
    refine W.item i s _ _ hi (hSt i _ oI hIt' hg (hRd i ys nw _ hj Nn Fn)) fun v h' tk hP hst' hk => ?_
    refine ⟨v, rfl, ?_⟩
    refine wpAny_of_eq (a := ()) rfl ?_
    obtain ⟨oI', hg', hit'⟩ := hIt _ _ hst'
    have hn' : h'.Ns (s₂.heap.objs.size + 1) mC := hns.at' fun o e => hk _ o (fun hm => hCI (List.mem_singleton.mp hm)) e
    refine wpAny_assign_Name (wpAny_storeName_local (env := compEnvC scope cl (s₂.heap.objs.size + 1) env) (lookup_relabel_local hx) hn' (fun h₂ hn₂ hs₂ => ?_) (by simp [compEnvC, relabel, hkind]))
    replace hs₂ : Heap.SameBut (s₂.heap.objs.size + 1) h' h₂ := hs₂
    exact hK h₂ _ _ oI' ⟨v, hP, by simp⟩ hit' (hs₂.extBut _ _ (Ne.symm hCI) hg') hn₂ fun b o hbI hbC e => hs₂.extBut b o hbC (hk b o (fun hm => hbI (List.mem_singleton.mp hm)) e)
  · intro ys nw s oI Q E hj hIt' hg Nn Fn hQ
    exact W.done s Q E (hSt n _ oI hIt' hg (hRd n ys nw _ hj Nn Fn)) fun h' tk hk => hQ h' tk fun b o hb e => hk b o (fun hm => hb (List.mem_singleton.mp hm)) e
  · rintro i ys k nw oC oI mC h tk E hi hj hoff ⟨v, hP, hv⟩ hnC Fh Nh
    exact turn _ _ i v ys k nw oC oI mC h tk E hi hP hj hoff hnC hv Fh Nh hlt (Nat.lt_succ_self _)
  · intro p hp
    rcases List.mem_append.mp hp with hp | hp
    · exact N₁ p hp
    · rcases List.mem_cons.mp hp with rfl | hp
      · exact ⟨gD, hDL, hD0⟩
      · rcases List.mem_cons.mp hp with rfl | hp
        · exact ⟨gC, hCL, hC0⟩
        · rw [List.mem_singleton.mp hp]; exact ⟨gI, hIL, hI0⟩
  · intro h' tk' ys k nw mC hj hoff Fh Nh hns
    refine done _ _ h' tk' ys k nw mC hCL hC0 hj (fun p hp => (hoff p hp).1) (fun p hp => ?_) hlt Fh Nh hns
    rcases List.mem_append.mp hp with hp | hp
    · exact (hoff p hp).2
    · rw [List.mem_singleton.mp hp]; exact hDC
/-- over a range -/
theorem compAt_range {E : Value → Shared → Prop} {s : Shared} {elt iter : Expr} {ifs : List Expr} {scope : Scope} {cl : List (Str × Addr)} {pos px : Pos} {x : Str} {RR : Value → Addr → Result → Shared → Prop} {r : Addr} {a₀ b₀ c₀ : Int} {t₀ u₀ v₀ : Tok} {m : Str → Option Value} {news : List (Addr × Obj)} (n : Nat)
    (J : Nat → Array Value → List (Addr × Obj) → Prop) (hx : scope.names.lookup x = some .local) (hkind : scope.kind = .function) (hh : A.handled = none) (hr : IsRange s.heap r a₀ b₀ c₀ t₀ u₀ v₀) (hsmall : Builtin.Range.small a₀ b₀ c₀ = true) (hsz : Builtin.Range.rangeSize a₀ b₀ c₀ = (n : Int))
    (hn : n ≤ 1000) (hys : ∀ i ys nw, J i ys nw → ys.size ≤ i) (F : Fr h₀ L s.heap m) (N : News h₀ L s.heap news) (hJ : J 0 #[] news)
    (turn : ∀ s₂ D C I i t ys k nw oC oI mC h tk E, (∃ hp, s₂ = { s with heap := hp }) → i < n → J i ys nw → (∀ p ∈ nw, p.1 ≠ D ∧ p.1 ≠ C ∧ p.1 ≠ I) → NsO oC mC → mC x = some (.int (a₀ + i * c₀) t) → Fr h₀ L h m → News h₀ L h (nw ++ own3 D C I ys k oC oI) → (∀ p ∈ news, p.1 < D) → D < C →
      wpAny (model prog w) A (forIn ifs true fun c r => if r = true then do let ok ← isTrue c (compEnvC scope cl C env) (eval c (compEnvC scope cl C env)); pure (ForInStep.yield ok) else pure (ForInStep.yield r)) (fun ok s₃ =>
        if ok = true then wpAny (model prog w) A (eval elt (compEnvC scope cl C env)) (fun y s₄ => CompEnd h₀ L m D C I ys k oC oI (J (i + 1)) { s₂ with heap := h, toks := tk } [y] s₄) E s₃
        else CompEnd h₀ L m D C I ys k oC oI (J (i + 1)) { s₂ with heap := h, toks := tk } [] s₃) E { s₂ with heap := h, toks := tk })
    (done : ∀ s₂ D C h' tk' ys k nw mC, (∃ hp, s₂ = { s with heap := hp }) → C ≠ L → h₀.get? C = none → J n ys nw → (∀ p ∈ nw, p.1 ≠ D) → (∀ p ∈ nw ++ [(D, listOf ys k)], p.1 ≠ C) → (∀ p ∈ news, p.1 < D) → Fr h₀ L h' m → News h₀ L h' (nw ++ [(D, listOf ys k)]) → h'.Ns C mC → RR (.ref D) C (.ok .next) { s₂ with heap := h', toks := tk' }) :
    wpAny (model prog w) A (pyIter (.ref r)) (fun it s₂ => CompAt prog w A h₀ L env elt (.Name x px) iter ifs scope cl pos RR it s₂) E s := by
  refine wpAny_pyIter_range hr hsmall ?_
  have hLs : L < s.heap.objs.size := F.ns.lt
  refine compAt_walk (fp := [s.heap.objs.size]) (St := fun i h => IsRangeIter h s.heap.objs.size (a₀ + (i : Nat) * c₀) ((n : Int) - (i : Nat)) c₀) (P := fun i v => ∃ t, v = .int (a₀ + i * c₀) t)
    (It := fun i o => o = { cls := .type "range_iterator", data := .fields #[rawInt (a₀ + (i : Nat) * c₀), rawInt ((n : Int) - (i : Nat)), rawInt c₀] }) (Rd := fun _ => True) J (Walks.range hh s.heap.objs.size a₀ c₀ n) hx hkind
    (fun i h oI e g _ => by subst e; exact g) (fun i h g => ⟨_, g, rfl⟩) (fun _ _ _ _ _ _ _ => trivial) hn hys (Heap.get?_push_size _ rfl) (by rw [hsz]; simp) (next_is_new F) (Nat.ne_of_gt hLs) (F.push _) (fun p hp => ⟨Heap.get?_push_of_some _ (N p hp).1, (N p hp).2⟩) (fun p hp => Nat.ne_of_lt (Heap.lt_size (N p hp).1)) hJ ?_ ?_
  · rintro D C i v ys k nw oC oI mC h tk E hi ⟨t, rfl⟩ hj hoff hnC hv Fh Nh hlt hDC
    exact turn _ D C _ i t ys k nw oC oI mC h tk E ⟨_, rfl⟩ hi hj hoff hnC hv Fh Nh hlt hDC
  · intro D C h' tk' ys k nw mC hCL hC0 hj h1 h2 h3 Fh Nh hns
    exact done _ D C h' tk' ys k nw mC ⟨_, rfl⟩ hCL hC0 hj h1 h2 h3 Fh Nh hns
end


section
open PySem.Spec
variable {prog : Program} {w : World} {A : Around} {s₂ : Shared} {env : Env} {h₀ : Heap} {L : Addr}
/-- what a target makes of a value, the relied objects R at hand -/
def Asg (prog : Program) (w : World) (A : Around) (scope : Scope) (cl : List (Str × Addr)) (env : Env) (target : Expr) (R : List (Addr × Obj)) (P : Nat → Value → Prop) (Bnd : Nat → Value → (Str → Option Value) → Prop) : Prop :=
  ∀ (C : Addr) (i : Nat) (v : Value) (s : Shared) (mC : Str → Option Value) (K : Shared → Prop) (E : Value → Shared → Prop), P i v → (∀ p ∈ R, s.heap.get? p.1 = some p.2) → s.heap.Ns C mC →
    (∀ h' tk' mC', Bnd i v mC' → h'.Ns C mC' → (∀ b o, b ≠ C → s.heap.get? b = some o → h'.get? b = some o) → K { s with heap := h', toks := tk' }) →
    wpAny (model prog w) A (assign target (compEnvC scope cl C env) v) (fun _ s₄ => K s₄) E s
theorem asg_name {scope : Scope} {cl : List (Str × Addr)} {x : Str} {px : Pos} {R : List (Addr × Obj)} {P : Nat → Value → Prop} (hx : scope.names.lookup x = some .local) (hkind : scope.kind = .function) :
    Asg prog w A scope cl env (.Name x px) R P (fun _ v mC' => mC' x = some v) := by
  intro C i v s mC K E hP hR hns hK
  refine wpAny_assign_Name (wpAny_storeName_local (env := compEnvC scope cl C env) (lookup_relabel_local hx) hns (fun h₂ hn₂ hs₂ => ?_) (by simp [compEnvC, relabel, hkind]))
  replace hs₂ : Heap.SameBut C s.heap h₂ := hs₂
  exact hK h₂ _ _ (by simp) hn₂ fun b o hb e => hs₂.extBut b o hb e
/-- the map behind several names -/
noncomputable def putAll (m : Str → Option Value) : List (Str × Pos) → List Value → Str → Option Value
  | x :: xs, v :: vs => putAll (fun y => if y = x.1 then some v else m y) xs vs
  | _, _ => m
theorem asg_names {scope : Scope} {cl : List (Str × Addr)} {C : Addr} (hkind : scope.kind = .function) : ∀ (xs : List (Str × Pos)) (vs : List Value) (s : Shared) (mC : Str → Option Value) (K : Shared → Prop) (E : Value → Shared → Prop),
    xs.length = vs.length → (∀ x ∈ xs, scope.names.lookup x.1 = some .local) → s.heap.Ns C mC →
    (∀ h' tk', h'.Ns C (putAll mC xs vs) → (∀ b o, b ≠ C → s.heap.get? b = some o → h'.get? b = some o) → K { s with heap := h', toks := tk' }) →
    wpAny (model prog w) A (assignInOrder (xs.map fun x => assign (.Name x.1 x.2) (compEnvC scope cl C env)) vs) (fun _ s₄ => K s₄) E s
  | [], [], s, mC, K, E, _, _, hns, hK => assignInOrder_nil (hK s.heap s.toks hns fun _ _ _ e => e)
  | x :: xs, v :: vs, s, mC, K, E, hl, hx, hns, hK => by
    refine assignInOrder_cons ?_
    refine wpAny_assign_Name (wpAny_storeName_local (env := compEnvC scope cl C env) (lookup_relabel_local (hx x (List.mem_cons_self ..))) hns (fun h₂ hn₂ hs₂ => ?_) (by simp [compEnvC, relabel, hkind]))
    replace hs₂ : Heap.SameBut C s.heap h₂ := hs₂
    refine asg_names hkind xs vs _ _ K E (by simpa using hl) (fun y hy => hx y (List.mem_cons_of_mem _ hy)) hn₂ fun h' tk' hn' hk' => ?_
    exact hK h' tk' hn' fun b o hb e => hk' b o hb (hs₂.extBut b o hb e)
  | [], _ :: _, _, _, _, _, hl, _, _, _ => by simp at hl
  | _ :: _, [], _, _, _, _, hl, _, _, _ => by simp at hl
theorem asg_tuple {scope : Scope} {cl : List (Str × Addr)} {elts : List Expr} {x1} {pos : Pos} {xs : List (Str × Pos)} {R : List (Addr × Obj)} {P : Nat → Value → Prop} {Tup : Nat → List Value → Prop} (hh : A.handled = none) (hkind : scope.kind = .function)
    (hx : ∀ x ∈ xs, scope.names.lookup x.1 = some .local) (he : ∀ C, (assignEach elts (compEnvC scope cl C env)).map (·.2) = xs.map fun x => assign (.Name x.1 x.2) (compEnvC scope cl C env)) (hn : ∀ C, (assignEach elts (compEnvC scope cl C env)).length = xs.length) (hstar : ∀ C, (assignEach elts (compEnvC scope cl C env)).findIdx? (·.1) = none)
    (hT : ∀ i v, P i v → ∃ T to n vs, v = .ref T ∧ (T, to) ∈ R ∧ to.cls = .type "tuple" ∧ to.data = .seq (List.toArray vs) n ∧ Tup i vs ∧ vs.length = xs.length) :
    Asg prog w A scope cl env (.Tuple elts x1 pos) R P (fun i _ mC' => ∃ mC vs, Tup i vs ∧ mC' = putAll mC xs vs) := by
  intro C i v s mC K E hP hR hns hK
  obtain ⟨T, to, n, vs, rfl, hTR, hc, hd, hTup, hlen⟩ := hT i v hP
  have ht : IsTup s.heap T vs.toArray := ⟨to, hR _ hTR, hc, n, hd⟩
  refine assign_Tuple_tuple hh ht (by rw [hn, ← hlen]; simp) (hstar C) fun h' hext => ?_
  rw [he]
  have up : ∀ b o, s.heap.get? b = some o → h'.get? b = some o := fun b o e => hext b o (Nat.ne_of_lt (Heap.lt_size e)) e
  refine asg_names hkind xs vs { s with heap := h' } mC K E hlen.symm hx (hns.keeps up) fun h₂ tk₂ hn₂ hk₂ => ?_
  exact hK h₂ tk₂ _ ⟨mC, vs, hTup, rfl⟩ hn₂ fun b o hb e => hk₂ b o hb (up b o e)
theorem compAt_walkT {elt iter target : Expr} {ifs : List Expr} {scope : Scope} {cl : List (Str × Addr)} {pos : Pos} {RR : Value → Addr → Result → Shared → Prop} {I : Addr} {fp : List Addr} {n : Nat} {P : Nat → Value → Prop} {St : Nat → Heap → Prop} {It : Nat → Obj → Prop} {Bnd : Nat → Value → (Str → Option Value) → Prop}
    {m : Str → Option Value} {news : List (Addr × Obj)} {oI₀ : Obj} (R : List (Addr × Obj)) (J : Nat → Array Value → List (Addr × Obj) → Prop) (W : Walks prog w A I fp [I] n P St) (hB : Asg prog w A scope cl env target R P Bnd)
    (hgo : ∀ i v (s : Shared) (Q : Unit → Shared → Prop) (E : Value → Shared → Prop), St i s.heap → Q () s → wpAny (model prog w) A (letOwnedTupleGo target (.ref I) v) Q E s)
    (hSt : ∀ i h oI, It i oI → h.get? I = some oI → (∀ p ∈ R, h.get? p.1 = some p.2) → St i h) (hIt : ∀ i h, St i h → ∃ oI, h.get? I = some oI ∧ It i oI) (hRd : ∀ i ys nw h, J i ys nw → News h₀ L h nw → Fr h₀ L h m → ∀ p ∈ R, h.get? p.1 = some p.2) (hRI : ∀ p ∈ R, p.1 ≠ I)
    (hn : n ≤ 1000) (hys : ∀ i ys nw, J i ys nw → ys.size ≤ i) (hI : s₂.heap.get? I = some oI₀) (hIt0 : It 0 oI₀) (hI0 : h₀.get? I = none) (hIL : I ≠ L) (F : Fr h₀ L s₂.heap m) (N : News h₀ L s₂.heap news) (hnI : ∀ p ∈ news, p.1 ≠ I) (hJ : J 0 #[] news)
    (turn : ∀ D C i v ys k nw oC oI mC h tk E, i < n → P i v → J i ys nw → (∀ p ∈ nw, p.1 ≠ D ∧ p.1 ≠ C ∧ p.1 ≠ I) → NsO oC mC → Bnd i v mC → Fr h₀ L h m → News h₀ L h (nw ++ own3 D C I ys k oC oI) → (∀ p ∈ news, p.1 < D) → D < C →
      wpAny (model prog w) A (forIn ifs true fun c r => if r = true then do let ok ← isTrue c (compEnvC scope cl C env) (eval c (compEnvC scope cl C env)); pure (ForInStep.yield ok) else pure (ForInStep.yield r)) (fun ok s₃ =>
        if ok = true then wpAny (model prog w) A (eval elt (compEnvC scope cl C env)) (fun y s₄ => CompEnd h₀ L m D C I ys k oC oI (J (i + 1)) { s₂ with heap := h, toks := tk } [y] s₄) E s₃
        else CompEnd h₀ L m D C I ys k oC oI (J (i + 1)) { s₂ with heap := h, toks := tk } [] s₃) E { s₂ with heap := h, toks := tk })
    (done : ∀ D C h' tk' ys k nw mC, C ≠ L → h₀.get? C = none → J n ys nw → (∀ p ∈ nw, p.1 ≠ D) → (∀ p ∈ nw ++ [(D, listOf ys k)], p.1 ≠ C) → (∀ p ∈ news, p.1 < D) → Fr h₀ L h' m → News h₀ L h' (nw ++ [(D, listOf ys k)]) → h'.Ns C mC → RR (.ref D) C (.ok .next) { s₂ with heap := h', toks := tk' }) :
    CompAt prog w A h₀ L env elt target iter ifs scope cl pos RR (.ref I) s₂ := by
  intro D C hD hC h₁ tk₁ oC keep gD gC ⟨mC, hoC⟩
  subst hD hC
  have hIs : I < s₂.heap.objs.size := Heap.lt_size hI
  have hLs : L < s₂.heap.objs.size := F.ns.lt
  have hDI : s₂.heap.objs.size ≠ I := Nat.ne_of_gt hIs
  have hCI : s₂.heap.objs.size + 1 ≠ I := Nat.ne_of_gt (Nat.lt_succ_of_lt hIs)
  have hDC : s₂.heap.objs.size ≠ s₂.heap.objs.size + 1 := Nat.ne_of_lt (Nat.lt_succ_self _)
  have hCL : s₂.heap.objs.size + 1 ≠ L := Nat.ne_of_gt (Nat.lt_succ_of_lt hLs)
  have hDL : s₂.heap.objs.size ≠ L := Nat.ne_of_gt hLs
  have hab : h₀.objs.size ≤ s₂.heap.objs.size := Nat.le_trans F.above (Nat.le_of_lt hLs)
  have hD0 : h₀.get? s₂.heap.objs.size = none := Heap.get?_none_of_le hab
  have hC0 : h₀.get? (s₂.heap.objs.size + 1) = none := Heap.get?_none_of_le (Nat.le_succ_of_le hab)
  have hlt : ∀ p ∈ news, p.1 < s₂.heap.objs.size := fun p hp => Heap.lt_size (N p hp).1
  have F₁ : Fr h₀ L h₁ m := ⟨F.ns.keeps keep, fun b o e => keep b o (F.keep b o e), F.above⟩
  have N₁ : News h₀ L h₁ news := fun p hp => ⟨keep _ _ (N p hp).1, (N p hp).2⟩
  have gI : h₁.get? I = some oI₀ := keep _ _ hI
  refine ⟨I, rfl, ?_, fun Q E hQ => W.self 0 _ Q E (hSt 0 h₁ oI₀ hIt0 gI (hRd 0 #[] news h₁ hJ N₁ F₁)) hQ⟩
  refine comp_loop (It := It) (k₀ := 0) (oC₀ := oC) (oI₀ := oI₀) (fun i mC => ∃ v, P i v ∧ Bnd i v mC) J hDC hDI hCI hn hys ?_ ?_ ?_ hCL hDL hIL hC0 hD0 hI0 F₁ ?_ hoC hIt0 (fun p hp => ⟨Nat.ne_of_lt (hlt p hp), Nat.ne_of_lt (Nat.lt_succ_of_lt (hlt p hp)), hnI p hp⟩) hJ ?_
  · intro i ys nw s mC oI K E hi hj hIt' hg Nn Fn hns hK
    have hR := hRd i ys nw _ hj Nn Fn
    refine W.item i s _ _ hi (hSt i _ oI hIt' hg hR) fun v h' tk hP hst' hk => ?_
    refine ⟨v, rfl, ?_⟩
    refine hgo (i + 1) v _ _ _ hst' ?_
    obtain ⟨oI', hg', hit'⟩ := hIt _ _ hst'
    have hn' : h'.Ns (s₂.heap.objs.size + 1) mC := hns.at' fun o e => hk _ o (fun hm => hCI (List.mem_singleton.mp hm)) e
    have hR' : ∀ p ∈ R, h'.get? p.1 = some p.2 := fun p hp => hk _ _ (fun hm => hRI p hp (List.mem_singleton.mp hm)) (hR p hp)
    refine hB (s₂.heap.objs.size + 1) i v { s with heap := h', toks := tk } mC K E hP hR' hn' fun h₂ tk₂ mC' hb hn₂ hk₂ => ?_
    exact hK h₂ tk₂ mC' oI' ⟨v, hP, hb⟩ hit' (hk₂ _ _ (Ne.symm hCI) hg') hn₂ fun b o hbI hbC e => hk₂ b o hbC (hk b o (fun hm => hbI (List.mem_singleton.mp hm)) e)
  · intro ys nw s oI Q E hj hIt' hg Nn Fn hQ
    exact W.done s Q E (hSt n _ oI hIt' hg (hRd n ys nw _ hj Nn Fn)) fun h' tk hk => hQ h' tk fun b o hb e => hk b o (fun hm => hb (List.mem_singleton.mp hm)) e
  · rintro i ys k nw oC oI mC h tk E hi hj hoff ⟨v, hP, hv⟩ hnC Fh Nh
    exact turn _ _ i v ys k nw oC oI mC h tk E hi hP hj hoff hnC hv Fh Nh hlt (Nat.lt_succ_self _)
  · intro p hp
    rcases List.mem_append.mp hp with hp | hp
    · exact N₁ p hp
    · rcases List.mem_cons.mp hp with rfl | hp
      · exact ⟨gD, hDL, hD0⟩
      · rcases List.mem_cons.mp hp with rfl | hp
        · exact ⟨gC, hCL, hC0⟩
        · rw [List.mem_singleton.mp hp]; exact ⟨gI, hIL, hI0⟩
  · intro h' tk' ys k nw mC hj hoff Fh Nh hns
    refine done _ _ h' tk' ys k nw mC hCL hC0 hj (fun p hp => (hoff p hp).1) (fun p hp => ?_) hlt Fh Nh hns
    rcases List.mem_append.mp hp with hp | hp
    · exact (hoff p hp).2
    · rw [List.mem_singleton.mp hp]; exact hDC
section
variable {E : Value → Shared → Prop} {s : Shared} {elt iter target : Expr} {ifs : List Expr} {scope : Scope} {cl : List (Str × Addr)} {pos : Pos} {RR : Value → Addr → Result → Shared → Prop} {m : Str → Option Value} {news : List (Addr × Obj)}
/-- over a list -/
theorem compAt_list {ax : Addr} {lo : Obj} {items : Array Value} {n0 : Nat} {Bnd : Nat → Value → (Str → Option Value) → Prop} (R : List (Addr × Obj)) (J : Nat → Array Value → List (Addr × Obj) → Prop) (hh : A.handled = none) (hax : (ax, lo) ∈ R) (hc : lo.cls = .type "list") (hd : lo.data = .seq items n0)
    (hB : Asg prog w A scope cl env target R (fun i v => items[i]? = some v) Bnd)
    (hRd : ∀ i ys nw h, J i ys nw → News h₀ L h nw → Fr h₀ L h m → ∀ p ∈ R, h.get? p.1 = some p.2) (hn : items.size ≤ 1000) (hys : ∀ i ys nw, J i ys nw → ys.size ≤ i) (F : Fr h₀ L s.heap m) (N : News h₀ L s.heap news) (hJ : J 0 #[] news)
    (turn : ∀ s₂ D C I i v ys k nw oC oI mC h tk E, (∃ hp, s₂ = { s with heap := hp }) → items[i]? = some v → J i ys nw → (∀ p ∈ nw, p.1 ≠ D ∧ p.1 ≠ C ∧ p.1 ≠ I) → NsO oC mC → Bnd i v mC → Fr h₀ L h m → News h₀ L h (nw ++ own3 D C I ys k oC oI) → (∀ p ∈ news, p.1 < D) → D < C →
      wpAny (model prog w) A (forIn ifs true fun c r => if r = true then do let ok ← isTrue c (compEnvC scope cl C env) (eval c (compEnvC scope cl C env)); pure (ForInStep.yield ok) else pure (ForInStep.yield r)) (fun ok s₃ =>
        if ok = true then wpAny (model prog w) A (eval elt (compEnvC scope cl C env)) (fun y s₄ => CompEnd h₀ L m D C I ys k oC oI (J (i + 1)) { s₂ with heap := h, toks := tk } [y] s₄) E s₃
        else CompEnd h₀ L m D C I ys k oC oI (J (i + 1)) { s₂ with heap := h, toks := tk } [] s₃) E { s₂ with heap := h, toks := tk })
    (done : ∀ s₂ D C h' tk' ys k nw mC, (∃ hp, s₂ = { s with heap := hp }) → C ≠ L → h₀.get? C = none → J items.size ys nw → (∀ p ∈ nw, p.1 ≠ D) → (∀ p ∈ nw ++ [(D, listOf ys k)], p.1 ≠ C) → (∀ p ∈ news, p.1 < D) → Fr h₀ L h' m → News h₀ L h' (nw ++ [(D, listOf ys k)]) → h'.Ns C mC → RR (.ref D) C (.ok .next) { s₂ with heap := h', toks := tk' }) :
    wpAny (model prog w) A (pyIter (.ref ax)) (fun it s₂ => CompAt prog w A h₀ L env elt target iter ifs scope cl pos RR it s₂) E s := by
  have hR0 := hRd 0 #[] news s.heap hJ N F
  have hl : s.heap.IsList ax items := ⟨lo, hR0 _ hax, hc, n0, hd⟩
  have hne : ax ≠ s.heap.objs.size := Nat.ne_of_lt (Heap.lt_size (hR0 _ hax))
  have hLs : L < s.heap.objs.size := F.ns.lt
  refine wpAny_pyIter_list hl ?_
  refine compAt_walkT (It := fun i o => o.cls = .type "list_iterator" ∧ o.data = .fields #[.ref ax, .int (i : Nat) 0]) R J (Walks.list hh s.heap.objs.size ax hne items) hB (fun i v s Q E st q => letGo_listiter st.1 q)
    (fun i h oI e g r => ⟨⟨oI, g, e⟩, ⟨lo, r _ hax, hc, n0, hd⟩⟩) (fun i h g => let ⟨oI, a, b⟩ := g.1; ⟨oI, a, b⟩) hRd (fun p hp => Nat.ne_of_lt (Heap.lt_size (hR0 p hp))) hn hys (Heap.get?_push_size _ rfl) ⟨rfl, rfl⟩ (next_is_new F) (Nat.ne_of_gt hLs) (F.push _) (fun p hp => ⟨Heap.get?_push_of_some _ (N p hp).1, (N p hp).2⟩) (fun p hp => Nat.ne_of_lt (Heap.lt_size (N p hp).1)) hJ ?_ ?_
  · intro D C i v ys k nw oC oI mC h tk E hi hP hj hoff hnC hv Fh Nh hlt hDC
    exact turn _ D C _ i v ys k nw oC oI mC h tk E ⟨_, rfl⟩ hP hj hoff hnC hv Fh Nh hlt hDC
  · intro D C h' tk' ys k nw mC hCL hC0 hj h1 h2 h3 Fh Nh hns
    exact done _ D C h' tk' ys k nw mC ⟨_, rfl⟩ hCL hC0 hj h1 h2 h3 Fh Nh hns
/-- over a tuple -/
theorem compAt_tup {ax : Addr} {lo : Obj} {items : Array Value} {n0 : Nat} {Bnd : Nat → Value → (Str → Option Value) → Prop} (R : List (Addr × Obj)) (J : Nat → Array Value → List (Addr × Obj) → Prop) (hh : A.handled = none) (hax : (ax, lo) ∈ R) (hc : lo.cls = .type "tuple") (hd : lo.data = .seq items n0)
    (hB : Asg prog w A scope cl env target R (fun i v => items[i]? = some v) Bnd)
    (hRd : ∀ i ys nw h, J i ys nw → News h₀ L h nw → Fr h₀ L h m → ∀ p ∈ R, h.get? p.1 = some p.2) (hn : items.size ≤ 1000) (hys : ∀ i ys nw, J i ys nw → ys.size ≤ i) (F : Fr h₀ L s.heap m) (N : News h₀ L s.heap news) (hJ : J 0 #[] news)
    (turn : ∀ s₂ D C I i v ys k nw oC oI mC h tk E, (∃ hp, s₂ = { s with heap := hp }) → items[i]? = some v → J i ys nw → (∀ p ∈ nw, p.1 ≠ D ∧ p.1 ≠ C ∧ p.1 ≠ I) → NsO oC mC → Bnd i v mC → Fr h₀ L h m → News h₀ L h (nw ++ own3 D C I ys k oC oI) → (∀ p ∈ news, p.1 < D) → D < C →
      wpAny (model prog w) A (forIn ifs true fun c r => if r = true then do let ok ← isTrue c (compEnvC scope cl C env) (eval c (compEnvC scope cl C env)); pure (ForInStep.yield ok) else pure (ForInStep.yield r)) (fun ok s₃ =>
        if ok = true then wpAny (model prog w) A (eval elt (compEnvC scope cl C env)) (fun y s₄ => CompEnd h₀ L m D C I ys k oC oI (J (i + 1)) { s₂ with heap := h, toks := tk } [y] s₄) E s₃
        else CompEnd h₀ L m D C I ys k oC oI (J (i + 1)) { s₂ with heap := h, toks := tk } [] s₃) E { s₂ with heap := h, toks := tk })
    (done : ∀ s₂ D C h' tk' ys k nw mC, (∃ hp, s₂ = { s with heap := hp }) → C ≠ L → h₀.get? C = none → J items.size ys nw → (∀ p ∈ nw, p.1 ≠ D) → (∀ p ∈ nw ++ [(D, listOf ys k)], p.1 ≠ C) → (∀ p ∈ news, p.1 < D) → Fr h₀ L h' m → News h₀ L h' (nw ++ [(D, listOf ys k)]) → h'.Ns C mC → RR (.ref D) C (.ok .next) { s₂ with heap := h', toks := tk' }) :
    wpAny (model prog w) A (pyIter (.ref ax)) (fun it s₂ => CompAt prog w A h₀ L env elt target iter ifs scope cl pos RR it s₂) E s := by
  have hR0 := hRd 0 #[] news s.heap hJ N F
  have hl : s.heap.IsTuple ax items := ⟨lo, hR0 _ hax, hc, n0, hd⟩
  have hne : ax ≠ s.heap.objs.size := Nat.ne_of_lt (Heap.lt_size (hR0 _ hax))
  have hLs : L < s.heap.objs.size := F.ns.lt
  refine wpAny_pyIter_tuple hl ?_
  refine compAt_walkT (It := fun i o => o.cls = .type "tuple_iterator" ∧ o.data = .fields #[.ref ax, .int (i : Nat) 0]) R J (Walks.tuple hh s.heap.objs.size ax hne items) hB (fun i v s Q E st q => letGo_tupleiter st.1 q)
    (fun i h oI e g r => ⟨⟨oI, g, e⟩, ⟨lo, r _ hax, hc, n0, hd⟩⟩) (fun i h g => let ⟨oI, a, b⟩ := g.1; ⟨oI, a, b⟩) hRd (fun p hp => Nat.ne_of_lt (Heap.lt_size (hR0 p hp))) hn hys (Heap.get?_push_size _ rfl) ⟨rfl, rfl⟩ (next_is_new F) (Nat.ne_of_gt hLs) (F.push _) (fun p hp => ⟨Heap.get?_push_of_some _ (N p hp).1, (N p hp).2⟩) (fun p hp => Nat.ne_of_lt (Heap.lt_size (N p hp).1)) hJ ?_ ?_
  · intro D C i v ys k nw oC oI mC h tk E hi hP hj hoff hnC hv Fh Nh hlt hDC
    exact turn _ D C _ i v ys k nw oC oI mC h tk E ⟨_, rfl⟩ hP hj hoff hnC hv Fh Nh hlt hDC
  · intro D C h' tk' ys k nw mC hCL hC0 hj h1 h2 h3 Fh Nh hns
    exact done _ D C h' tk' ys k nw mC ⟨_, rfl⟩ hCL hC0 hj h1 h2 h3 Fh Nh hns
/-- over bytes -/
theorem compAt_bytes {b : Array UInt8} {tb : Tok} {ks : List Int} {x : Str} {px : Pos} (J : Nat → Array Value → List (Addr × Obj) → Prop) (hh : A.handled = none) (hx : scope.names.lookup x = some .local) (hkind : scope.kind = .function) (hb : KBw.bInts b = ks)
    (hn : ks.length ≤ 1000) (hys : ∀ i ys nw, J i ys nw → ys.size ≤ i) (F : Fr h₀ L s.heap m) (N : News h₀ L s.heap news) (hJ : J 0 #[] news)
    (turn : ∀ s₂ D C I i k' t ys k nw oC oI mC h tk E, (∃ hp, s₂ = { s with heap := hp }) → ks[i]? = some k' → J i ys nw → (∀ p ∈ nw, p.1 ≠ D ∧ p.1 ≠ C ∧ p.1 ≠ I) → NsO oC mC → mC x = some (.int k' t) → Fr h₀ L h m → News h₀ L h (nw ++ own3 D C I ys k oC oI) → (∀ p ∈ news, p.1 < D) → D < C →
      wpAny (model prog w) A (forIn ifs true fun c r => if r = true then do let ok ← isTrue c (compEnvC scope cl C env) (eval c (compEnvC scope cl C env)); pure (ForInStep.yield ok) else pure (ForInStep.yield r)) (fun ok s₃ =>
        if ok = true then wpAny (model prog w) A (eval elt (compEnvC scope cl C env)) (fun y s₄ => CompEnd h₀ L m D C I ys k oC oI (J (i + 1)) { s₂ with heap := h, toks := tk } [y] s₄) E s₃
        else CompEnd h₀ L m D C I ys k oC oI (J (i + 1)) { s₂ with heap := h, toks := tk } [] s₃) E { s₂ with heap := h, toks := tk })
    (done : ∀ s₂ D C h' tk' ys k nw mC, (∃ hp, s₂ = { s with heap := hp }) → C ≠ L → h₀.get? C = none → J ks.length ys nw → (∀ p ∈ nw, p.1 ≠ D) → (∀ p ∈ nw ++ [(D, listOf ys k)], p.1 ≠ C) → (∀ p ∈ news, p.1 < D) → Fr h₀ L h' m → News h₀ L h' (nw ++ [(D, listOf ys k)]) → h'.Ns C mC → RR (.ref D) C (.ok .next) { s₂ with heap := h', toks := tk' }) :
    wpAny (model prog w) A (pyIter (.bytes b tb)) (fun it s₂ => CompAt prog w A h₀ L env elt (.Name x px) iter ifs scope cl pos RR it s₂) E s := by
  subst hb
  rw [KBw.ints_length] at done hn
  have hLs : L < s.heap.objs.size := F.ns.lt
  refine KBw.pyIter_bytes ?_
  refine compAt_walkT (It := fun i o => o.cls = .type "bytes_iterator" ∧ o.data = .fields #[.bytes b tb, .int (i : Nat) 0]) [] J (KBw.walks hh s.heap.objs.size b tb) (asg_name hx hkind) (fun i v s Q E st q => wpAny_of_eq (a := ()) rfl q)
    (fun i h oI e g r => ⟨oI, g, e⟩) (fun i h g => let ⟨oI, a, b⟩ := g; ⟨oI, a, b⟩) (fun _ _ _ _ _ _ _ p hp => nomatch hp) (fun p hp => nomatch hp) hn hys (Heap.get?_push_size _ rfl) ⟨rfl, rfl⟩ (next_is_new F) (Nat.ne_of_gt hLs) (F.push _) (fun p hp => ⟨Heap.get?_push_of_some _ (N p hp).1, (N p hp).2⟩) (fun p hp => Nat.ne_of_lt (Heap.lt_size (N p hp).1)) hJ ?_ ?_
  · rintro D C i v ys k nw oC oI mC h tk E hi ⟨c, u, hc, rfl⟩ hj hoff hnC hv Fh Nh hlt hDC
    exact turn _ D C _ i _ u ys k nw oC oI mC h tk E ⟨_, rfl⟩ (KBw.ints_get hc) hj hoff hnC hv Fh Nh hlt hDC
  · intro D C h' tk' ys k nw mC hCL hC0 hj h1 h2 h3 Fh Nh hns
    exact done _ D C h' tk' ys k nw mC ⟨_, rfl⟩ hCL hC0 hj h1 h2 h3 Fh Nh hns
end
end



section
open PySem.Spec
variable {prog : Program} {w : World} {A : Around} {E : Value → Shared → Prop} {s : Shared} {h₀ : Heap} {L D : Addr} {m : Str → Option Value} {news news' : List (Addr × Obj)} {n : Nat} {t : Tok}
theorem set_list {its its' : Array Value} {k : Int} {v : Value} {Q : Unit → Shared → Prop} (F : Fr h₀ L s.heap m) (N : News h₀ L s.heap news) (e : its.setIfInBounds k.toNat v = its') (hs : its'.size = its.size) (U : Upd D (listOf its n) (listOf its' n) news news') (h0 : 0 ≤ k) (h1 : k < its.size) (hfit : k < 2 ^ 63)
    (h : ∀ h', Fr h₀ L h' m → News h₀ L h' news' → Q () { s with heap := h' }) : wpAny (model prog w) A (setItem (.ref D) (.int k t) v) Q E s := by
  obtain ⟨pre, post, rfl, rfl, a, b⟩ := U.split
  have z := N (D, listOf its n) (List.mem_append.mpr (.inr (.head _)))
  exact ki_setAt z.1 h0 hfit h1 (h _ (F.change (Heap.SameBut.update ..) z.2.1 z.2.2) (ki_turn _ N a b e (by rw [hs]; simp)))
theorem set_pen1 {a b c v : Value} {Q : Unit → Shared → Prop} (F : Fr h₀ L s.heap m) (N : News h₀ L s.heap news) (U : Upd D (listOf #[a, b, c] n) (listOf #[a, v, c] n) news news')
    (h : ∀ h', Fr h₀ L h' m → News h₀ L h' news' → Q () { s with heap := h' }) : wpAny (model prog w) A (setItem (.ref D) (.int 1 t) v) Q E s := set_list F N rfl rfl U (by decide) (by simp) (by decide) h
theorem set_pen2 {a b c v : Value} {Q : Unit → Shared → Prop} (F : Fr h₀ L s.heap m) (N : News h₀ L s.heap news) (U : Upd D (listOf #[a, b, c] n) (listOf #[a, b, v] n) news news')
    (h : ∀ h', Fr h₀ L h' m → News h₀ L h' news' → Q () { s with heap := h' }) : wpAny (model prog w) A (setItem (.ref D) (.int 2 t) v) Q E s := set_list F N rfl rfl U (by decide) (by simp) (by decide) h
end
section
variable {prog : Program} {w : World} {A : Around} {E : Value → Shared → Prop} {s : Shared} {a b : Int} {t u : Tok} {Q : Value → Shared → Prop}
theorem news_drop2 {h₀ h : Heap} {L : Addr} {p q : Addr × Obj} {l : List (Addr × Obj)} (N : News h₀ L h (p :: q :: l)) : News h₀ L h l := fun x hx => N x (List.mem_cons_of_mem _ (List.mem_cons_of_mem _ hx))
theorem mod_hide (hb : 0 < b) (h : ∀ r t' k, 0 ≤ r → r < b → Q (.int r t') { s with toks := k }) : wpAny (model prog w) A (binaryOp .Mod (.int a t) (.int b u)) Q E s :=
  mod_int' (by omega) (h _ _ _ (Int.fmod_nonneg_of_pos _ hb) (Int.fmod_lt_of_pos _ hb))
theorem div_hide (ha : 0 ≤ a) (hb : 0 < b) (hp : b < 2 ^ 64) (h : ∀ r t' k, 0 ≤ r → Q (.int r t') { s with toks := k }) : wpAny (model prog w) A (binaryOp .FloorDiv (.int a t) (.int b u)) Q E s :=
  floordiv_int (by omega) (h _ _ _ (by rw [Int.fdiv_eq_ediv_of_nonneg _ (by omega)]; exact Int.ediv_nonneg ha (by omega))) (.inl (by
    have hs : b.natAbs < 2 ^ 64 := by omega
    have hl : b.natAbs.log2 < 64 := by
      by_cases h0 : b.natAbs = 0
      · rw [h0]; decide
      · exact (Nat.log2_lt h0).mpr hs
    unfold Builtin.divisionGoesByPylong
    have : ¬ ((if b == 0 then 0 else b.natAbs.log2 / 30 + 1) > 300) := by split <;> omega
    simp only [decide_eq_false this, Bool.false_and]))
theorem pow_hide {n : Int} (h0 : 0 ≤ a) (h1 : a < 2 ^ 62) (hn : 0 ≤ n) (hn2 : n ≤ 10) (h : ∀ r t' k, Q (.int r t') { s with toks := k }) : wpAny (model prog w) A (binaryOp .Pow (.int a t) (.int n u)) Q E s :=
  pow_int_small hn (by omega) (by omega) (h _ _ _)
theorem pow_ten (h : ∀ t' k, Q (.int 1000000000000000000 t') { s with toks := k }) : wpAny (model prog w) A (binaryOp .Pow (.int 10 t) (.int 18 u)) Q E s :=
  pow_int_small (by decide) (by decide) (by decide) (h _ _)
theorem mul_hide (ha : 0 ≤ a) (ha2 : a < 2 ^ 31) (hb : 0 ≤ b) (hb2 : b < 2 ^ 20) (h : ∀ r t' k, 0 ≤ r → r < 2 ^ 51 → Q (.int r t') { s with toks := k }) : wpAny (model prog w) A (binaryOp .Mult (.int a t) (.int b u)) Q E s := by
  have h1 : a * b < 2 ^ 31 * 2 ^ 20 := Int.lt_of_le_of_lt (Int.mul_le_mul_of_nonneg_right (Int.le_of_lt ha2) hb) (Int.mul_lt_mul_of_pos_left hb2 (by decide))
  refine mul_int (h _ _ _ (Int.mul_nonneg ha hb) (by omega)) (IntMulOk.of_left ?_)
  unfold Builtin.Int.intBits
  split
  · omega
  · rename_i hne
    have : a.natAbs.log2 < 31 := (Nat.log2_lt (by simp at hne; omega)).mpr (by omega)
    omega
end
section
theorem draw_ct (w : World) (P Cl : Addr) (cells : List Value) (cs' : List Int) (k kc : Nat) (turn great many : Int) (t1 t2 t3 : Tok) (rest : List (Addr × Obj)) (hc : IntsAre cells cs') (hcl : cs'.length ≤ 48) (h0 : 0 ≤ turn) (h1 : turn ≤ 10000) (hg : 0 ≤ great) (hm : 1 ≤ many) (hm2 : many ≤ 100)
    (hPC : @Ne Nat P Cl) (hr : ∀ p ∈ rest, p.1 ≠ P) :
    Ct w 182 [.ref P, .int many t3] 2 128 ((P, listOf #[.ref Cl, .int turn t1, .int great t2] k) :: (Cl, listOf cells.toArray kc) :: rest) (fun r news' => ∃ d t turn' great' t1' t2', r = .int d t ∧ 0 ≤ d ∧ d < many ∧ turn ≤ turn' ∧ turn' ≤ turn + 1 ∧ 0 ≤ great' ∧
      news' = (P, listOf #[.ref Cl, .int turn' t1', .int great' t2'] k) :: (Cl, listOf cells.toArray kc) :: rest) := by
  unfold Ct
  k_fill
  intro loose mean mg mb dp un gd cn cs a ccd cl outer A₀ base h₀ L m s Q E B F X N T hk hd hu hret
  refine wpAny_call ?_
  k_dflt (refine' code_def (binds := [(Str.ofString "pen", .ref P), (Str.ofString "many", .int many t3)]) ?k1 ?k2 ?k3 ?k4 ?k5 ?kA ?kF ?kK ?k6 ?k7 ?k8 ?k9 ?kB ?_ ?c2 ?c3 ?c4 ?c5; (case kA => exact rfl); (case kF => exact rfl); (case kK => assumption); (case k1 => k_asm); (case k2 => k_asm); (case k3 => k_asm); (case k4 => k_asm); (case k5 => k_asm); (case k6 => k_is); (case k7 => k_is); (case k8 => ktr_room); (case k9 => exact BindsTo.of_eq rfl); (case c5 => decide); (case kB => exact locs rfl); (case c2 => exact rfl); (case c3 => exact rfl); (case c4 => exact rfl); k_whole)
  intro g' L' h' FG' F' N' B' X' T'
  dsimp only
  (try k_fold)
  (repeat' (first | (k_unfold; (try dsimp only)) | (k_end; kc_close) | (with_reducible first | ((show wpAny _ _ (storeName _ _ _) _ _ _); k_here; k_dflt (refine' flat_store ?F ?N ?_ ?a ?b; (case F => k_asm); (case N => k_asm); (case a => rfl); (case b => rfl); k_whole; intro _ _ _ _; (try k_sweep))) | (k_here; (show wpAny _ _ (setItem (Value.ref _) (Value.int 1 _) _) _ _ _); k_dflt (refine' set_pen1 ?k1 ?k2 ?k3 ?_; (case k1 => k_asm); (case k2 => k_asm); (case k3 => k_upd); k_whole); intro _ _ _) | (k_here; (show wpAny _ _ (setItem (Value.ref _) (Value.int 2 _) _) _ _ _); k_dflt (refine' set_pen2 ?k1 ?k2 ?k3 ?_; (case k1 => k_asm); (case k2 => k_asm); (case k3 => k_upd); k_whole); intro _ _ _) | ((show wpAny _ _ (binaryOp Operator.Pow (Value.int _ _) (Value.int _ _)) _ _ _); (with_reducible first | (refine pow_ten ?_; intro _ _) | (refine pow_hide (by omega) (by omega) (by omega) (by omega) ?_; intro _ _ _))) | ((show wpAny _ _ (binaryOp Operator.Mod (Value.int _ _) (Value.int _ _)) _ _ _); (with_reducible (refine mod_hide (by omega) ?_; intro _ _ _ _ _))) | ((show wpAny _ _ (binaryOp Operator.FloorDiv (Value.int _ _) (Value.int _ _)) _ _ _); (with_reducible (refine div_hide (by omega) (by omega) (by omega) ?_; intro _ _ _ _))) | ((show wpAny _ _ (binaryOp Operator.Mult (Value.int _ _) (Value.int _ _)) _ _ _); (fail_if_success (show wpAny _ _ (binaryOp Operator.Mult (Value.int (@OfNat.ofNat _ _ _) _) _) _ _ _)); (with_reducible (refine mul_hide (by omega) (by omega) (by omega) (by omega) ?_; intro _ _ _ _ _))) | ((show wpAny _ _ (eval (Expr.Constant (Const.int _) _ _) _) _ _ _); refine flat_int ?_) | ((show wpAny _ _ (binaryOp Operator.Add (Value.int _ _) (Value.int _ _)) _ _ _); refine flat_add ?_) | ((show wpAny _ _ (binaryOp Operator.Sub (Value.int _ _) (Value.int _ _)) _ _ _); refine flat_sub ?_) | ((show wpAny _ _ (eval (Expr.BinOp _ _ _ _) _) _ _ _); k_fold; k_dflt walk1) | ((show wpAny _ _ (eval (Expr.Compare _ _ _ _) _) _ _ _); k_fold; k_dflt walk1)) | walk1 | (dsimp only; first | (with_reducible first | ((show wpAny _ _ (storeName _ _ _) _ _ _); k_here; k_dflt (refine' flat_store ?F ?N ?_ ?a ?b; (case F => k_asm); (case N => k_asm); (case a => rfl); (case b => rfl); k_whole; intro _ _ _ _; (try k_sweep))) | (k_here; (show wpAny _ _ (setItem (Value.ref _) (Value.int 1 _) _) _ _ _); k_dflt (refine' set_pen1 ?k1 ?k2 ?k3 ?_; (case k1 => k_asm); (case k2 => k_asm); (case k3 => k_upd); k_whole); intro _ _ _) | (k_here; (show wpAny _ _ (setItem (Value.ref _) (Value.int 2 _) _) _ _ _); k_dflt (refine' set_pen2 ?k1 ?k2 ?k3 ?_; (case k1 => k_asm); (case k2 => k_asm); (case k3 => k_upd); k_whole); intro _ _ _) | ((show wpAny _ _ (binaryOp Operator.Pow (Value.int _ _) (Value.int _ _)) _ _ _); (with_reducible first | (refine pow_ten ?_; intro _ _) | (refine pow_hide (by omega) (by omega) (by omega) (by omega) ?_; intro _ _ _))) | ((show wpAny _ _ (binaryOp Operator.Mod (Value.int _ _) (Value.int _ _)) _ _ _); (with_reducible (refine mod_hide (by omega) ?_; intro _ _ _ _ _))) | ((show wpAny _ _ (binaryOp Operator.FloorDiv (Value.int _ _) (Value.int _ _)) _ _ _); (with_reducible (refine div_hide (by omega) (by omega) (by omega) ?_; intro _ _ _ _))) | ((show wpAny _ _ (binaryOp Operator.Mult (Value.int _ _) (Value.int _ _)) _ _ _); (fail_if_success (show wpAny _ _ (binaryOp Operator.Mult (Value.int (@OfNat.ofNat _ _ _) _) _) _ _ _)); (with_reducible (refine mul_hide (by omega) (by omega) (by omega) (by omega) ?_; intro _ _ _ _ _)))) | walk1) | (leave1; walk_say "STEP leave1"; try dsimp only) | fail "no step"))
  · exact hret _ _ _ _ (by k_asm) (by k_asm) ⟨_, _, _, _, _, _, rfl, by omega, by omega, by omega, by omega, by omega, rfl⟩
  · exact hret _ _ _ _ (by k_asm) (news_drop2 (by k_asm)) ⟨_, _, _, _, _, _, rfl, by omega, by omega, by omega, by omega, by omega, rfl⟩
  · exact hret _ _ _ _ (by k_asm) (news_drop2 (by k_asm)) ⟨_, _, _, _, _, _, rfl, by omega, by omega, by omega, by omega, by omega, rfl⟩
  · exfalso
    have h1 : (cs'.length : Int) = 0 := by assumption
    have h2 : cs' = [] := List.length_eq_zero_iff.mp (by omega)
    simp_all
  · exact hret _ _ _ _ (by k_asm) (news_drop2 (by k_asm)) ⟨_, _, _, _, _, _, rfl, by omega, by omega, by omega, by omega, by omega, rfl⟩
  · exact hret _ _ _ _ (by k_asm) (news_drop2 (by k_asm)) ⟨_, _, _, _, _, _, rfl, by omega, by omega, by omega, by omega, by omega, rfl⟩
  · exact hret _ _ _ _ (by k_asm) (news_drop2 (by k_asm)) ⟨_, _, _, _, _, _, rfl, by omega, by omega, by omega, by omega, by omega, rfl⟩
end



theorem pick_bytes_ct (w : World) (P Cl : Addr) (cells : List Value) (cs' : List Int) (k kc : Nat) (turn great : Int) (t1 t2 t3 : Tok) (b : Array UInt8) (ks : List Int) (rest : List (Addr × Obj)) (hc : IntsAre cells cs') (hcl : cs'.length ≤ 48) (h0 : 0 ≤ turn) (h1 : turn ≤ 10000) (hg : 0 ≤ great)
    (hb : KBw.bInts b = ks) (hk1 : 1 ≤ ks.length) (hk2 : ks.length ≤ 100) (hPC : @Ne Nat P Cl) (hr : ∀ p ∈ rest, p.1 ≠ P) :
    Ct w 189 [.ref P, .bytes b t3] 4 160 ((P, listOf #[.ref Cl, .int turn t1, .int great t2] k) :: (Cl, listOf cells.toArray kc) :: rest) (fun r news' => ∃ d t turn' great' t1' t2', r = .int d t ∧ d ∈ ks ∧ turn ≤ turn' ∧ turn' ≤ turn + 1 ∧ 0 ≤ great' ∧
      news' = (P, listOf #[.ref Cl, .int turn' t1', .int great' t2'] k) :: (Cl, listOf cells.toArray kc) :: rest) := by
  unfold Ct
  k_fill
  intro loose mean mg mb dp un gd cn cs a ccd cl outer A₀ base h₀ L m s Q E B F X N T hk hd hu hret
  refine wpAny_call ?_
  k_dflt (refine' code_def (binds := [(Str.ofString "pen", .ref P), (Str.ofString "some", .bytes b t3)]) ?k1 ?k2 ?k3 ?k4 ?k5 ?kA ?kF ?kK ?k6 ?k7 ?k8 ?k9 ?kB ?_ ?c2 ?c3 ?c4 ?c5; (case kA => exact rfl); (case kF => exact rfl); (case kK => assumption); (case k1 => k_asm); (case k2 => k_asm); (case k3 => k_asm); (case k4 => k_asm); (case k5 => k_asm); (case k6 => k_is); (case k7 => k_is); (case k8 => ktr_room); (case k9 => exact BindsTo.of_eq rfl); (case c5 => decide); (case kB => exact locs rfl); (case c2 => exact rfl); (case c3 => exact rfl); (case c4 => exact rfl); k_whole)
  intro g' L' h' FG' F' N' B' X' T'
  dsimp only
  (try k_fold)
  (repeat' (first | (k_unfold; (try dsimp only)) | (k_end; kc_close) | (with_reducible first | (k_here; (show wpAny _ _ (call (Value.ref 182) _) _ _ _); k_dflt (refine' Ct.use (draw_ct _ _ _ _ _ _ _ _ _ _ _ _ _ _ ?h1 ?h2 ?h3 ?h4 ?h5 ?h6 ?h7 ?h8 ?h9) ?k1 ?k2 ?k3 ?k4 ?k5 ?kK ?kd ?ku ?_; (case k4 => k_asm); (case k1 => k_asm); (case k2 => k_asm); (case k3 => k_asm); (case k5 => k_asm); (case h1 => assumption); (case h2 => omega); (case h3 => omega); (case h4 => omega); (case h5 => omega); (case h6 => omega); (case h7 => omega); (case h8 => assumption); (case h9 => assumption); (case kK => first | exact rfl | assumption); (case kd => ktr_room); (case ku => ktr_units)); (intro _ _ _ _ _ _ hp9; obtain ⟨_, _, _, _, _, _, hr9, _, _, _, _, _, hn9⟩ := hp9; subst hr9; subst hn9); (try dsimp only); (try k_fold)) | ((show wpAny _ _ (call (Value.ref 182) _) _ _ _); refine Stop.of ?_) | ((show wpAny _ _ (subscriptTail _ _ (Value.ref _) (Value.int _ _)) _ _ _); refine Stop.of ?_) | ((show wpAny _ _ (call (Value.builtin "len") [Value.ref _]) _ _ _); refine Stop.of ?_) | ((show wpAny _ _ (eval (Expr.Constant (Const.int _) _ _) _) _ _ _); refine flat_int ?_) | ((show wpAny _ _ (binaryOp Operator.Add (Value.int _ _) (Value.int _ _)) _ _ _); refine flat_add ?_) | ((show wpAny _ _ (binaryOp Operator.Sub (Value.int _ _) (Value.int _ _)) _ _ _); refine flat_sub ?_) | ((show wpAny _ _ (eval (Expr.BinOp _ _ _ _) _) _ _ _); k_fold; k_dflt walk1) | ((show wpAny _ _ (eval (Expr.Compare _ _ _ _) _) _ _ _); k_fold; k_dflt walk1)) | walk1 | (dsimp only; first | (with_reducible first | (k_here; (show wpAny _ _ (call (Value.ref 182) _) _ _ _); k_dflt (refine' Ct.use (draw_ct _ _ _ _ _ _ _ _ _ _ _ _ _ _ ?h1 ?h2 ?h3 ?h4 ?h5 ?h6 ?h7 ?h8 ?h9) ?k1 ?k2 ?k3 ?k4 ?k5 ?kK ?kd ?ku ?_; (case k4 => k_asm); (case k1 => k_asm); (case k2 => k_asm); (case k3 => k_asm); (case k5 => k_asm); (case h1 => assumption); (case h2 => omega); (case h3 => omega); (case h4 => omega); (case h5 => omega); (case h6 => omega); (case h7 => omega); (case h8 => assumption); (case h9 => assumption); (case kK => first | exact rfl | assumption); (case kd => ktr_room); (case ku => ktr_units)); (intro _ _ _ _ _ _ hp9; obtain ⟨_, _, _, _, _, _, hr9, _, _, _, _, _, hn9⟩ := hp9; subst hr9; subst hn9); (try dsimp only); (try k_fold)) | ((show wpAny _ _ (call (Value.ref 182) _) _ _ _); refine Stop.of ?_) | ((show wpAny _ _ (subscriptTail _ _ (Value.ref _) (Value.int _ _)) _ _ _); refine Stop.of ?_) | ((show wpAny _ _ (call (Value.builtin "len") [Value.ref _]) _ _ _); refine Stop.of ?_)) | walk1) | (leave1; walk_say "STEP leave1"; try dsimp only) | fail "no step"))
  rename 0 ≤ _ => hd0
  refine hret _ _ _ _ (by k_asm) (by k_asm) ⟨_, _, _, _, _, _, rfl, ?_, by omega, by omega, by omega, rfl⟩
  rw [List.getD_eq_getElem?_getD, List.getElem?_eq_getElem (by omega), Option.getD_some]
  exact List.getElem_mem _
section
theorem pick_list_ct (w : World) (P Cl M : Addr) (cells : List Value) (cs' : List Int) (vs : Array Value) (k kc km : Nat) (turn great : Int) (t1 t2 : Tok) (rest : List (Addr × Obj)) (hc : IntsAre cells cs') (hcl : cs'.length ≤ 48) (h0 : 0 ≤ turn) (h1 : turn ≤ 10000) (hg : 0 ≤ great)
    (hv1 : 1 ≤ vs.size) (hv2 : vs.size ≤ 100) (hM : (M, listOf vs km) ∈ rest) (hPC : @Ne Nat P Cl) (hr : ∀ p ∈ rest, p.1 ≠ P) :
    Ct w 189 [.ref P, .ref M] 4 160 ((P, listOf #[.ref Cl, .int turn t1, .int great t2] k) :: (Cl, listOf cells.toArray kc) :: rest) (fun r news' => ∃ turn' great' t1' t2', r ∈ vs.toList ∧ turn ≤ turn' ∧ turn' ≤ turn + 1 ∧ 0 ≤ great' ∧
      news' = (P, listOf #[.ref Cl, .int turn' t1', .int great' t2'] k) :: (Cl, listOf cells.toArray kc) :: rest) := by
  unfold Ct
  k_fill
  intro loose mean mg mb dp un gd cn cs a ccd cl outer A₀ base h₀ L m s Q E B F X N T hk hd hu hret
  refine wpAny_call ?_
  k_dflt (refine' code_def (binds := [(Str.ofString "pen", .ref P), (Str.ofString "some", .ref M)]) ?k1 ?k2 ?k3 ?k4 ?k5 ?kA ?kF ?kK ?k6 ?k7 ?k8 ?k9 ?kB ?_ ?c2 ?c3 ?c4 ?c5; (case kA => exact rfl); (case kF => exact rfl); (case kK => assumption); (case k1 => k_asm); (case k2 => k_asm); (case k3 => k_asm); (case k4 => k_asm); (case k5 => k_asm); (case k6 => k_is); (case k7 => k_is); (case k8 => ktr_room); (case k9 => exact BindsTo.of_eq rfl); (case c5 => decide); (case kB => exact locs rfl); (case c2 => exact rfl); (case c3 => exact rfl); (case c4 => exact rfl); k_whole)
  intro g' L' h' FG' F' N' B' X' T'
  dsimp only
  (try k_fold)
  (repeat' (first | (k_unfold; (try dsimp only)) | (k_end; kc_close) | (with_reducible first | (k_here; (show wpAny _ _ (call (Value.ref 182) _) _ _ _); k_dflt (refine' Ct.use (draw_ct _ _ _ _ _ _ _ _ _ _ _ _ _ _ ?h1 ?h2 ?h3 ?h4 ?h5 ?h6 ?h7 ?h8 ?h9) ?k1 ?k2 ?k3 ?k4 ?k5 ?kK ?kd ?ku ?_; (case k4 => k_asm); (case k1 => k_asm); (case k2 => k_asm); (case k3 => k_asm); (case k5 => k_asm); (case h1 => assumption); (case h2 => omega); (case h3 => omega); (case h4 => omega); (case h5 => omega); (case h6 => omega); (case h7 => omega); (case h8 => assumption); (case h9 => assumption); (case kK => first | exact rfl | assumption); (case kd => ktr_room); (case ku => ktr_units)); (intro _ _ _ _ _ _ hp9; obtain ⟨_, _, _, _, _, _, hr9, _, _, _, _, _, hn9⟩ := hp9; subst hr9; subst hn9); (try dsimp only); (try k_fold)) | ((show wpAny _ _ (call (Value.ref 182) _) _ _ _); refine Stop.of ?_) | ((show wpAny _ _ (subscriptTail _ _ (Value.ref _) (Value.int _ _)) _ _ _); refine Stop.of ?_) | ((show wpAny _ _ (call (Value.builtin "len") [Value.ref _]) _ _ _); refine Stop.of ?_) | ((show wpAny _ _ (eval (Expr.Constant (Const.int _) _ _) _) _ _ _); refine flat_int ?_) | ((show wpAny _ _ (binaryOp Operator.Add (Value.int _ _) (Value.int _ _)) _ _ _); refine flat_add ?_) | ((show wpAny _ _ (binaryOp Operator.Sub (Value.int _ _) (Value.int _ _)) _ _ _); refine flat_sub ?_) | ((show wpAny _ _ (eval (Expr.BinOp _ _ _ _) _) _ _ _); k_fold; k_dflt walk1) | ((show wpAny _ _ (eval (Expr.Compare _ _ _ _) _) _ _ _); k_fold; k_dflt walk1)) | walk1 | (dsimp only; first | (with_reducible first | (k_here; (show wpAny _ _ (call (Value.ref 182) _) _ _ _); k_dflt (refine' Ct.use (draw_ct _ _ _ _ _ _ _ _ _ _ _ _ _ _ ?h1 ?h2 ?h3 ?h4 ?h5 ?h6 ?h7 ?h8 ?h9) ?k1 ?k2 ?k3 ?k4 ?k5 ?kK ?kd ?ku ?_; (case k4 => k_asm); (case k1 => k_asm); (case k2 => k_asm); (case k3 => k_asm); (case k5 => k_asm); (case h1 => assumption); (case h2 => omega); (case h3 => omega); (case h4 => omega); (case h5 => omega); (case h6 => omega); (case h7 => omega); (case h8 => assumption); (case h9 => assumption); (case kK => first | exact rfl | assumption); (case kd => ktr_room); (case ku => ktr_units)); (intro _ _ _ _ _ _ hp9; obtain ⟨_, _, _, _, _, _, hr9, _, _, _, _, _, hn9⟩ := hp9; subst hr9; subst hn9); (try dsimp only); (try k_fold)) | ((show wpAny _ _ (call (Value.ref 182) _) _ _ _); refine Stop.of ?_) | ((show wpAny _ _ (subscriptTail _ _ (Value.ref _) (Value.int _ _)) _ _ _); refine Stop.of ?_) | ((show wpAny _ _ (call (Value.builtin "len") [Value.ref _]) _ _ _); refine Stop.of ?_)) | walk1) | (leave1; walk_say "STEP leave1"; try dsimp only) | fail "no step"))
  rename News _ _ _ _ => N9
  refine Stop.go ?_
  (try k_fold)
  refine (len_list (items := vs) ⟨_, (N9 (M, listOf vs km) (by simp [hM])).1, rfl, km, rfl⟩ (by omega) ?_)
  (repeat' (first | (k_unfold; (try dsimp only)) | (k_end; kc_close) | (with_reducible first | (k_here; (show wpAny _ _ (call (Value.ref 182) _) _ _ _); k_dflt (refine' Ct.use (draw_ct _ _ _ _ _ _ _ _ _ _ _ _ _ _ ?h1 ?h2 ?h3 ?h4 ?h5 ?h6 ?h7 ?h8 ?h9) ?k1 ?k2 ?k3 ?k4 ?k5 ?kK ?kd ?ku ?_; (case k4 => k_asm); (case k1 => k_asm); (case k2 => k_asm); (case k3 => k_asm); (case k5 => k_asm); (case h1 => assumption); (case h2 => omega); (case h3 => omega); (case h4 => omega); (case h5 => omega); (case h6 => omega); (case h7 => omega); (case h8 => assumption); (case h9 => assumption); (case kK => first | exact rfl | assumption); (case kd => ktr_room); (case ku => ktr_units)); (intro _ _ _ _ _ _ hp9; obtain ⟨_, _, _, _, _, _, hr9, _, _, _, _, _, hn9⟩ := hp9; subst hr9; subst hn9); (try dsimp only); (try k_fold)) | ((show wpAny _ _ (call (Value.ref 182) _) _ _ _); refine Stop.of ?_) | ((show wpAny _ _ (subscriptTail _ _ (Value.ref _) (Value.int _ _)) _ _ _); refine Stop.of ?_) | ((show wpAny _ _ (call (Value.builtin "len") [Value.ref _]) _ _ _); refine Stop.of ?_) | ((show wpAny _ _ (eval (Expr.Constant (Const.int _) _ _) _) _ _ _); refine flat_int ?_) | ((show wpAny _ _ (binaryOp Operator.Add (Value.int _ _) (Value.int _ _)) _ _ _); refine flat_add ?_) | ((show wpAny _ _ (binaryOp Operator.Sub (Value.int _ _) (Value.int _ _)) _ _ _); refine flat_sub ?_) | ((show wpAny _ _ (eval (Expr.BinOp _ _ _ _) _) _ _ _); k_fold; k_dflt walk1) | ((show wpAny _ _ (eval (Expr.Compare _ _ _ _) _) _ _ _); k_fold; k_dflt walk1)) | walk1 | (dsimp only; first | (with_reducible first | (k_here; (show wpAny _ _ (call (Value.ref 182) _) _ _ _); k_dflt (refine' Ct.use (draw_ct _ _ _ _ _ _ _ _ _ _ _ _ _ _ ?h1 ?h2 ?h3 ?h4 ?h5 ?h6 ?h7 ?h8 ?h9) ?k1 ?k2 ?k3 ?k4 ?k5 ?kK ?kd ?ku ?_; (case k4 => k_asm); (case k1 => k_asm); (case k2 => k_asm); (case k3 => k_asm); (case k5 => k_asm); (case h1 => assumption); (case h2 => omega); (case h3 => omega); (case h4 => omega); (case h5 => omega); (case h6 => omega); (case h7 => omega); (case h8 => assumption); (case h9 => assumption); (case kK => first | exact rfl | assumption); (case kd => ktr_room); (case ku => ktr_units)); (intro _ _ _ _ _ _ hp9; obtain ⟨_, _, _, _, _, _, hr9, _, _, _, _, _, hn9⟩ := hp9; subst hr9; subst hn9); (try dsimp only); (try k_fold)) | ((show wpAny _ _ (call (Value.ref 182) _) _ _ _); refine Stop.of ?_) | ((show wpAny _ _ (subscriptTail _ _ (Value.ref _) (Value.int _ _)) _ _ _); refine Stop.of ?_) | ((show wpAny _ _ (call (Value.builtin "len") [Value.ref _]) _ _ _); refine Stop.of ?_)) | walk1) | (leave1; walk_say "STEP leave1"; try dsimp only) | fail "no step"))
  rename News _ _ _ _ => N9
  rename 0 ≤ _ => hd0
  refine Stop.go ?_
  (try k_fold)
  refine (list_item (vs := vs) ⟨_, (N9 (M, listOf vs km) (by simp [hM])).1, rfl, km, rfl⟩ (by omega) (by omega) (Array.getElem?_eq_getElem (by omega)) ?_)
  (repeat' (first | (k_unfold; (try dsimp only)) | (k_end; kc_close) | (with_reducible first | (k_here; (show wpAny _ _ (call (Value.ref 182) _) _ _ _); k_dflt (refine' Ct.use (draw_ct _ _ _ _ _ _ _ _ _ _ _ _ _ _ ?h1 ?h2 ?h3 ?h4 ?h5 ?h6 ?h7 ?h8 ?h9) ?k1 ?k2 ?k3 ?k4 ?k5 ?kK ?kd ?ku ?_; (case k4 => k_asm); (case k1 => k_asm); (case k2 => k_asm); (case k3 => k_asm); (case k5 => k_asm); (case h1 => assumption); (case h2 => omega); (case h3 => omega); (case h4 => omega); (case h5 => omega); (case h6 => omega); (case h7 => omega); (case h8 => assumption); (case h9 => assumption); (case kK => first | exact rfl | assumption); (case kd => ktr_room); (case ku => ktr_units)); (intro _ _ _ _ _ _ hp9; obtain ⟨_, _, _, _, _, _, hr9, _, _, _, _, _, hn9⟩ := hp9; subst hr9; subst hn9); (try dsimp only); (try k_fold)) | ((show wpAny _ _ (call (Value.ref 182) _) _ _ _); refine Stop.of ?_) | ((show wpAny _ _ (subscriptTail _ _ (Value.ref _) (Value.int _ _)) _ _ _); refine Stop.of ?_) | ((show wpAny _ _ (call (Value.builtin "len") [Value.ref _]) _ _ _); refine Stop.of ?_) | ((show wpAny _ _ (eval (Expr.Constant (Const.int _) _ _) _) _ _ _); refine flat_int ?_) | ((show wpAny _ _ (binaryOp Operator.Add (Value.int _ _) (Value.int _ _)) _ _ _); refine flat_add ?_) | ((show wpAny _ _ (binaryOp Operator.Sub (Value.int _ _) (Value.int _ _)) _ _ _); refine flat_sub ?_) | ((show wpAny _ _ (eval (Expr.BinOp _ _ _ _) _) _ _ _); k_fold; k_dflt walk1) | ((show wpAny _ _ (eval (Expr.Compare _ _ _ _) _) _ _ _); k_fold; k_dflt walk1)) | walk1 | (dsimp only; first | (with_reducible first | (k_here; (show wpAny _ _ (call (Value.ref 182) _) _ _ _); k_dflt (refine' Ct.use (draw_ct _ _ _ _ _ _ _ _ _ _ _ _ _ _ ?h1 ?h2 ?h3 ?h4 ?h5 ?h6 ?h7 ?h8 ?h9) ?k1 ?k2 ?k3 ?k4 ?k5 ?kK ?kd ?ku ?_; (case k4 => k_asm); (case k1 => k_asm); (case k2 => k_asm); (case k3 => k_asm); (case k5 => k_asm); (case h1 => assumption); (case h2 => omega); (case h3 => omega); (case h4 => omega); (case h5 => omega); (case h6 => omega); (case h7 => omega); (case h8 => assumption); (case h9 => assumption); (case kK => first | exact rfl | assumption); (case kd => ktr_room); (case ku => ktr_units)); (intro _ _ _ _ _ _ hp9; obtain ⟨_, _, _, _, _, _, hr9, _, _, _, _, _, hn9⟩ := hp9; subst hr9; subst hn9); (try dsimp only); (try k_fold)) | ((show wpAny _ _ (call (Value.ref 182) _) _ _ _); refine Stop.of ?_) | ((show wpAny _ _ (subscriptTail _ _ (Value.ref _) (Value.int _ _)) _ _ _); refine Stop.of ?_) | ((show wpAny _ _ (call (Value.builtin "len") [Value.ref _]) _ _ _); refine Stop.of ?_)) | walk1) | (leave1; walk_say "STEP leave1"; try dsimp only) | fail "no step"))
  exact hret _ _ _ _ (by k_asm) (by k_asm) ⟨_, _, _, _, Array.getElem_mem_toList _, by omega, by omega, by omega, rfl⟩
end


section
open PySem.Spec
variable {prog : Program} {w : World} {A : Around} {E : Value → Shared → Prop} {h : Heap} {g : Array GenState} {d : Drawn} {t : Nat} {os : OsState}
variable {nm q : Str} {C N : Addr} {bs bm bmB : List Value} {hdct : Bool} {sn : List Str} {sub : List Value} {ab : Bool} {col : Option Bool} {dd : Option Addr} {k0 k1 k2 k3 k5 : Option Value} {B newId initId : String}
theorem own_check_new {M : Model} (F : ExcBaseFacts B newId initId bmB) (hcB : bm.contains (.type B) = true) {rest : List Value} {Q : Unit → Shared → Prop} (hC : h.get? C = some (excClassObj nm q C N bs bm hdct sn sub ab col dd k0 k1 k2 k3 k5 newId))
    (hq : Q () ⟨h, g, d, t, os⟩) : wpAny M A (checkBuiltinCall newId ⟨.ref C :: rest, []⟩) Q E ⟨h, g, d, t, os⟩ := by
  have hcont : (Value.ref C :: bm).contains (.type B) = true := by rw [List.contains_cons, hcB, Bool.or_true]
  have hstar := F.noStar
  simp only [checkBuiltinCall, F.newKind, F.newSplit, F.newRow]
  repeat (first | refine wpAny_loadPart_at hC ?_ | (refine wpAny_isSubtype_exc hC ?_; rw [hcont]) | refine wpAny_staticBase_exc hC ?_ | refine wpAny_madeBy_exc hC ?_ | simp only [bne_self_eq_false, Bool.false_eq_true, if_false] | wp_step)
  exact hq
theorem own_new {R : Result → Shared → Prop} (F : ExcBaseFacts B newId initId bmB) (hcB : bm.contains (.type B) = true) (hcA : bm.contains (.type "AttributeError") = false) (hcN : bm.contains (.type "NameError") = false) {rest : List Value}
    (hC : h.get? C = some (excClassObj nm q C N bs bm hdct sn sub ab col dd k0 k1 k2 k3 k5 newId))
    (hq : R (.ok (.ret (.ref (h.objs.size + 1)))) ⟨(h.push { cls := .type "tuple", data := .seq rest.toArray }).push
      { cls := .ref C, data := .fields #[.ref h.objs.size, .none, .none, .none, .bool false, .none] }, g, d, t, os⟩) (hrest : rest.length ≤ sizeLine := by size_fits) :
    codeAny (model prog w) A (.builtin newId ⟨.ref C :: rest, []⟩) R ⟨h, g, d, t, os⟩ := by
  have hends := F.ends
  replace hcB : (Value.ref C :: bm).contains (.type B) = true := by rw [List.contains_cons, hcB, Bool.or_true]
  replace hcA : (Value.ref C :: bm).contains (.type "AttributeError") = false := by rw [List.contains_cons, hcA]; rfl
  replace hcN : (Value.ref C :: bm).contains (.type "NameError") = false := by rw [List.contains_cons, hcN]; rfl
  refine codeAny_builtinAt F.entry ?_
  unfold Builtin.«BaseException.__new__»
  refine PySem.wpAt_bind ?_
  show PySem.wpAt _ _ _ (stack >>= _) _ _ _
  refine PySem.wpAt_bind (PySem.wpAt_stack fun p below => PySem.wpAt_of_wpAny ?_)
  wp_walk
  refine PySem.wpAt_of_wpAny ?_
  rw [F.owner]
  repeat (first | with_reducible refine wpAny_madeHere_exc F.canon hC ?_ | with_reducible refine wpAny_loadPart_at hC ?_ | (with_reducible refine wpAny_isSubtype_exc hC ?_; first | rw [hcB] | rw [hcA] | rw [hcN]) | wp_step)
  show R _ _
  rw [Heap.size_push]
  exact hq
/-- an exception's object, its texts in the tuple T -/
noncomputable abbrev excObj (C T : Addr) : Obj := { cls := .ref C, data := .fields #[.ref T, .none, .none, .none, .bool false, .none] }
theorem own_type_call (F : ExcBaseFacts B newId initId bmB) (hcB : bm.contains (.type B) = true) (hcA : bm.contains (.type "AttributeError") = false) (hcN : bm.contains (.type "NameError") = false) {rest : List Value} {fI : Addr} {oI : Obj} {Q : Fin → Shared → Prop}
    (hC : h.get? C = some (excClassObj nm q C N bs bm hdct sn sub ab col dd k0 k1 k2 k3 k5 newId)) (hi : Looks (model prog w) h (typeLookup (.ref C) "__init__") (some (.ref fI)))
    (hfI : h.get? fI = some oI) (hfc : oI.cls = .type "function")
    (hq : wpAny (model prog w) A (call (.ref fI) (.ref (h.objs.size + 1) :: rest)) (fun r s' => r = .none ∧ Q (.done (.ret (.ref (h.objs.size + 1)))) s') E
      ⟨(h.push { cls := .type "tuple", data := .seq rest.toArray }).push (excObj C h.objs.size), g, d, t, os⟩) (hrest : rest.length ≤ sizeLine := by size_fits) :
    wpAny (model prog w) A (Builtin.«type.__call__» ⟨.ref C :: rest, []⟩) Q E ⟨h, g, d, t, os⟩ := by
  repeat (first | with_reducible refine wpAny_loadPart_at hC ?_ | with_reducible refine wpAny_madeBy_exc hC ?_ | wp_step)
  refine codeAny_call_builtin_code (Code.quiet_builtin _ F.quiet) (own_check_new F hcB hC ?_)
  refine own_new F hcB hcA hcN hC ?_ hrest
  show wpAny _ _ _ _ _ _
  have kk : ∀ b o, h.get? b = some o → ((h.push { cls := .type "tuple", data := .seq rest.toArray }).push (excObj C h.objs.size)).get? b = some o := fun b o e => Heap.get?_push_of_some _ (Heap.get?_push_of_some _ e)
  have hC₁ := kk _ _ hC
  have hfI₁ := kk _ _ hfI
  have hget : ((h.push { cls := .type "tuple", data := .seq rest.toArray }).push
      { cls := .ref C, data := .fields #[.ref h.objs.size, .none, .none, .none, .bool false, .none] }).get? (h.objs.size + 1) = some
      { cls := .ref C, data := .fields #[.ref h.objs.size, .none, .none, .none, .bool false, .none] } := by heap_get
  have hcC : (Value.ref C :: bm).contains (.ref C) = true := by simp
  unfold isInstance
  repeat (first | with_reducible refine wpAny_loadPart_at hget ?_ | (with_reducible refine wpAny_isSubtype_exc hC₁ ?_; rw [hcC]) | wp_step)
  show wpAny _ _ (typeLookup (.ref C) _) _ _ _
  refine (hi.keeps kk).here ?_
  refine wpAny_holding (wpAny_bind ?_)
  unfold bindSpecial
  refine wpAny_bind (wpAny_typeOf (T := "function") ⟨_, hfI₁, hfc⟩ ?_)
  rw [if_pos (by decide)]
  refine wpAny_pure (wpAny_bind (wpAny_mono hq (fun r s' hr => ?_) fun _ _ x => x))
  obtain ⟨rfl, hQ⟩ := hr
  wp_walk
  exact hQ
theorem own_make (F : ExcBaseFacts B newId initId bmB) (hcB : bm.contains (.type B) = true) (hcA : bm.contains (.type "AttributeError") = false) (hcN : bm.contains (.type "NameError") = false) {rest : List Value} {fI : Addr} {oI : Obj} {Q : Value → Shared → Prop}
    (hC : h.get? C = some (excClassObj nm q C N bs bm hdct sn sub ab col dd k0 k1 k2 k3 k5 newId)) (hi : Looks (model prog w) h (typeLookup (.ref C) "__init__") (some (.ref fI)))
    (hfI : h.get? fI = some oI) (hfc : oI.cls = .type "function")
    (hq : wpAny (model prog w) (A.under (.builtin "type.__call__" ⟨.ref C :: rest, []⟩)) (call (.ref fI) (.ref (h.objs.size + 1) :: rest)) (fun r s' => r = .none ∧ Q (.ref (h.objs.size + 1)) s') E
      ⟨(h.push { cls := .type "tuple", data := .seq rest.toArray }).push (excObj C h.objs.size), g, d, t, os⟩) (hrest : rest.length ≤ sizeLine := by size_fits) :
    wpAny (model prog w) A (call (.ref C) rest) Q E ⟨h, g, d, t, os⟩ := by
  have f1 := tc_lookup
  have f2 := tc_bind (.ref C)
  have hT : (⟨h, g, d, t, os⟩ : Shared).TypeIs (.ref C) "type" := ⟨_, hC, rfl⟩
  refine wpAny_call (codeAny_of_tree ?_)
  show wpAny _ _ (callAny (.ref C) _) _ _ _
  repeat (any_goals (first | assumption | with_reducible refine wpAny_loadPart_at hC ?_ | wp_step))
  refine ⟨rfl, ?_⟩
  exact codeAny_call_builtin_at (Code.quiet_builtin _ (by decide +kernel)) entry_typeCall (wpAny_check_type_call_sub hC (own_type_call (hrest := hrest) F hcB hcA hcN hC hi hfI hfc hq))
end
section
open PySem.Spec
variable {w : World} {A : Around} {E : Value → Shared → Prop} {s : Shared} {h₀ : Heap} {L : Addr} {m : Str → Option Value} {news : List (Addr × Obj)} {Q : Value → Shared → Prop}
theorem make_fault {rest : List Value} (F : Fr h₀ L s.heap m) (X : (Mine.hd.heap_39 w.params).In h₀) (N : News h₀ L s.heap news) (hrest : rest.length ≤ sizeLine)
    (h : ∀ e T h', Fr h₀ L h' m → News h₀ L h' ((e, excObj 60 T) :: (T, { cls := .type "tuple", data := .seq rest.toArray }) :: news) → (∀ p ∈ news, p.1 < T) → T < e →
      wpAny (model PySem.Challenge.rw_og0078_01.row.prog w) (A.under (.builtin "type.__call__" ⟨.ref 60 :: rest, []⟩)) (call (.ref 37) (.ref e :: rest)) (fun r s' => r = .none ∧ Q (.ref e) s') E { s with heap := h' }) :
    wpAny (model PySem.Challenge.rw_og0078_01.row.prog w) A (call (.ref 60) rest) Q E s := by
  revert F X N
  k_fill
  intro F X N
  obtain ⟨hh, g, d, t, os⟩ := s
  have X' := X.keeps F.keep
  refine own_make (A := A) (nm := "RunFault") (q := "RunFault") (N := 59) (bs := [.ref 47]) (bm := [.ref 47, .type "Exception", .type "BaseException", .type "object"]) PySem.F.excBase_Exception (by decide) (by decide) (by decide) (X' 60 _ rfl) (looks_findIn X' (by k_is)) (X' 37 _ rfl) rfl ?_ hrest
  refine h _ _ _ ((F.push _).push _) ?_ (fun p hp => Heap.lt_size (N p hp).1) (Nat.lt_succ_self _)
  have := (N.push F { cls := .type "tuple", data := .seq rest.toArray }).push (F.push _) (excObj 60 hh.objs.size)
  rwa [Heap.size_push] at this
end
section
open PySem.Spec
variable {prog : Program} {w : World} {A : Around} {E : Value → Shared → Prop} {h : Heap} {g : Array GenState} {d : Drawn} {t : Nat} {os : OsState}
variable {nm q : Str} {C N : Addr} {bs bm bmB : List Value} {hdct : Bool} {sn : List Str} {sub : List Value} {ab : Bool} {col : Option Bool} {dd : Option Addr} {k0 k1 k2 k3 k5 : Option Value} {B newId initId : String}
theorem own_check_init {M : Model} (F : ExcBaseFacts B newId initId bmB) (hcB : bm.contains (.type B) = true) {e : Addr} {oe : Obj} {rest : List Value} {Q : Unit → Shared → Prop}
    (hC : h.get? C = some (excClassObj nm q C N bs bm hdct sn sub ab col dd k0 k1 k2 k3 k5 newId)) (he : h.get? e = some oe) (hcls : oe.cls = .ref C) (hq : Q () ⟨h, g, d, t, os⟩) :
    wpAny M A (checkBuiltinCall initId ⟨.ref e :: rest, []⟩) Q E ⟨h, g, d, t, os⟩ := by
  replace hcB : (Value.ref C :: bm).contains (.type B) = true := by rw [List.contains_cons, hcB, Bool.or_true]
  have hshort := F.noStar
  simp only [checkBuiltinCall, F.initKind, F.initSplit, F.initRow]
  repeat (first | (with_reducible refine wpAny_loadPart_at he ?_; rw [hcls]) | with_reducible refine wpAny_loadPart_at hC ?_ | (with_reducible refine wpAny_isSubtype_exc hC ?_; rw [hcB]) | wp_step)
  refine wpAny_onRaise ?_
  rw [show ∀ (a b : String) (n : Nat), Bind.check ⟨.positional, "*", B, .self, [⟨"args", .varPos, false⟩]⟩ a b n (List.map (fun x => x.fst) ({ pos := Value.ref e :: rest } : Args).kw) = pure () from
    fun a b n => check_star_args _ _ _ _ _ _]
  exact wpAny_pure hq
theorem own_init (F : ExcBaseFacts B newId initId bmB) (hcB : bm.contains (.type B) = true) {e T : Addr} {v : Value} {Q : Value → Shared → Prop}
    (hC : h.get? C = some (excClassObj nm q C N bs bm hdct sn sub ab col dd k0 k1 k2 k3 k5 newId)) (he : h.get? e = some (excObj C T))
    (hq : ∀ h', h'.get? e = some (excObj C h.objs.size) → h'.get? h.objs.size = some { cls := .type "tuple", data := .seq #[v] } → (∀ b o, b ≠ e → h.get? b = some o → h'.get? b = some o) → Q .none ⟨h', g, d, t, os⟩) :
    wpAny (model prog w) A (call (.builtin initId) [.ref e, v]) Q E ⟨h, g, d, t, os⟩ := by
  refine wpAny_call (codeAny_call_builtin F.init.plain F.initEntry (own_check_init F hcB hC he rfl ?_))
  wp_walk
  have hlt : e < h.objs.size := Heap.lt_size he
  refine hq _ ?_ ?_ fun b o hb hg => ?_
  · rw [Heap.get?_update_self _ (Heap.get?_push_of_some _ he) rfl]
    rfl
  · rw [Heap.get?_update_other _ _ (Nat.ne_of_lt hlt)]
    exact Heap.get?_push_at rfl rfl
  · rw [Heap.get?_update_other _ _ (Ne.symm hb)]
    exact Heap.get?_push_of_some _ hg
end
section
variable {w : World} {A : Around} {E : Value → Shared → Prop} {s : Shared} {h₀ : Heap} {L : Addr} {m : Str → Option Value} {rest : List (Addr × Obj)} {Q : Value → Shared → Prop}
theorem init_fault {e T : Addr} {v : Value} (F : Fr h₀ L s.heap m) (X : (Mine.hd.heap_39 w.params).In h₀) (N : News h₀ L s.heap ((e, excObj 60 T) :: rest)) (hne : ∀ p ∈ rest, p.1 ≠ e)
    (h : ∀ T2 h', Fr h₀ L h' m → News h₀ L h' ((e, excObj 60 T2) :: (T2, { cls := .type "tuple", data := .seq #[v] }) :: rest) → (∀ p ∈ rest, p.1 < T2) → e < T2 → Q .none { s with heap := h' }) :
    wpAny (model PySem.Challenge.rw_og0078_01.row.prog w) A (call (.builtin "Exception.__init__") [.ref e, v]) Q E s := by
  obtain ⟨hh, g, d, t, os⟩ := s
  have X' := X.keeps F.keep
  obtain ⟨he, heL, he0⟩ := N (e, excObj 60 T) (by simp)
  refine own_init (nm := "RunFault") (q := "RunFault") (N := 59) (bs := [.ref 47]) (bm := [.ref 47, .type "Exception", .type "BaseException", .type "object"]) PySem.F.excBase_Exception (by decide) (X' 60 _ rfl) he fun h' g1 g2 k => ?_
  refine h _ h' ⟨F.ns.at' fun o q => k _ o (Ne.symm heL) q, fun b o q => k b o (fun z => by rw [z, he0] at q; cases q) (F.keep b o q), F.above⟩ ?_ (fun p hp => Heap.lt_size (N p (List.mem_cons_of_mem _ hp)).1) (Heap.lt_size he)
  intro p hp
  rcases List.mem_cons.mp hp with rfl | hp
  · exact ⟨g1, heL, he0⟩
  · rcases List.mem_cons.mp hp with rfl | hp
    · exact ⟨g2, Nat.ne_of_gt F.ns.lt, none_at_size F⟩
    · have := N p (List.mem_cons_of_mem _ hp)
      exact ⟨k _ _ (hne p hp) this.1, this.2⟩
end
section
open PySem.Spec Builtin Builtin.ObjectAttr
variable {prog : Program} {w : World} {A : Around} {E : Value → Shared → Prop} {h : Heap} {g : Array GenState} {d : Drawn} {t : Nat} {os : OsState}
variable {nm q : Str} {C N x P : Addr} {bs bm : List Value} {sn : List Str} {sub : List Value} {ab : Bool} {col : Option Bool} {dd : Option Addr} {k0 k1 k2 k3 k5 : Option Value} {B newId sa owner : String}
  {mA : Str → Option Value} {name : Str} {v : Value}
theorem own_store_entry {tk : Tok} {Q : Fin → Shared → Prop} {ns : List Str} (SF : StoreFacts B bm sa owner)
    (hC : h.get? C = some (excClassObj nm q C N bs (.ref P :: bm) true sn sub ab col dd k0 k1 k2 k3 k5 newId)) (ht : Looks (model prog w) h (typeLookup (.ref C) name) none) (I : h.Inst x C mA)
    (hq : ∀ h' tk' dx, dx ≠ x → h'.Ns1 dx (fun y => if y = name then some v else mA y) →
      (∀ b o, b ≠ x → b ≠ dx → h.get? b = some o → h'.get? b = some o) →
      (∀ o₀, h.get? x = some o₀ → h'.get? x = some { o₀ with dict := some dx } ∧ (o₀.dict = some dx ∨ o₀.dict = none ∧ h.get? dx = none)) → Q (.done (.ret .none)) ⟨h', g, d, tk', os⟩) (hw : Within mA ns := by within_ways) (hsz : ns.length ≤ sizeLine := by size_fits) :
    wpAny (model prog w) A (Builtin.«object.__setattr__» ⟨[.ref x, .str name tk, v], []⟩) Q E ⟨h, g, d, t, os⟩ := by
  obtain ⟨o, hx, hc, hnc, hd⟩ := I
  have hpass := SF.passes (.ref x)
  unfold Builtin.«object.__setattr__»
  repeat (first | rw [refuse_eq] | (rw [refuseLoop_ref, refuseLoop_ref, hpass]) | (with_reducible refine wpAny_loadPart_at hx ?_; rw [hc]) | with_reducible refine wpAny_mroOf_exc hC ?_ | (with_reducible refine ht.here ?_) | wp_step)
  rcases hd with ⟨hdn, hmA⟩ | ⟨dx, hdx, hne, hns⟩
  ·
    rw [hdn, if_neg (by simp [typeHasDict])]
    split
    · rename_i hcd
      cases hcd
    split
    · rename_i c hcd
      exact absurd hcd (hnc c)
    · have hx₁ : (h.push { cls := .type "dict", data := .dict #[] }).get? x = some o := Heap.get?_push_of_some _ hx
      have hxs : x ≠ h.objs.size := Nat.ne_of_lt (Heap.lt_size hx)
      refine wpAny_bind (wpAny_alloc' ?_)
      refine wpAny_bind (wpAny_update' hx₁ ?_)
      refine wpAny_pure ?_
      have hgd : ((h.push { cls := .type "dict", data := .dict #[] }).update x fun o => { cls := o.cls, dict := some h.objs.size, data := o.data, slots := o.slots }).get? h.objs.size
          = some { cls := .type "dict", data := .dict #[] } :=
        (Heap.get?_update_ne _ _ _ _ hxs.symm).trans (Heap.get?_push_at rfl rfl)
      have hnd : ((h.push { cls := .type "dict", data := .dict #[] }).update x fun o => { cls := o.cls, dict := some h.objs.size, data := o.data, slots := o.slots }).Ns h.objs.size (fun _ => none) :=
        ⟨_, #[], _, hgd, rfl, fun e he => absurd he (by simp), fun _ => rfl⟩
      show wpAny _ _ (storeInDict h.objs.size (.str name tk) name v) _ _ _
      unfold storeInDict newKeyGuard
      refine wpAny_bind (wpAny_pure (wpAny_bind (wpAny_nsSet1 (Heap.Ns1.of_empty hnd) fun h' hn' hs => ?_)))
      obtain ⟨oD, esD, epD, hoD, hdD, hcD⟩ := hn'.count (Within.cons name v Within.nil)
      refine wpAny_bind (wpAny_lookBehind hoD (by rw [hdD]; exact pastItsLine_dict (Nat.le_trans hcD (by rw [List.length_cons, List.length_nil, sizeLine_eq]; omega))) ?_)
      wp_walk
      have hx' : h'.get? x = some { cls := o.cls, dict := some h.objs.size, data := o.data, slots := o.slots } := ?_
      refine hq h' _ h.objs.size hxs.symm ?_ (fun b ob hbx _ hb => ?_)
        (fun o₀ h₀ => by obtain rfl : o = o₀ := Option.some.inj (hx.symm.trans h₀); exact ⟨hx', .inr ⟨hdn, Heap.get?_none_of_le (Nat.le_refl _)⟩⟩)
      · obtain ⟨o', es, ep, e1, e2, e3, eu, e4⟩ := hn'
        exact ⟨o', es, ep, e1, e2, e3, eu, fun y => by rw [e4 y]; by_cases hy : y = name <;> simp [hy, hmA]⟩
      · exact (hs.2 b (Nat.ne_of_lt (Heap.lt_size hb))).trans ((Heap.get?_update_ne _ _ _ _ hbx).trans (Heap.get?_push_of_some _ hb))
      · refine (hs.2 x hxs).trans (Heap.get?_update_self _ hx₁ ?_)
        have hfr := (Heap.get?_some_iff.mp hx).2
        obtain ⟨oc, od, odt, osl⟩ := o
        cases odt <;> first | rfl | exact hfr
  ·
    rw [hdx]
    refine wpAny_pure ?_
    show wpAny _ _ (storeInDict dx (.str name tk) name v) _ _ _
    unfold storeInDict newKeyGuard
    refine wpAny_bind (wpAny_pure (wpAny_bind (wpAny_nsSet1 hns fun h' hn' hs => ?_)))
    obtain ⟨oD, esD, epD, hoD, hdD, hcD⟩ := hn'.count (Within.cons name v hw)
    refine wpAny_bind (wpAny_lookBehind hoD (by rw [hdD]; exact pastItsLine_dict (Nat.le_trans hcD (by rw [List.length_cons]; omega))) ?_)
    wp_walk
    refine hq h' _ dx hne hn' (fun b ob _ hbd hb => (hs.2 b hbd).trans hb)
      (fun o₀ h₀ => by
        obtain rfl : o = o₀ := Option.some.inj (hx.symm.trans h₀)
        refine ⟨((hs.2 x hne.symm).trans h₀).trans ?_, .inl hdx⟩
        obtain ⟨oc, odi, oda, osl⟩ := o
        dsimp only at hdx
        subst hdx
        rfl)
theorem own_check_sa {M : Model} {o : Obj} {nameV : Value} {Q : Unit → Shared → Prop} (SF : StoreFacts B bm sa owner)
    (hC : h.get? C = some (excClassObj nm q C N bs (.ref P :: bm) true sn sub ab col dd k0 k1 k2 k3 k5 newId)) (hx : h.get? x = some o) (hc : o.cls = .ref C) (hq : Q () ⟨h, g, d, t, os⟩) :
    wpAny M A (checkBuiltinCall sa ⟨[.ref x, nameV, v], []⟩) Q E ⟨h, g, d, t, os⟩ := by
  have hcB : (Value.ref C :: .ref P :: bm).contains (.type owner) = true := by rw [List.contains_cons, List.contains_cons, SF.hasOwner, Bool.or_true, Bool.or_true]
  have ha := SF.args (.ref x) nameV v
  simp only [checkBuiltinCall, SF.kind, SF.split]
  refine wpAny_bind ?_
  · unfold isInstance
    repeat (first | (with_reducible refine wpAny_loadPart_at hx ?_; rw [hc]) | (with_reducible refine wpAny_isSubtype_exc hC ?_; rw [hcB]) | wp_step)
    cases hsig : Manifest.signature? sa with
    | none => exact wpAny_pure hq
    | some sig =>
      simp only [argsOk, hsig] at ha
      have h2 : Bind.checkArgs sa sig ⟨[.ref x, nameV, v], []⟩ = pure () := ha
      show wpAny M A (Bind.checkArgs sa sig ⟨[.ref x, nameV, v], []⟩) Q E _
      rw [h2]; exact wpAny_pure hq
theorem own_store {Q : Unit → Shared → Prop} {ns : List Str} (SF : StoreFacts B bm sa owner)
    (hC : h.get? C = some (excClassObj nm q C N bs (.ref P :: bm) true sn sub ab col dd k0 k1 k2 k3 k5 newId)) (hsa : Looks (model prog w) h (typeLookup (.ref C) "__setattr__") (some (.builtin sa))) (ht : Looks (model prog w) h (typeLookup (.ref C) name) none) (I : h.Inst x C mA)
    (hq : ∀ h' tk' dx, dx ≠ x → h'.Ns1 dx (fun y => if y = name then some v else mA y) →
      (∀ b o, b ≠ x → b ≠ dx → h.get? b = some o → h'.get? b = some o) →
      (∀ o₀, h.get? x = some o₀ → h'.get? x = some { o₀ with dict := some dx } ∧ (o₀.dict = some dx ∨ o₀.dict = none ∧ h.get? dx = none)) → Q () ⟨h', g, d, tk', os⟩) (hw : Within mA ns := by within_ways) (hsz : ns.length ≤ sizeLine := by size_fits) :
    wpAny (model prog w) A (setAttr (.ref x) name v) Q E ⟨h, g, d, t, os⟩ := by
  obtain ⟨o, hx, hc, _⟩ := id I
  have f3 := SF.slot.bind (.ref x)
  unfold setAttr callSpecial? specialOf
  repeat (any_goals (first | assumption | (with_reducible refine wpAny_loadPart_at hx ?_; rw [hc]) | (with_reducible refine hsa.here ?_) | wp_step))
  refine codeAny_call_builtin SF.slot.plain SF.entry (own_check_sa SF hC hx hc (own_store_entry SF hC ht I (fun h' tk' dx h1 h2 h3 h4 => ?_) hw hsz))
  repeat (any_goals (first | assumption | wp_step))
  exact hq h' tk' dx h1 h2 h3 h4
end
section
variable {w : World} {A : Around} {E : Value → Shared → Prop} {s : Shared} {h₀ : Heap} {L : Addr} {m : Str → Option Value} {rest : List (Addr × Obj)} {Q : Unit → Shared → Prop}
/-- an exception's object that has a dict -/
noncomputable abbrev excObjD (C T d : Addr) : Obj := { cls := .ref C, dict := some d, data := .fields #[.ref T, .none, .none, .none, .bool false, .none] }
theorem store_fault1 {e T : Addr} {v : Value} (F : Fr h₀ L s.heap m) (X : (Mine.hd.heap_39 w.params).In h₀) (N : News h₀ L s.heap ((e, excObj 60 T) :: rest)) (hne : ∀ p ∈ rest, p.1 ≠ e)
    (h : ∀ dx od h' tk', Fr h₀ L h' m → News h₀ L h' ((e, excObjD 60 T dx) :: (dx, od) :: rest) → (∀ p ∈ rest, p.1 ≠ dx) → dx ≠ e → (∀ h : Heap, h.get? dx = some od → h.Ns1 dx fun y => if y = (Str.ofString "what") then some v else none) → Q () { s with heap := h', toks := tk' }) :
    wpAny (model PySem.Challenge.rw_og0078_01.row.prog w) A (setAttr (.ref e) (Str.ofString "what") v) Q E s := by
  revert F X N
  k_fill
  intro F X N
  obtain ⟨hh, g, d, t, os⟩ := s
  have X' := X.keeps F.keep
  obtain ⟨he, heL, he0⟩ := N (e, excObj 60 T) (by simp)
  refine own_store (mA := fun _ => none) (ns := []) (nm := "RunFault") (q := "RunFault") (N := 59) (bs := [.ref 47]) PySem.F.store_Exception (X' 60 _ rfl) (looks_findIn X' (by k_is)) (looks_findIn X' (by k_is))
    ⟨_, he, rfl, fun c hc => (by cases hc), .inl ⟨rfl, fun _ => rfl⟩⟩ (fun h' tk' dx h1 h2 h3 h4 => ?_) Within.nil (by size_fits)
  obtain ⟨h5, h6⟩ := h4 _ he
  rcases h6 with h6 | ⟨_, h6⟩
  · cases h6
  have dnew : ∀ b o, hh.get? b = some o → b ≠ dx := fun b o q z => by rw [z, h6] at q; cases q
  obtain ⟨od, es, ep, e1, e2⟩ := id h2
  have F' : Fr h₀ L h' m := ⟨F.ns.at' fun o q => h3 _ o (Ne.symm heL) (dnew _ _ q) q, fun b o q => h3 b o (fun z => by rw [z, he0] at q; cases q) (dnew _ _ (F.keep b o q)) (F.keep b o q), F.above⟩
  refine h dx od h' tk' F' ?_ (fun p hp => dnew _ _ (N p (List.mem_cons_of_mem _ hp)).1) h1 (fun h₂ q => ⟨od, es, ep, q, e2⟩)
  intro p hp
  rcases List.mem_cons.mp hp with rfl | hp
  · exact ⟨h5, heL, he0⟩
  · rcases List.mem_cons.mp hp with rfl | hp
    · refine ⟨e1, ?_, ?_⟩
      · intro z
        obtain ⟨o, _, _, q, _⟩ := F.ns
        exact dnew _ _ q z.symm
      · cases q : h₀.get? dx with
        | none => rfl
        | some o => exact absurd rfl (dnew _ _ (F.keep _ _ q))
    · have := N p (List.mem_cons_of_mem _ hp)
      exact ⟨h3 _ _ (hne p hp) (dnew _ _ this.1) this.1, this.2⟩
theorem store_fault2 {e T dx : Addr} {od : Obj} {v v₁ : Value} (F : Fr h₀ L s.heap m) (X : (Mine.hd.heap_39 w.params).In h₀) (N : News h₀ L s.heap ((e, excObjD 60 T dx) :: (dx, od) :: rest)) (hne : ∀ p ∈ rest, p.1 ≠ e) (hnd : ∀ p ∈ rest, p.1 ≠ dx) (hde : dx ≠ e)
    (hns : ∀ h : Heap, h.get? dx = some od → h.Ns1 dx fun y => if y = (Str.ofString "what") then some v₁ else none)
    (h : ∀ od h' tk', Fr h₀ L h' m → News h₀ L h' ((e, excObjD 60 T dx) :: (dx, od) :: rest) → Q () { s with heap := h', toks := tk' }) :
    wpAny (model PySem.Challenge.rw_og0078_01.row.prog w) A (setAttr (.ref e) (Str.ofString "at") v) Q E s := by
  revert F X N
  k_fill
  intro F X N
  obtain ⟨hh, g, d, t, os⟩ := s
  have X' := X.keeps F.keep
  obtain ⟨he, heL, he0⟩ := N (e, excObjD 60 T dx) (by simp)
  obtain ⟨hd, hdL, hd0⟩ := N (dx, od) (by simp)
  refine own_store (mA := fun y => if y = (Str.ofString "what") then some v₁ else none) (ns := [Str.ofString "what"]) (nm := "RunFault") (q := "RunFault") (N := 59) (bs := [.ref 47]) PySem.F.store_Exception (X' 60 _ rfl) (looks_findIn X' (by k_is)) (looks_findIn X' (by k_is))
    ⟨_, he, rfl, fun c hc => (by cases hc), .inr ⟨dx, rfl, hde, hns _ hd⟩⟩ (fun h' tk' dx' h1 h2 h3 h4 => ?_) (Within.cons _ _ Within.nil) (by size_fits)
  obtain ⟨h5, h6⟩ := h4 _ he
  rcases h6 with h6 | ⟨h6, _⟩
  · obtain rfl : dx = dx' := Option.some.inj h6
    obtain ⟨od', es, ep, e1, e2⟩ := id h2
    have F' : Fr h₀ L h' m := ⟨F.ns.at' fun o q => h3 _ o (Ne.symm heL) (Ne.symm hdL) q, fun b o q => h3 b o (fun z => by rw [z, he0] at q; cases q) (fun z => by rw [z, hd0] at q; cases q) (F.keep b o q), F.above⟩
    refine h od' h' tk' F' ?_
    intro p hp
    rcases List.mem_cons.mp hp with rfl | hp
    · exact ⟨h5, heL, he0⟩
    · rcases List.mem_cons.mp hp with rfl | hp
      · exact ⟨e1, hdL, hd0⟩
      · have := N p (List.mem_cons_of_mem _ (List.mem_cons_of_mem _ hp))
        exact ⟨h3 _ _ (hne p hp) (hnd p hp) this.1, this.2⟩
  · cases h6
end



section
theorem fault_ct (w : World) (x : Str) (t1 : Tok) (news : List (Addr × Obj)) :
    Ct w 60 [.str x t1] 6 64 news (fun r news' => ∃ e T dx od, r = .ref e ∧ news' = (e, excObjD 60 T dx) :: (dx, od) :: (T, { cls := .type "tuple", data := .seq #[.str x t1] }) :: news ∧ (∀ p ∈ news, p.1 < e ∧ p.1 < T)) := by
  unfold Ct
  k_fill
  intro loose mean mg mb dp un gd cn cs a ccd cl outer A₀ base h₀ L m s Q E B F X N T hk hd hu hret
  refine make_fault F X N (by size_fits) ?_
  intro e T₁ h' F' N' hlt hlt2
  clear F N
  refine wpAny_call ?_
  k_dflt (refine' code_def (binds := [(Str.ofString "self", .ref e), (Str.ofString "what", .str x t1), (Str.ofString "at", .ref 29)]) ?k1 ?k2 ?k3 ?k4 ?k5 ?kA ?kF ?kK ?k6 ?k7 ?k8 ?k9 ?kB ?_ ?c2 ?c3 ?c4 ?c5; (case kA => exact rfl); (case kF => exact rfl); (case kK => assumption); (case k1 => k_asm); (case k2 => k_asm); (case k3 => k_asm); (case k4 => k_asm); (case k5 => k_asm); (case k6 => k_is); (case k7 => k_is); (case k8 => ktr_room); (case k9 => exact binds_K (by k_in) rfl (by k_is) rfl rfl rfl); (case kB => exact locs rfl); (case c2 => exact rfl); (case c3 => exact rfl); (case c4 => exact rfl); (case c5 => decide); k_whole)
  intro g' L' h' FG' F' N' B' X' T'
  dsimp only
  (try k_fold)
  (repeat' (first | (k_unfold; (try dsimp only)) | (k_end; kc_close) | (with_reducible first | (k_here; (show wpAny _ _ (getMethod (Value.type "Exception") _ _) _ _ _); k_dflt (refine' method_type (K := Mine.hd.heap_39 _) (v := .builtin "Exception.__init__") ?kF ?kX ?k1 ?k2 ?k3 ?k4 ?_; (case kF => k_asm); (case kX => k_asm); (case k1 => exact rfl); (case k2 => decide +kernel); (case k3 => exact rfl); (case k4 => decide +kernel); k_whole)) | ((show wpAny _ _ (call (Value.builtin "Exception.__init__") _) _ _ _); refine Stop.of ?_) | ((show wpAny _ _ (setAttr (Value.ref _) _ _) _ _ _); refine Stop.of ?_) | ((show wpAny _ _ (eval (Expr.Constant (Const.int _) _ _) _) _ _ _); refine flat_int ?_) | ((show wpAny _ _ (binaryOp Operator.Add (Value.int _ _) (Value.int _ _)) _ _ _); refine flat_add ?_) | ((show wpAny _ _ (binaryOp Operator.Sub (Value.int _ _) (Value.int _ _)) _ _ _); refine flat_sub ?_) | ((show wpAny _ _ (eval (Expr.BinOp _ _ _ _) _) _ _ _); k_fold; k_dflt walk1) | ((show wpAny _ _ (eval (Expr.Compare _ _ _ _) _) _ _ _); k_fold; k_dflt walk1)) | walk1 | (dsimp only; first | (with_reducible first | (k_here; (show wpAny _ _ (getMethod (Value.type "Exception") _ _) _ _ _); k_dflt (refine' method_type (K := Mine.hd.heap_39 _) (v := .builtin "Exception.__init__") ?kF ?kX ?k1 ?k2 ?k3 ?k4 ?_; (case kF => k_asm); (case kX => k_asm); (case k1 => exact rfl); (case k2 => decide +kernel); (case k3 => exact rfl); (case k4 => decide +kernel); k_whole)) | ((show wpAny _ _ (call (Value.builtin "Exception.__init__") _) _ _ _); refine Stop.of ?_) | ((show wpAny _ _ (setAttr (Value.ref _) _ _) _ _ _); refine Stop.of ?_)) | walk1) | (leave1; walk_say "STEP leave1"; try dsimp only) | fail "no step"))
  refine Stop.go (init_fault F' X' N' (fun p hp => ?_) ?_)
  · rcases List.mem_cons.mp hp with rfl | hp
    · exact Nat.ne_of_lt hlt2
    · exact Nat.ne_of_lt (Nat.lt_trans (hlt p hp) hlt2)
  intro T2 h2 F2 N2 hlt3 hlt4
  replace N2 := fun p hp => N2 p (show p ∈ (e, excObj 60 T2) :: (T2, { cls := .type "tuple", data := .seq #[.str x t1] }) :: (T₁, { cls := .type "tuple", data := .seq #[.str x t1] }) :: news from hp)
  have N3 : News g' L' h2 ((e, excObj 60 T2) :: (T2, { cls := .type "tuple", data := .seq #[.str x t1] }) :: news) := fun p hp => N2 p (by
    simp only [List.mem_cons] at hp ⊢; rcases hp with h | h | h <;> simp [h])
  clear N2 F' N'
  have hneE : ∀ p ∈ (T2, ({ cls := .type "tuple", data := .seq #[.str x t1] } : Obj)) :: news, p.1 ≠ e := by
    intro p hp
    rcases List.mem_cons.mp hp with rfl | hp
    · exact Nat.ne_of_gt hlt4
    · exact Nat.ne_of_lt (Nat.lt_trans (hlt p hp) hlt2)
  (repeat' (first | (k_unfold; (try dsimp only)) | (k_end; kc_close) | (with_reducible first | (k_here; (show wpAny _ _ (getMethod (Value.type "Exception") _ _) _ _ _); k_dflt (refine' method_type (K := Mine.hd.heap_39 _) (v := .builtin "Exception.__init__") ?kF ?kX ?k1 ?k2 ?k3 ?k4 ?_; (case kF => k_asm); (case kX => k_asm); (case k1 => exact rfl); (case k2 => decide +kernel); (case k3 => exact rfl); (case k4 => decide +kernel); k_whole)) | ((show wpAny _ _ (call (Value.builtin "Exception.__init__") _) _ _ _); refine Stop.of ?_) | ((show wpAny _ _ (setAttr (Value.ref _) _ _) _ _ _); refine Stop.of ?_) | ((show wpAny _ _ (eval (Expr.Constant (Const.int _) _ _) _) _ _ _); refine flat_int ?_) | ((show wpAny _ _ (binaryOp Operator.Add (Value.int _ _) (Value.int _ _)) _ _ _); refine flat_add ?_) | ((show wpAny _ _ (binaryOp Operator.Sub (Value.int _ _) (Value.int _ _)) _ _ _); refine flat_sub ?_) | ((show wpAny _ _ (eval (Expr.BinOp _ _ _ _) _) _ _ _); k_fold; k_dflt walk1) | ((show wpAny _ _ (eval (Expr.Compare _ _ _ _) _) _ _ _); k_fold; k_dflt walk1)) | walk1 | (dsimp only; first | (with_reducible first | (k_here; (show wpAny _ _ (getMethod (Value.type "Exception") _ _) _ _ _); k_dflt (refine' method_type (K := Mine.hd.heap_39 _) (v := .builtin "Exception.__init__") ?kF ?kX ?k1 ?k2 ?k3 ?k4 ?_; (case kF => k_asm); (case kX => k_asm); (case k1 => exact rfl); (case k2 => decide +kernel); (case k3 => exact rfl); (case k4 => decide +kernel); k_whole)) | ((show wpAny _ _ (call (Value.builtin "Exception.__init__") _) _ _ _); refine Stop.of ?_) | ((show wpAny _ _ (setAttr (Value.ref _) _ _) _ _ _); refine Stop.of ?_)) | walk1) | (leave1; walk_say "STEP leave1"; try dsimp only) | fail "no step"))
  refine Stop.go (store_fault1 (by k_asm) (by k_asm) N3 hneE ?_)
  intro dx od h3 tk3 F3 N4 hnd hde hns
  clear N3
  (repeat' (first | (k_unfold; (try dsimp only)) | (k_end; kc_close) | (with_reducible first | (k_here; (show wpAny _ _ (getMethod (Value.type "Exception") _ _) _ _ _); k_dflt (refine' method_type (K := Mine.hd.heap_39 _) (v := .builtin "Exception.__init__") ?kF ?kX ?k1 ?k2 ?k3 ?k4 ?_; (case kF => k_asm); (case kX => k_asm); (case k1 => exact rfl); (case k2 => decide +kernel); (case k3 => exact rfl); (case k4 => decide +kernel); k_whole)) | ((show wpAny _ _ (call (Value.builtin "Exception.__init__") _) _ _ _); refine Stop.of ?_) | ((show wpAny _ _ (setAttr (Value.ref _) _ _) _ _ _); refine Stop.of ?_) | ((show wpAny _ _ (eval (Expr.Constant (Const.int _) _ _) _) _ _ _); refine flat_int ?_) | ((show wpAny _ _ (binaryOp Operator.Add (Value.int _ _) (Value.int _ _)) _ _ _); refine flat_add ?_) | ((show wpAny _ _ (binaryOp Operator.Sub (Value.int _ _) (Value.int _ _)) _ _ _); refine flat_sub ?_) | ((show wpAny _ _ (eval (Expr.BinOp _ _ _ _) _) _ _ _); k_fold; k_dflt walk1) | ((show wpAny _ _ (eval (Expr.Compare _ _ _ _) _) _ _ _); k_fold; k_dflt walk1)) | walk1 | (dsimp only; first | (with_reducible first | (k_here; (show wpAny _ _ (getMethod (Value.type "Exception") _ _) _ _ _); k_dflt (refine' method_type (K := Mine.hd.heap_39 _) (v := .builtin "Exception.__init__") ?kF ?kX ?k1 ?k2 ?k3 ?k4 ?_; (case kF => k_asm); (case kX => k_asm); (case k1 => exact rfl); (case k2 => decide +kernel); (case k3 => exact rfl); (case k4 => decide +kernel); k_whole)) | ((show wpAny _ _ (call (Value.builtin "Exception.__init__") _) _ _ _); refine Stop.of ?_) | ((show wpAny _ _ (setAttr (Value.ref _) _ _) _ _ _); refine Stop.of ?_)) | walk1) | (leave1; walk_say "STEP leave1"; try dsimp only) | fail "no step"))
  refine Stop.go (store_fault2 (by k_asm) (by k_asm) N4 hneE hnd hde hns ?_)
  intro od h4 tk4 F4 N5
  have hall : ∀ p ∈ news, p.1 < e ∧ p.1 < T2 := fun p hp => ⟨Nat.lt_trans (hlt p hp) hlt2, hlt3 p (List.mem_cons_of_mem _ hp)⟩
  clear N4 hns hneE hnd
  (repeat' (first | (k_unfold; (try dsimp only)) | (k_end; kc_close) | (with_reducible first | (k_here; (show wpAny _ _ (getMethod (Value.type "Exception") _ _) _ _ _); k_dflt (refine' method_type (K := Mine.hd.heap_39 _) (v := .builtin "Exception.__init__") ?kF ?kX ?k1 ?k2 ?k3 ?k4 ?_; (case kF => k_asm); (case kX => k_asm); (case k1 => exact rfl); (case k2 => decide +kernel); (case k3 => exact rfl); (case k4 => decide +kernel); k_whole)) | ((show wpAny _ _ (call (Value.builtin "Exception.__init__") _) _ _ _); refine Stop.of ?_) | ((show wpAny _ _ (setAttr (Value.ref _) _ _) _ _ _); refine Stop.of ?_) | ((show wpAny _ _ (eval (Expr.Constant (Const.int _) _ _) _) _ _ _); refine flat_int ?_) | ((show wpAny _ _ (binaryOp Operator.Add (Value.int _ _) (Value.int _ _)) _ _ _); refine flat_add ?_) | ((show wpAny _ _ (binaryOp Operator.Sub (Value.int _ _) (Value.int _ _)) _ _ _); refine flat_sub ?_) | ((show wpAny _ _ (eval (Expr.BinOp _ _ _ _) _) _ _ _); k_fold; k_dflt walk1) | ((show wpAny _ _ (eval (Expr.Compare _ _ _ _) _) _ _ _); k_fold; k_dflt walk1)) | walk1 | (dsimp only; first | (with_reducible first | (k_here; (show wpAny _ _ (getMethod (Value.type "Exception") _ _) _ _ _); k_dflt (refine' method_type (K := Mine.hd.heap_39 _) (v := .builtin "Exception.__init__") ?kF ?kX ?k1 ?k2 ?k3 ?k4 ?_; (case kF => k_asm); (case kX => k_asm); (case k1 => exact rfl); (case k2 => decide +kernel); (case k3 => exact rfl); (case k4 => decide +kernel); k_whole)) | ((show wpAny _ _ (call (Value.builtin "Exception.__init__") _) _ _ _); refine Stop.of ?_) | ((show wpAny _ _ (setAttr (Value.ref _) _ _) _ _ _); refine Stop.of ?_)) | walk1) | (leave1; walk_say "STEP leave1"; try dsimp only) | fail "no step"))
  exact hret _ _ _ _ (by k_asm) (by k_asm) ⟨_, _, _, _, rfl, rfl, hall⟩
end
section
open PySem.Spec
variable {M : Model} {A : Around} {E : Value → Shared → Prop} {s s' : Shared} {base g h : Heap} {outer : List Env} {L a e t d C : Addr} {od : Obj} {m : Str → Option Value} {name : Str} {scope : Scope} {cd : Value} {news : List (Addr × Obj)} {vs : List Value}
theorem leave_fault {Q : Unit → Shared → Prop} (K : Below A base outer g) (F : Fr g L s'.heap m) (N : News g L s'.heap ((e, excObjD C t d) :: (d, od) :: (t, { cls := .type "tuple", data := .seq vs.toArray }) :: news)) (hsep : ∀ p ∈ news, p.1 < e ∧ p.1 < t)
    (hQ : ∀ h', RaisedS base g outer e (.ref C) t vs news h' → g.UpToSlots h' → Q () { s' with heap := h' }) (hk : scope.kind = .function := by rfl) :
    wpAny M (A.deeper (envOf name scope L a cd)) (leaving (envOf name scope L a cd) (.ref e)) Q E s' := by
  have K' := K.push (name := name) (a := a) (cd := cd) F hk
  obtain ⟨he, heL, he0⟩ := N (e, excObjD C t d) (by simp)
  obtain ⟨ht, htL, ht0⟩ := N (t, { cls := .type "tuple", data := .seq vs.toArray }) (by simp)
  have hin : ∀ env ∈ (envOf name scope L a cd :: outer), ∀ b, env.frame = some b → b ∈ e :: t :: (envOf name scope L a cd :: outer).filterMap (·.frame) := fun env he b hb => List.mem_cons_of_mem _ (List.mem_cons_of_mem _ (List.mem_filterMap.mpr ⟨env, he, hb⟩))
  have notin : ∀ b, b ≠ e → b ≠ t → b ∉ (envOf name scope L a cd :: outer).filterMap (·.frame) → b ∉ e :: t :: (envOf name scope L a cd :: outer).filterMap (·.frame) := fun b h1 h2 h3 hm => by
    rcases List.mem_cons.mp hm with z | hm
    · exact h1 z
    · rcases List.mem_cons.mp hm with z | hm
      · exact h2 z
      · exact h3 hm
  have st : base.StaysIn (hideAll s'.heap (e :: t :: (envOf name scope L a cd :: outer).filterMap (·.frame))) := fun b o q => hideAll_get _ (K'.stays b o q) (notin b (fun z => by rw [z, fresh_of_stays K.stays he0] at q; cases q) (fun z => by rw [z, fresh_of_stays K.stays ht0] at q; cases q) fun hm => by
    rw [(K'.frames.mem hm).1] at q; cases q)
  have sg : ∀ b o, g.get? b = some o → b ∉ outer.filterMap (·.frame) → (hideAll s'.heap (e :: t :: (envOf name scope L a cd :: outer).filterMap (·.frame))).get? b = some o := fun b o q nm => hideAll_get _ (F.keep b o q) (notin b (fun z => by rw [z, he0] at q; cases q) (fun z => by rw [z, ht0] at q; cases q) fun hm => by
    rcases kts_mem hm with z | z
    · rw [z, kts_self F] at q
      cases q
    · exact nm z)
  have hl : ∀ q ∈ news, (hideAll s'.heap (e :: t :: (envOf name scope L a cd :: outer).filterMap (·.frame))).get? q.1 = some q.2 ∧ g.get? q.1 = none ∧ base.get? q.1 = none := fun q hq => by
    have Nq := N q (List.mem_cons_of_mem _ (List.mem_cons_of_mem _ (List.mem_cons_of_mem _ hq)))
    refine ⟨hideAll_get _ Nq.1 (notin _ (Nat.ne_of_lt (hsep q hq).1) (Nat.ne_of_lt (hsep q hq).2) fun hm => ?_), Nq.2.2, fresh_of_stays K.stays Nq.2.2⟩
    obtain ⟨env, he, hf⟩ := List.mem_filterMap.mp hm
    rcases List.mem_cons.mp he with rfl | he
    · exact Nq.2.1 (Option.some.inj hf).symm
    · obtain ⟨o, ho, _⟩ := (K.frames.mem (List.mem_filterMap.mpr ⟨env, he, hf⟩)).2
      rw [Nq.2.2] at ho; cases ho
  have hen : (hideAll s'.heap (e :: t :: (envOf name scope L a cd :: outer).filterMap (·.frame))).get? e = none := hideAll_none _ (List.mem_cons_self ..)
  have htn : (hideAll s'.heap (e :: t :: (envOf name scope L a cd :: outer).filterMap (·.frame))).get? t = none := hideAll_none _ (List.mem_cons_of_mem _ (List.mem_cons_self ..))
  refine wpAny_leaving_firstW (a0 := .ref t) K'.stack (funFrames_hide K'.frames hin) rfl he (fun b o hb => of_hideAll _ hb) hen rfl rfl rfl fun h' hL => ?_
  obtain ⟨k1, ⟨_, _, k2⟩, k3, k4⟩ := hL
  exact hQ h' ⟨⟨_, st, sg, hl, ⟨k1, hen, k2, k3⟩, htn⟩, Heap.TupAt.of_slots ⟨_, _, ht, rfl, rfl⟩ k4⟩ ((Heap.UpToSlots.of_keeps F.keep).trans k4)
end
section
open PySem.Spec
variable {prog : Program} {w : World} {A : Around} {E : Value → Shared → Prop} {s : Shared} {env : Env}
/-- a value that raise takes: an exception of the class 60 -/
def FaultUp (E : Value → Shared → Prop) (v : Value) (s₁ : Shared) : Prop :=
  ∃ e T d sub k0 k1 k2 k3 k5, v = .ref e ∧ s₁.heap.get? 60 = some (excClassObj "RunFault" "RunFault" 60 59 [.ref 47] [.ref 47, .type "Exception", .type "BaseException", .type "object"] true [] sub false none none k0 k1 k2 k3 k5 "Exception.__new__") ∧ s₁.heap.get? e = some (excObjD 60 T d) ∧ E (.ref e) s₁
theorem raise_fault {ex : Expr} {pos : Pos} {Q : Flow → Shared → Prop} (hh : A.handled = none) (h : wpAny (model prog w) A (eval ex env) (FaultUp E) E s) :
    wpAny (model prog w) A (exec (.Raise (some ex) none pos) env) Q E s := by
  show wpAny _ A (do standAt pos; raiseStmt env (some (do let v ← eval ex env; standAt pos; pure v)) none) Q E s
  refine wpAny_bind (wpAny_standAt ?_)
  unfold raiseStmt
  refine wpAny_bind (wpAny_bind (wpAny_mono h (fun v s₁ h₁ => wpAny_bind (wpAny_standAt (wpAny_pure ?_))) fun _ _ x => x))
  obtain ⟨e, T, dx, sub, k0, k1, k2, k3, k5, rfl, hC, he, hE⟩ := h₁
  have hcB : (Value.ref 60 :: [.ref 47, .type "Exception", .type "BaseException", .type "object"]).contains (.type "BaseException") = true := by decide
  obtain ⟨hp, g, d, tk, os⟩ := s₁
  repeat (first | with_reducible refine wpAny_loadPart_at he ?_ | with_reducible refine wpAny_loadPart_at hC ?_ | (with_reducible refine wpAny_isSubtype_exc hC ?_; rw [hcB]) | wp_step)
  exact wpAny_raiseNew_none hh hE
end
/-- the contract of a call that raises a RunFault -/
def CtE (w : World) (f : Addr) (vs : List Value) (d u : Nat) (news : List (Addr × Obj)) : Prop :=
  ∀ (loose : List Str) (mean : ExcName → Option Value) (mg mb : Str → Option Value) (dp un : Nat) (gd : Option (List Code)) (cn : Str) (cs : Scope) (a : Addr) (ccd : Value) (cl : List (Str × Addr)) (outer : List Env) (A₀ : Around) (base h₀ : Heap) (L : Addr) (m : Str → Option Value) (s : Shared) (Q E : Value → Shared → Prop),
    Below A₀ base outer h₀ → Fr h₀ L s.heap m → (Mine.hd.heap_39 w.params).In h₀ → News h₀ L s.heap news → Top Mine.hd.view_39 loose mean mg mb h₀ → cs.kind = .function → dp + d < recursionLimit → un + u < cLine →
    (∀ G e t xs h' tk', Fr h₀ L G m → RaisedS base G (envX cn cs L a ccd cl :: outer) e (.ref 60) t xs news h' → G.UpToSlots h' → E (.ref e) { s with heap := h', toks := tk' }) →
    wpAny (model PySem.Challenge.rw_og0078_01.row.prog w) (ktrTop dp un gd cn cs L a ccd cl outer) (call (.ref f) vs) Q E s



theorem converted_raise (w : World) (o x g : Array UInt8) (v1 v2 : Value) (ko kw kg : List Int) (cb ca : Option Int) (t1 t2 t3 : Tok) (news : List (Addr × Obj)) (ho : KBw.bInts o = ko) (hx : KBw.bInts x = kw) (hg : KBw.bInts g = kg)
    (hzw : kw.length ≤ 1000) (hzg : kg.length ≤ 1000) (hlen : kw.length ≠ kg.length) :
    CtE w 170 [.bytes o t1, .bytes x t2, .bytes g t3, v1, v2] 12 120 news := by
  unfold CtE
  k_fill
  intro loose mean mg mb dp un gd cn cs a ccd cl outer A₀ base h₀ L m s Q E B F X N T hk hd hu hret
  refine wpAny_call ?_
  k_dflt (refine' code_def (binds := [(Str.ofString "octets", .bytes o t1), (Str.ofString "wanted", .bytes x t2), (Str.ofString "given", .bytes g t3), (Str.ofString "before", v1), (Str.ofString "after", v2)]) ?k1 ?k2 ?k3 ?k4 ?k5 ?kA ?kF ?kK ?k6 ?k7 ?k8 ?k9 ?kB ?_ ?c2 ?c3 ?c4 ?c5; (case kA => exact rfl); (case kF => exact rfl); (case kK => assumption); (case k1 => k_asm); (case k2 => k_asm); (case k3 => k_asm); (case k4 => k_asm); (case k5 => k_asm); (case k6 => k_is); (case k7 => k_is); (case k8 => ktr_room); (case k9 => exact BindsTo.of_eq rfl); (case c5 => decide); (case kB => exact locs rfl); (case c2 => exact rfl); (case c3 => exact rfl); (case c4 => exact rfl); k_whole)
  intro g' L' h' FG' F' N' B' X' T'
  dsimp only
  (try k_fold)
  (repeat' (first | (k_unfold; (try dsimp only)) | (k_end; kc_close) | (with_reducible first | (k_here; (show wpAny _ _ (call (Value.ref 60) _) _ _ _); (try k_fold); (k_dflt (refine' Ct.use (fault_ct _ _ _ _) ?k1 ?k2 ?k3 ?k4 ?k5 ?kK ?kd ?ku ?_; (case k1 => k_asm); (case k2 => k_asm); (case k3 => k_asm); (case k4 => k_asm); (case k5 => k_asm); (case kK => first | exact rfl | assumption); (case kd => ktr_room); (case ku => ktr_units))); (intro _ _ _ _ _ _ hp9; obtain ⟨_, _, _, _, hr9, hn9, _⟩ := hp9; subst hr9; subst hn9); (try dsimp only); (try k_fold)) | ((show wpAny _ _ (exec (Stmt.Raise (some _) none _) _) _ _ _); (with_reducible refine raise_fault rfl ?_)) | ((show wpAny _ _ (leaving _ (Value.ref _)) _ _ _); k_dflt (refine' leave_fault ?k1 ?k2 ?k3 ?k4 ?_ ?k5; (case k1 => assumption); (case k2 => k_asm); (case k3 => k_asm); (case k4 => assumption); (case k5 => rfl); k_whole); intro _ _ _) | ((show FaultUp _ _ _); k_dflt (refine ⟨_, _, _, _, _, _, _, _, _, rfl, (Frag.In.keeps (K := Mine.hd.heap_39 _) (by k_asm) (Fr.keep (by k_asm))) 60 _ rfl, News.get (by k_asm) (List.mem_cons_self ..), ?_⟩)) | ((show wpAny _ _ (exec (Stmt.For (Expr.Tuple _ _ _) (Expr.List _ _) _ [] _) _) _ _ _); refine Stop.of ?_) | ((show wpAny _ _ (noteFrame (Value.ref _) _) _ _ _); refine Stop.of ?_) | ((show wpAny _ _ (call (Value.ref 170) _) _ _ _); refine Stop.of ?_) | ((show wpAny _ _ (eval (Expr.Constant (Const.int _) _ _) _) _ _ _); refine flat_int ?_) | ((show wpAny _ _ (binaryOp Operator.Add (Value.int _ _) (Value.int _ _)) _ _ _); refine flat_add ?_) | ((show wpAny _ _ (binaryOp Operator.Sub (Value.int _ _) (Value.int _ _)) _ _ _); refine flat_sub ?_) | ((show wpAny _ _ (eval (Expr.BinOp _ _ _ _) _) _ _ _); k_fold; k_dflt walk1) | ((show wpAny _ _ (eval (Expr.Compare _ _ _ _) _) _ _ _); k_fold; k_dflt walk1)) | walk1 | (dsimp only; first | (with_reducible first | (k_here; (show wpAny _ _ (call (Value.ref 60) _) _ _ _); (try k_fold); (k_dflt (refine' Ct.use (fault_ct _ _ _ _) ?k1 ?k2 ?k3 ?k4 ?k5 ?kK ?kd ?ku ?_; (case k1 => k_asm); (case k2 => k_asm); (case k3 => k_asm); (case k4 => k_asm); (case k5 => k_asm); (case kK => first | exact rfl | assumption); (case kd => ktr_room); (case ku => ktr_units))); (intro _ _ _ _ _ _ hp9; obtain ⟨_, _, _, _, hr9, hn9, _⟩ := hp9; subst hr9; subst hn9); (try dsimp only); (try k_fold)) | ((show wpAny _ _ (exec (Stmt.Raise (some _) none _) _) _ _ _); (with_reducible refine raise_fault rfl ?_)) | ((show wpAny _ _ (leaving _ (Value.ref _)) _ _ _); k_dflt (refine' leave_fault ?k1 ?k2 ?k3 ?k4 ?_ ?k5; (case k1 => assumption); (case k2 => k_asm); (case k3 => k_asm); (case k4 => assumption); (case k5 => rfl); k_whole); intro _ _ _) | ((show FaultUp _ _ _); k_dflt (refine ⟨_, _, _, _, _, _, _, _, _, rfl, (Frag.In.keeps (K := Mine.hd.heap_39 _) (by k_asm) (Fr.keep (by k_asm))) 60 _ rfl, News.get (by k_asm) (List.mem_cons_self ..), ?_⟩)) | ((show wpAny _ _ (exec (Stmt.For (Expr.Tuple _ _ _) (Expr.List _ _) _ [] _) _) _ _ _); refine Stop.of ?_) | ((show wpAny _ _ (noteFrame (Value.ref _) _) _ _ _); refine Stop.of ?_) | ((show wpAny _ _ (call (Value.ref 170) _) _ _ _); refine Stop.of ?_)) | walk1) | (leave1; walk_say "STEP leave1"; try dsimp only) | fail "no step"))
  all_goals try (exfalso; omega)
  exact hret _ _ _ _ _ _ (by k_asm) (by k_asm) (by k_asm)

section
open PySem.Spec
variable {prog : Program} {w : World} {A A₀ : Around} {s : Shared} {base h₀ : Heap} {L : Addr} {m : Str → Option Value} {news : List (Addr × Obj)} {K : Frag} {p : Program} {loose : List Str} {mean : ExcName → Option Value} {mg mb : Str → Option Value} {env : Env}
    {R : Result → Shared → Prop} {name qual : Str} {params : Arguments} {body : List Stmt} {scope : Scope} {dV kV doc pm cdv ct oc : Value} {an od : Option Addr} {osl : Array (Option Value)} {f : Addr} {args : Args} {binds : List (Str × Value)}
/-- a call from the outermost frame: the caller's frame may be noted by an exception that the callee catches -/
theorem code_defT (B : Below A₀ base [] h₀) (F : Fr h₀ L s.heap m) (X₀ : K.In h₀) (N : News h₀ L s.heap news) (T : Top p loose mean mg mb h₀) (hA : A.frames = some [env]) (hf : env.frame = some L) (hke : env.scope.kind = .function)
    (ho : K.lookup f = some ⟨oc, od, .func (fnOf name qual params body scope dV kV doc pm an cdv ct), osl⟩) (hcd : codeIn K cdv qual = true) (hroom : A.depth < recursionLimit)
    (hbind : BindsTo s (fnOf name qual params body scope dV kV doc pm an cdv ct) args binds) (hloc : ∀ y ∈ binds, scope.names.lookup y.1 = some .local)
    (h : ∀ g L' h₁, Fr h₀ L g m → Fr g L' h₁ (fun y => binds.reverse.lookup y) → News g L' h₁ news → Below A base [env] g → K.In g → Top p loose mean mg mb g → KtsDicts ([env].filterMap (·.frame)) g →
      wpAny (model prog w) (A.deeper (envOf qual scope L' f cdv)) (execs body (envOf qual scope L' f cdv))
        (fun fl s' => LeaveS0 ([env].filterMap (·.frame)) h₀ L m g R (match fl with | .ret v => v | _ => .none) s')
        (fun e s' => wpAny (model prog w) (A.deeper (envOf qual scope L' f cdv)) (leaving (envOf qual scope L' f cdv) e) (fun _ s'' => R (.error e) s'') (fun e' s'' => R (.error e') s'') s')
        { s with heap := h₁, toks := s.toks + binds.length })
    (hco : scope.isCoroutine = false) (hgen : scope.isGenerator = false) (hk : scope.kind = .function)
    (hcell : ∀ x ∈ scope.names, x.2 ≠ .cell) : codeAny (model prog w) A (.call (.ref f) args) R s := by
  have X := X₀.keeps F.keep
  refine codeAny_call_def (fd := fnOf name qual params body scope dV kV doc pm an cdv ct) (body := body) (binds := binds) hroom (X _ _ ho) rfl (T.nolimit.keeps F.keep) (codeRec_of X hcd) rfl hbind hcell hloc (fun h₁ hns hk₁ => ?_) hco hgen hk
  obtain ⟨FG, BG, st, _⟩ := groundX (R := R) B F N hA hf hke
  obtain ⟨oL, es, ep, hL, hLd, hLk, hLf⟩ := F.ns
  have nL : L ∉ news.map (·.1) := fun q => by
    obtain ⟨p, hp, e⟩ := List.mem_map.mp q
    exact (N p hp).2.1 e
  have hLg := hideAll_get (news.map (·.1)) hL nL
  have fr : [env].filterMap (·.frame) = [L] := by simp [hf]
  refine wpAny_mono (h _ s.heap.objs.size h₁ FG ⟨hns, fun b o e => hk₁ b o (of_hideAll _ e), Nat.le_of_eq (hideAll_size _ _)⟩
    (fun p hp => ⟨hk₁ _ _ (N p hp).1, Nat.ne_of_lt (Heap.lt_size (N p hp).1), hideAll_none _ (List.mem_map_of_mem hp)⟩) BG (X₀.keeps st) (T.keeps st) (fun b hb => by
      rw [fr] at hb
      rw [List.mem_singleton.mp hb]
      exact ⟨oL, es, ep, hLg, hLd⟩)) (fun fl s' hl => ?_) fun _ _ y => y
  obtain ⟨g', L', m', news', T', F', N', k⟩ := hl
  have nL₀ : h₀.get? L = none := kts_self F
  obtain ⟨sl, hs⟩ := T'.up hLg
  refine k ⟨⟨_, es, ep, F'.keep _ _ hs, hLd, hLk, hLf⟩, fun b o e => F'.keep b o (T'.other b o (st b o e) (fun q => by
    rw [fr] at q
    rw [List.mem_singleton.mp q, nL₀] at e
    cases e)), F.above⟩ fun p hp => ⟨(N' p hp).1, fun q => ?_, ?_⟩
  · have := (N' p hp).2.2; rw [q, hs] at this; cases this
  · cases q : h₀.get? p.1 with
    | none => rfl
    | some o =>
      obtain ⟨sl', hs'⟩ := T'.up (st _ _ q)
      have := (N' p hp).2.2
      rw [hs'] at this
      cases this
end
/-- the contract of a call from the outermost frame -/
def Ct0 (w : World) (f : Addr) (vs : List Value) (d u : Nat) (news : List (Addr × Obj)) (Post : Value → List (Addr × Obj) → Prop) : Prop :=
  ∀ (loose : List Str) (mean : ExcName → Option Value) (mg mb : Str → Option Value) (dp un : Nat) (gd : Option (List Code)) (cn : Str) (cs : Scope) (a : Addr) (ccd : Value) (cl : List (Str × Addr)) (A₀ : Around) (base h₀ : Heap) (L : Addr) (m : Str → Option Value) (s : Shared) (Q E : Value → Shared → Prop),
    Below A₀ base [] h₀ → Fr h₀ L s.heap m → (Mine.hd.heap_39 w.params).In h₀ → News h₀ L s.heap news → Top Mine.hd.view_39 loose mean mg mb h₀ → (Mine.hd.heap_39 w.params).In base → Top Mine.hd.view_39 loose mean mg mb base → cs.kind = .function → dp + d < recursionLimit → un + u < cLine →
    (∀ r news' h' tk', Fr h₀ L h' m → News h₀ L h' news' → Post r news' → Q r { s with heap := h', toks := tk' }) →
    wpAny (model PySem.Challenge.rw_og0078_01.row.prog w) (ktrTop dp un gd cn cs L a ccd cl []) (call (.ref f) vs) Q E s
section
variable {prog : Program} {w : World} {A : Around} {E : Value → Shared → Prop} {s : Shared} {env : Env} {target : Expr} {body : List Stmt} {Q : Flow → Shared → Prop}
/-- what a turn leaves, the ground free -/
def FreeEnd (I l : Addr) (vs : List Value) (J : Heap → Prop) (k : Nat) (s₁ : Shared) (Q : Flow → Shared → Prop) (f : Flow) (s₂ : Shared) : Prop :=
  match f with
  | .ret v => Q (.ret v) s₂
  | .brk => Q .next s₂
  | _ => ∃ h' tk', s₂ = { s₁ with heap := h', toks := tk' } ∧ J h' ∧ h'.IsListIter I l k ∧ h'.IsList l vs.toArray
/-- a list's loop whose ground may change from turn to turn -/
theorem iter_listT {l : Addr} {vs : List Value} (J : Nat → Heap → Prop) (hh : A.handled = none) (hl : s.heap.IsList l vs.toArray)
    (start : J 0 (s.heap.push { cls := .type "list_iterator", data := .fields #[.ref l, .int 0 0] }))
    (keep : ∀ i h h', J i h → (∀ b o, b ≠ s.heap.objs.size → h.get? b = some o → h'.get? b = some o) → J i h')
    (turn : ∀ i v h tk, vs[i]? = some v → J i h → h.IsListIter s.heap.objs.size l (i + 1) → h.IsList l vs.toArray →
      wpAny (model prog w) A (assign target env v) (fun _ s₃ => wpAny (model prog w) A (execs body env) (FreeEnd s.heap.objs.size l vs (J (i + 1)) (i + 1) s Q) E s₃) E { s with heap := h, toks := tk })
    (done : ∀ h tk, J vs.length h → Q .next { s with heap := h, toks := tk })
    (hE : PassesOwn (model prog w) A env E := by passes_own) :
    wpAny (model prog w) A (pyIter (.ref l)) (fun it s₂ => codeAny (model prog w) A (.forLoop target it body [] env) (fun r s' => match r with | .ok f => Q f s' | .error e => cameBackBy (model prog w) A env E e s') s₂) E s := by
  obtain ⟨ol, hol, _⟩ := id hl
  have hne : l ≠ s.heap.objs.size := Nat.ne_of_lt (Heap.lt_size hol)
  have W := Walks.list (prog := prog) (w := w) hh s.heap.objs.size l hne vs.toArray
  refine wpAny_pyIter_list hl ?_
  refine codeAny_forLoop_any (fun k s' => ∃ h tk i, s' = { s with heap := h, toks := tk } ∧ i ≤ vs.length ∧ k = vs.length + 1 - i ∧ J i h ∧ h.IsListIter s.heap.objs.size l i ∧ h.IsList l vs.toArray) ?_ (vs.length + 1)
    ⟨_, s.toks, 0, rfl, Nat.zero_le _, rfl, start, ⟨_, Heap.get?_push_size _ rfl, rfl, rfl⟩, hl.at fun o e => Heap.get?_push_of_some _ e⟩
  rintro k s' ⟨h, tk, i, rfl, hi, rfl, hJ, hit, hl'⟩
  by_cases hlt : i < vs.length
  · refine W.item i _ _ _ (by simpa using hlt) ⟨hit, hl'⟩ fun v h₁ tk₁ hP hst hk => ?_
    refine letGo_listiter hst.1 ?_
    refine wpAny_mono (turn i v h₁ tk₁ (by simpa using hP) (keep i h h₁ hJ fun b o hb e => hk b o (fun hm => hb (List.mem_singleton.mp hm)) e) hst.1 hst.2) (fun _ s₃ p => ?_) hE
    refine wpAny_passesOwn hE (wpAny_mono p (fun f s₄ q => ?_) fun _ _ x => x)
    cases f with
    | ret v => exact q
    | brk => exact q
    | next => obtain ⟨h', tk', rfl, a, b, c⟩ := q; exact ⟨_, by omega, h', tk', i + 1, rfl, hlt, rfl, a, b, c⟩
    | cont => obtain ⟨h', tk', rfl, a, b, c⟩ := q; exact ⟨_, by omega, h', tk', i + 1, rfl, hlt, rfl, a, b, c⟩
  · obtain rfl : i = vs.length := by omega
    refine W.done _ _ _ (by simpa using (⟨hit, hl'⟩ : _ ∧ _)) fun h₁ tk₁ hk => wpAny_execs_nil ?_
    exact done h₁ tk₁ (keep _ h h₁ hJ fun b o hb e => hk b o (fun hm => hb (List.mem_singleton.mp hm)) e)
end
theorem CtE.use {w : World} {f : Addr} {vs : List Value} {d u : Nat} {news : List (Addr × Obj)} (C : CtE w f vs d u news)
    {loose : List Str} {mean : ExcName → Option Value} {mg mb : Str → Option Value} {dp un : Nat} {gd : Option (List Code)} {cn : Str} {cs : Scope} {a : Addr} {ccd : Value} {cl : List (Str × Addr)} {outer : List Env} {A₀ : Around} {base h₀ : Heap} {L : Addr} {m : Str → Option Value} {s : Shared} {Q E : Value → Shared → Prop}
    (B : Below A₀ base outer h₀) (F : Fr h₀ L s.heap m) (X : (Mine.hd.heap_39 w.params).In h₀) (N : News h₀ L s.heap news) (T : Top Mine.hd.view_39 loose mean mg mb h₀) (hk : cs.kind = .function) (hd : dp + d < recursionLimit) (hu : un + u < cLine)
    (ret : ∀ G e t xs h' tk', Fr h₀ L G m → RaisedS base G (envX cn cs L a ccd cl :: outer) e (.ref 60) t xs news h' → G.UpToSlots h' → E (.ref e) { s with heap := h', toks := tk' }) :
    wpAny (model PySem.Challenge.rw_og0078_01.row.prog w) (ktrTop dp un gd cn cs L a ccd cl outer) (call (.ref f) vs) Q E s :=
  C _ _ _ _ _ _ _ _ _ _ _ _ _ _ _ _ _ _ _ _ _ B F X N T hk hd hu ret
/-- a frame whose ground an exception may have noted -/
def Turned (w : World) (loose : List Str) (mean : ExcName → Option Value) (mg mb : Str → Option Value) (A : Around) (base : Heap) (env : Env) (g₀ : Heap) (L : Addr) (P : (Str → Option Value) → Prop) (led : List (Addr × Obj)) (h : Heap) : Prop :=
  ∃ g m, P m ∧ KtsTurn ([env].filterMap (·.frame)) g₀ g ∧ Fr g L h m ∧ News g L h led ∧ Below A base [env] g ∧ (Mine.hd.heap_39 w.params).In g ∧ Top Mine.hd.view_39 loose mean mg mb g ∧ KtsDicts ([env].filterMap (·.frame)) g
theorem Turned.keep {w : World} {loose : List Str} {mean : ExcName → Option Value} {mg mb : Str → Option Value} {A : Around} {base g₀ : Heap} {env : Env} {L I : Addr} {P : (Str → Option Value) → Prop} {led : List (Addr × Obj)} {h h' : Heap} (T : Turned w loose mean mg mb A base env g₀ L P led h)
    (hI : g₀.get? I = none) (hL : L ≠ I) (hn : ∀ p ∈ led, p.1 ≠ I) (k : ∀ b o, b ≠ I → h.get? b = some o → h'.get? b = some o) : Turned w loose mean mg mb A base env g₀ L P led h' := by
  obtain ⟨g, m, hP, hT, F, N, r⟩ := T
  have g0 := hT.none_ _ hI
  exact ⟨g, m, hP, hT, ⟨F.ns.at' fun o e => k _ o hL e, fun b o e => k b o (fun z => by rw [z, g0] at e; cases e) (F.keep b o e), F.above⟩, fun p hp => ⟨k _ _ (hn p hp) (N p hp).1, (N p hp).2⟩, r⟩
section
theorem refused_ct (w : World) (x : Array UInt8) (kw : List Int) (t1 : Tok) (news : List (Addr × Obj)) (hx : KBw.bInts x = kw) (hz : kw.length ≤ 500) :
    Ct0 w 220 [.bytes x t1] 20 400 news (Pure news fun r => r = .bool true) := by
  unfold Ct0
  k_fill
  intro loose mean mg mb dp un gd cn cs a ccd cl A₀ base h₀ L m s Q E B F X N T XB TB hk hd hu hret
  refine wpAny_call ?_
  k_dflt (refine' code_defT (binds := [(Str.ofString "wanted", .bytes x t1)]) ?k1 ?k2 ?k3 ?k4 ?k5 ?kA ?kF ?kK ?k6 ?k7 ?k8 ?k9 ?kB ?_ ?c2 ?c3 ?c4 ?c5; (case kA => exact rfl); (case kF => exact rfl); (case kK => assumption); (case k1 => k_asm); (case k2 => k_asm); (case k3 => k_asm); (case k4 => k_asm); (case k5 => k_asm); (case k6 => k_is); (case k7 => k_is); (case k8 => ktr_room); (case k9 => exact BindsTo.of_eq rfl); (case c5 => decide); (case kB => exact locs rfl); (case c2 => exact rfl); (case c3 => exact rfl); (case c4 => exact rfl); k_whole)
  intro g' L' h' FG' F' N' B' X' T' D'
  dsimp only
  (try k_fold)
  (repeat' (first | (k_unfold; (try dsimp only)) | (k_end; kc_close) | (with_reducible first | (k_here; (show wpAny _ _ (call (Value.ref 60) _) _ _ _); (try k_fold); (k_dflt (refine' Ct.use (fault_ct _ _ _ _) ?k1 ?k2 ?k3 ?k4 ?k5 ?kK ?kd ?ku ?_; (case k1 => k_asm); (case k2 => k_asm); (case k3 => k_asm); (case k4 => k_asm); (case k5 => k_asm); (case kK => first | exact rfl | assumption); (case kd => ktr_room); (case ku => ktr_units))); (intro _ _ _ _ _ _ hp9; obtain ⟨_, _, _, _, hr9, hn9, _⟩ := hp9; subst hr9; subst hn9); (try dsimp only); (try k_fold)) | ((show wpAny _ _ (exec (Stmt.Raise (some _) none _) _) _ _ _); (with_reducible refine raise_fault rfl ?_)) | ((show wpAny _ _ (leaving _ (Value.ref _)) _ _ _); k_dflt (refine' leave_fault ?k1 ?k2 ?k3 ?k4 ?_ ?k5; (case k1 => assumption); (case k2 => k_asm); (case k3 => k_asm); (case k4 => assumption); (case k5 => rfl); k_whole); intro _ _ _) | ((show FaultUp _ _ _); k_dflt (refine ⟨_, _, _, _, _, _, _, _, _, rfl, (Frag.In.keeps (K := Mine.hd.heap_39 _) (by k_asm) (Fr.keep (by k_asm))) 60 _ rfl, News.get (by k_asm) (List.mem_cons_self ..), ?_⟩)) | ((show wpAny _ _ (exec (Stmt.For (Expr.Tuple _ _ _) (Expr.List _ _) _ [] _) _) _ _ _); refine Stop.of ?_) | ((show wpAny _ _ (noteFrame (Value.ref _) _) _ _ _); refine Stop.of ?_) | ((show wpAny _ _ (call (Value.ref 170) _) _ _ _); refine Stop.of ?_) | ((show wpAny _ _ (eval (Expr.Constant (Const.int _) _ _) _) _ _ _); refine flat_int ?_) | ((show wpAny _ _ (binaryOp Operator.Add (Value.int _ _) (Value.int _ _)) _ _ _); refine flat_add ?_) | ((show wpAny _ _ (binaryOp Operator.Sub (Value.int _ _) (Value.int _ _)) _ _ _); refine flat_sub ?_) | ((show wpAny _ _ (eval (Expr.BinOp _ _ _ _) _) _ _ _); k_fold; k_dflt walk1) | ((show wpAny _ _ (eval (Expr.Compare _ _ _ _) _) _ _ _); k_fold; k_dflt walk1)) | walk1 | (dsimp only; first | (with_reducible first | (k_here; (show wpAny _ _ (call (Value.ref 60) _) _ _ _); (try k_fold); (k_dflt (refine' Ct.use (fault_ct _ _ _ _) ?k1 ?k2 ?k3 ?k4 ?k5 ?kK ?kd ?ku ?_; (case k1 => k_asm); (case k2 => k_asm); (case k3 => k_asm); (case k4 => k_asm); (case k5 => k_asm); (case kK => first | exact rfl | assumption); (case kd => ktr_room); (case ku => ktr_units))); (intro _ _ _ _ _ _ hp9; obtain ⟨_, _, _, _, hr9, hn9, _⟩ := hp9; subst hr9; subst hn9); (try dsimp only); (try k_fold)) | ((show wpAny _ _ (exec (Stmt.Raise (some _) none _) _) _ _ _); (with_reducible refine raise_fault rfl ?_)) | ((show wpAny _ _ (leaving _ (Value.ref _)) _ _ _); k_dflt (refine' leave_fault ?k1 ?k2 ?k3 ?k4 ?_ ?k5; (case k1 => assumption); (case k2 => k_asm); (case k3 => k_asm); (case k4 => assumption); (case k5 => rfl); k_whole); intro _ _ _) | ((show FaultUp _ _ _); k_dflt (refine ⟨_, _, _, _, _, _, _, _, _, rfl, (Frag.In.keeps (K := Mine.hd.heap_39 _) (by k_asm) (Fr.keep (by k_asm))) 60 _ rfl, News.get (by k_asm) (List.mem_cons_self ..), ?_⟩)) | ((show wpAny _ _ (exec (Stmt.For (Expr.Tuple _ _ _) (Expr.List _ _) _ [] _) _) _ _ _); refine Stop.of ?_) | ((show wpAny _ _ (noteFrame (Value.ref _) _) _ _ _); refine Stop.of ?_) | ((show wpAny _ _ (call (Value.ref 170) _) _ _ _); refine Stop.of ?_)) | walk1) | (leave1; walk_say "STEP leave1"; try dsimp only) | fail "no step"))
  refine Stop.go ?_
  (try k_fold)
  refine (wpAny_For ?_)
  (repeat' (first | (k_unfold; (try dsimp only)) | (k_end; kc_close) | (with_reducible first | (k_here; (show wpAny _ _ (call (Value.ref 60) _) _ _ _); (try k_fold); (k_dflt (refine' Ct.use (fault_ct _ _ _ _) ?k1 ?k2 ?k3 ?k4 ?k5 ?kK ?kd ?ku ?_; (case k1 => k_asm); (case k2 => k_asm); (case k3 => k_asm); (case k4 => k_asm); (case k5 => k_asm); (case kK => first | exact rfl | assumption); (case kd => ktr_room); (case ku => ktr_units))); (intro _ _ _ _ _ _ hp9; obtain ⟨_, _, _, _, hr9, hn9, _⟩ := hp9; subst hr9; subst hn9); (try dsimp only); (try k_fold)) | ((show wpAny _ _ (exec (Stmt.Raise (some _) none _) _) _ _ _); (with_reducible refine raise_fault rfl ?_)) | ((show wpAny _ _ (leaving _ (Value.ref _)) _ _ _); k_dflt (refine' leave_fault ?k1 ?k2 ?k3 ?k4 ?_ ?k5; (case k1 => assumption); (case k2 => k_asm); (case k3 => k_asm); (case k4 => assumption); (case k5 => rfl); k_whole); intro _ _ _) | ((show FaultUp _ _ _); k_dflt (refine ⟨_, _, _, _, _, _, _, _, _, rfl, (Frag.In.keeps (K := Mine.hd.heap_39 _) (by k_asm) (Fr.keep (by k_asm))) 60 _ rfl, News.get (by k_asm) (List.mem_cons_self ..), ?_⟩)) | ((show wpAny _ _ (exec (Stmt.For (Expr.Tuple _ _ _) (Expr.List _ _) _ [] _) _) _ _ _); refine Stop.of ?_) | ((show wpAny _ _ (noteFrame (Value.ref _) _) _ _ _); refine Stop.of ?_) | ((show wpAny _ _ (call (Value.ref 170) _) _ _ _); refine Stop.of ?_) | ((show wpAny _ _ (eval (Expr.Constant (Const.int _) _ _) _) _ _ _); refine flat_int ?_) | ((show wpAny _ _ (binaryOp Operator.Add (Value.int _ _) (Value.int _ _)) _ _ _); refine flat_add ?_) | ((show wpAny _ _ (binaryOp Operator.Sub (Value.int _ _) (Value.int _ _)) _ _ _); refine flat_sub ?_) | ((show wpAny _ _ (eval (Expr.BinOp _ _ _ _) _) _ _ _); k_fold; k_dflt walk1) | ((show wpAny _ _ (eval (Expr.Compare _ _ _ _) _) _ _ _); k_fold; k_dflt walk1)) | walk1 | (dsimp only; first | (with_reducible first | (k_here; (show wpAny _ _ (call (Value.ref 60) _) _ _ _); (try k_fold); (k_dflt (refine' Ct.use (fault_ct _ _ _ _) ?k1 ?k2 ?k3 ?k4 ?k5 ?kK ?kd ?ku ?_; (case k1 => k_asm); (case k2 => k_asm); (case k3 => k_asm); (case k4 => k_asm); (case k5 => k_asm); (case kK => first | exact rfl | assumption); (case kd => ktr_room); (case ku => ktr_units))); (intro _ _ _ _ _ _ hp9; obtain ⟨_, _, _, _, hr9, hn9, _⟩ := hp9; subst hr9; subst hn9); (try dsimp only); (try k_fold)) | ((show wpAny _ _ (exec (Stmt.Raise (some _) none _) _) _ _ _); (with_reducible refine raise_fault rfl ?_)) | ((show wpAny _ _ (leaving _ (Value.ref _)) _ _ _); k_dflt (refine' leave_fault ?k1 ?k2 ?k3 ?k4 ?_ ?k5; (case k1 => assumption); (case k2 => k_asm); (case k3 => k_asm); (case k4 => assumption); (case k5 => rfl); k_whole); intro _ _ _) | ((show FaultUp _ _ _); k_dflt (refine ⟨_, _, _, _, _, _, _, _, _, rfl, (Frag.In.keeps (K := Mine.hd.heap_39 _) (by k_asm) (Fr.keep (by k_asm))) 60 _ rfl, News.get (by k_asm) (List.mem_cons_self ..), ?_⟩)) | ((show wpAny _ _ (exec (Stmt.For (Expr.Tuple _ _ _) (Expr.List _ _) _ [] _) _) _ _ _); refine Stop.of ?_) | ((show wpAny _ _ (noteFrame (Value.ref _) _) _ _ _); refine Stop.of ?_) | ((show wpAny _ _ (call (Value.ref 170) _) _ _ _); refine Stop.of ?_)) | walk1) | (leave1; walk_say "STEP leave1"; try dsimp only) | fail "no step"))
  rename News g' _ _ _ => N1
  rename Fr g' _ _ _ => F1
  have hl := N1 _ (List.mem_cons_self ..)
  obtain ⟨led, hled, N1⟩ : ∃ led, led = _ ∧ News g' L' _ led := ⟨_, rfl, N1⟩
  have hI0 := next_is_new F1
  have hIL : L' ≠ _ := Nat.ne_of_lt F1.ns.lt
  have hIn : ∀ p ∈ led, p.1 ≠ _ := fun p hp => Nat.ne_of_lt (Heap.lt_size (N1 p hp).1)
  refine Stop.go (iter_listT (vs := [_, _]) (fun i h => Turned w loose mean mg mb (ktrTop dp un gd cn cs L a ccd cl []) base (envX cn cs L a ccd cl) g' L' (fun m => ∃ vt vo, m = fun y => if y = Str.ofString "other" then vo else if y = Str.ofString "one" then vt else lk [(Str.ofString "wanted", .bytes x t1)] y) led h)
    rfl ⟨_, hl.1, rfl, _, rfl⟩ ?_ (fun i h h' H k => H.keep hI0 hIL hIn k) ?_ ?_)
  · refine ⟨g', _, (by dsimp only; exact norm2 (by intro z h1 h2; rfl)), KtsTurn.refl, F1.push _, fun p hp => ⟨Heap.get?_push_of_some _ (N1 p hp).1, (N1 p hp).2⟩, B', X', T', D'⟩
  · intro i v h tk hv hz1 hit hl2
    (try k_fold)
    obtain ⟨g'', m₁, ⟨vt, vo, rfl⟩, hT, F2, N2, B2, X2, T2, D2⟩ := hz1
    obtain ⟨oI, hoI, hoIr⟩ := id hit
    have N3 : News g'' L' h ((_, oI) :: led) := fun p hp => by
      rcases List.mem_cons.mp hp with rfl | hp
      · exact ⟨hoI, Ne.symm hIL, hT.none_ _ hI0⟩
      · exact N2 p hp
    clear N2 F1 N1 B' X' T' D'
    rw [hled] at N3
    rcases i with _ | _ | i
    · obtain rfl := Option.some.inj hv
      (repeat' (first | (k_unfold; (try dsimp only)) | (k_end; kc_close) | (with_reducible first | (k_here; (show wpAny _ _ (call (Value.ref 60) _) _ _ _); (try k_fold); (k_dflt (refine' Ct.use (fault_ct _ _ _ _) ?k1 ?k2 ?k3 ?k4 ?k5 ?kK ?kd ?ku ?_; (case k1 => k_asm); (case k2 => k_asm); (case k3 => k_asm); (case k4 => k_asm); (case k5 => k_asm); (case kK => first | exact rfl | assumption); (case kd => ktr_room); (case ku => ktr_units))); (intro _ _ _ _ _ _ hp9; obtain ⟨_, _, _, _, hr9, hn9, _⟩ := hp9; subst hr9; subst hn9); (try dsimp only); (try k_fold)) | ((show wpAny _ _ (exec (Stmt.Raise (some _) none _) _) _ _ _); (with_reducible refine raise_fault rfl ?_)) | ((show wpAny _ _ (leaving _ (Value.ref _)) _ _ _); k_dflt (refine' leave_fault ?k1 ?k2 ?k3 ?k4 ?_ ?k5; (case k1 => assumption); (case k2 => k_asm); (case k3 => k_asm); (case k4 => assumption); (case k5 => rfl); k_whole); intro _ _ _) | ((show FaultUp _ _ _); k_dflt (refine ⟨_, _, _, _, _, _, _, _, _, rfl, (Frag.In.keeps (K := Mine.hd.heap_39 _) (by k_asm) (Fr.keep (by k_asm))) 60 _ rfl, News.get (by k_asm) (List.mem_cons_self ..), ?_⟩)) | ((show wpAny _ _ (exec (Stmt.For (Expr.Tuple _ _ _) (Expr.List _ _) _ [] _) _) _ _ _); refine Stop.of ?_) | ((show wpAny _ _ (noteFrame (Value.ref _) _) _ _ _); refine Stop.of ?_) | ((show wpAny _ _ (call (Value.ref 170) _) _ _ _); refine Stop.of ?_) | ((show wpAny _ _ (eval (Expr.Constant (Const.int _) _ _) _) _ _ _); refine flat_int ?_) | ((show wpAny _ _ (binaryOp Operator.Add (Value.int _ _) (Value.int _ _)) _ _ _); refine flat_add ?_) | ((show wpAny _ _ (binaryOp Operator.Sub (Value.int _ _) (Value.int _ _)) _ _ _); refine flat_sub ?_) | ((show wpAny _ _ (eval (Expr.BinOp _ _ _ _) _) _ _ _); k_fold; k_dflt walk1) | ((show wpAny _ _ (eval (Expr.Compare _ _ _ _) _) _ _ _); k_fold; k_dflt walk1)) | walk1 | (dsimp only; first | (with_reducible first | (k_here; (show wpAny _ _ (call (Value.ref 60) _) _ _ _); (try k_fold); (k_dflt (refine' Ct.use (fault_ct _ _ _ _) ?k1 ?k2 ?k3 ?k4 ?k5 ?kK ?kd ?ku ?_; (case k1 => k_asm); (case k2 => k_asm); (case k3 => k_asm); (case k4 => k_asm); (case k5 => k_asm); (case kK => first | exact rfl | assumption); (case kd => ktr_room); (case ku => ktr_units))); (intro _ _ _ _ _ _ hp9; obtain ⟨_, _, _, _, hr9, hn9, _⟩ := hp9; subst hr9; subst hn9); (try dsimp only); (try k_fold)) | ((show wpAny _ _ (exec (Stmt.Raise (some _) none _) _) _ _ _); (with_reducible refine raise_fault rfl ?_)) | ((show wpAny _ _ (leaving _ (Value.ref _)) _ _ _); k_dflt (refine' leave_fault ?k1 ?k2 ?k3 ?k4 ?_ ?k5; (case k1 => assumption); (case k2 => k_asm); (case k3 => k_asm); (case k4 => assumption); (case k5 => rfl); k_whole); intro _ _ _) | ((show FaultUp _ _ _); k_dflt (refine ⟨_, _, _, _, _, _, _, _, _, rfl, (Frag.In.keeps (K := Mine.hd.heap_39 _) (by k_asm) (Fr.keep (by k_asm))) 60 _ rfl, News.get (by k_asm) (List.mem_cons_self ..), ?_⟩)) | ((show wpAny _ _ (exec (Stmt.For (Expr.Tuple _ _ _) (Expr.List _ _) _ [] _) _) _ _ _); refine Stop.of ?_) | ((show wpAny _ _ (noteFrame (Value.ref _) _) _ _ _); refine Stop.of ?_) | ((show wpAny _ _ (call (Value.ref 170) _) _ _ _); refine Stop.of ?_)) | walk1) | (leave1; walk_say "STEP leave1"; try dsimp only) | fail "no step"))
      rename Fr g'' _ _ _ => F3
      rename News g'' _ _ _ => N4
      obtain ⟨m3, hm3, F3⟩ : ∃ m3, m3 = _ ∧ Fr g'' L' _ m3 := ⟨_, rfl, F3⟩
      refine Stop.go ?_
      (try k_fold)
      refine (CtE.use (converted_raise w _ x _ .none .none _ kw _ none none _ _ _ _ rfl hx (by assumption) (by omega) (by simp; omega) (by simp)) B2 F3 X2 N4 T2 rfl (by ktr_room) (by ktr_units) ?_)
      intro G e t xs h₂ tk₂ FG R U
      dsimp only
      (repeat' (first | (k_unfold; (try dsimp only)) | (k_end; kc_close) | (with_reducible first | (k_here; (show wpAny _ _ (call (Value.ref 60) _) _ _ _); (try k_fold); (k_dflt (refine' Ct.use (fault_ct _ _ _ _) ?k1 ?k2 ?k3 ?k4 ?k5 ?kK ?kd ?ku ?_; (case k1 => k_asm); (case k2 => k_asm); (case k3 => k_asm); (case k4 => k_asm); (case k5 => k_asm); (case kK => first | exact rfl | assumption); (case kd => ktr_room); (case ku => ktr_units))); (intro _ _ _ _ _ _ hp9; obtain ⟨_, _, _, _, hr9, hn9, _⟩ := hp9; subst hr9; subst hn9); (try dsimp only); (try k_fold)) | ((show wpAny _ _ (exec (Stmt.Raise (some _) none _) _) _ _ _); (with_reducible refine raise_fault rfl ?_)) | ((show wpAny _ _ (leaving _ (Value.ref _)) _ _ _); k_dflt (refine' leave_fault ?k1 ?k2 ?k3 ?k4 ?_ ?k5; (case k1 => assumption); (case k2 => k_asm); (case k3 => k_asm); (case k4 => assumption); (case k5 => rfl); k_whole); intro _ _ _) | ((show FaultUp _ _ _); k_dflt (refine ⟨_, _, _, _, _, _, _, _, _, rfl, (Frag.In.keeps (K := Mine.hd.heap_39 _) (by k_asm) (Fr.keep (by k_asm))) 60 _ rfl, News.get (by k_asm) (List.mem_cons_self ..), ?_⟩)) | ((show wpAny _ _ (exec (Stmt.For (Expr.Tuple _ _ _) (Expr.List _ _) _ [] _) _) _ _ _); refine Stop.of ?_) | ((show wpAny _ _ (noteFrame (Value.ref _) _) _ _ _); refine Stop.of ?_) | ((show wpAny _ _ (call (Value.ref 170) _) _ _ _); refine Stop.of ?_) | ((show wpAny _ _ (eval (Expr.Constant (Const.int _) _ _) _) _ _ _); refine flat_int ?_) | ((show wpAny _ _ (binaryOp Operator.Add (Value.int _ _) (Value.int _ _)) _ _ _); refine flat_add ?_) | ((show wpAny _ _ (binaryOp Operator.Sub (Value.int _ _) (Value.int _ _)) _ _ _); refine flat_sub ?_) | ((show wpAny _ _ (eval (Expr.BinOp _ _ _ _) _) _ _ _); k_fold; k_dflt walk1) | ((show wpAny _ _ (eval (Expr.Compare _ _ _ _) _) _ _ _); k_fold; k_dflt walk1)) | walk1 | (dsimp only; first | (with_reducible first | (k_here; (show wpAny _ _ (call (Value.ref 60) _) _ _ _); (try k_fold); (k_dflt (refine' Ct.use (fault_ct _ _ _ _) ?k1 ?k2 ?k3 ?k4 ?k5 ?kK ?kd ?ku ?_; (case k1 => k_asm); (case k2 => k_asm); (case k3 => k_asm); (case k4 => k_asm); (case k5 => k_asm); (case kK => first | exact rfl | assumption); (case kd => ktr_room); (case ku => ktr_units))); (intro _ _ _ _ _ _ hp9; obtain ⟨_, _, _, _, hr9, hn9, _⟩ := hp9; subst hr9; subst hn9); (try dsimp only); (try k_fold)) | ((show wpAny _ _ (exec (Stmt.Raise (some _) none _) _) _ _ _); (with_reducible refine raise_fault rfl ?_)) | ((show wpAny _ _ (leaving _ (Value.ref _)) _ _ _); k_dflt (refine' leave_fault ?k1 ?k2 ?k3 ?k4 ?_ ?k5; (case k1 => assumption); (case k2 => k_asm); (case k3 => k_asm); (case k4 => assumption); (case k5 => rfl); k_whole); intro _ _ _) | ((show FaultUp _ _ _); k_dflt (refine ⟨_, _, _, _, _, _, _, _, _, rfl, (Frag.In.keeps (K := Mine.hd.heap_39 _) (by k_asm) (Fr.keep (by k_asm))) 60 _ rfl, News.get (by k_asm) (List.mem_cons_self ..), ?_⟩)) | ((show wpAny _ _ (exec (Stmt.For (Expr.Tuple _ _ _) (Expr.List _ _) _ [] _) _) _ _ _); refine Stop.of ?_) | ((show wpAny _ _ (noteFrame (Value.ref _) _) _ _ _); refine Stop.of ?_) | ((show wpAny _ _ (call (Value.ref 170) _) _ _ _); refine Stop.of ?_)) | walk1) | (leave1; walk_say "STEP leave1"; try dsimp only) | fail "no step"))
      refine Stop.go (caught_SO0 R FG B2 U XB TB D2 hT (by k_is) (by kts_isx) ?_)
      intro h3 g3 n3 hT3 F4 _ _ N5 B3 X3 T3 D3
      have hit2 : Heap.IsListIter h3 _ _ _ := ⟨oI, N5.get (List.mem_cons_self ..), hoIr⟩
      have N6 : News g3 L' h3 led := fun p hp => N5 p (List.mem_cons_of_mem _ (hled ▸ hp))
      have hl3 : Heap.IsList h3 _ _ := ⟨_, N6.get (by rw [hled]; exact List.mem_cons_self ..), rfl, _, rfl⟩
      clear F3 N4 R FG U N5
      (repeat' (first | (k_unfold; (try dsimp only)) | (k_end; kc_close) | (with_reducible first | (k_here; (show wpAny _ _ (call (Value.ref 60) _) _ _ _); (try k_fold); (k_dflt (refine' Ct.use (fault_ct _ _ _ _) ?k1 ?k2 ?k3 ?k4 ?k5 ?kK ?kd ?ku ?_; (case k1 => k_asm); (case k2 => k_asm); (case k3 => k_asm); (case k4 => k_asm); (case k5 => k_asm); (case kK => first | exact rfl | assumption); (case kd => ktr_room); (case ku => ktr_units))); (intro _ _ _ _ _ _ hp9; obtain ⟨_, _, _, _, hr9, hn9, _⟩ := hp9; subst hr9; subst hn9); (try dsimp only); (try k_fold)) | ((show wpAny _ _ (exec (Stmt.Raise (some _) none _) _) _ _ _); (with_reducible refine raise_fault rfl ?_)) | ((show wpAny _ _ (leaving _ (Value.ref _)) _ _ _); k_dflt (refine' leave_fault ?k1 ?k2 ?k3 ?k4 ?_ ?k5; (case k1 => assumption); (case k2 => k_asm); (case k3 => k_asm); (case k4 => assumption); (case k5 => rfl); k_whole); intro _ _ _) | ((show FaultUp _ _ _); k_dflt (refine ⟨_, _, _, _, _, _, _, _, _, rfl, (Frag.In.keeps (K := Mine.hd.heap_39 _) (by k_asm) (Fr.keep (by k_asm))) 60 _ rfl, News.get (by k_asm) (List.mem_cons_self ..), ?_⟩)) | ((show wpAny _ _ (exec (Stmt.For (Expr.Tuple _ _ _) (Expr.List _ _) _ [] _) _) _ _ _); refine Stop.of ?_) | ((show wpAny _ _ (noteFrame (Value.ref _) _) _ _ _); refine Stop.of ?_) | ((show wpAny _ _ (call (Value.ref 170) _) _ _ _); refine Stop.of ?_) | ((show wpAny _ _ (eval (Expr.Constant (Const.int _) _ _) _) _ _ _); refine flat_int ?_) | ((show wpAny _ _ (binaryOp Operator.Add (Value.int _ _) (Value.int _ _)) _ _ _); refine flat_add ?_) | ((show wpAny _ _ (binaryOp Operator.Sub (Value.int _ _) (Value.int _ _)) _ _ _); refine flat_sub ?_) | ((show wpAny _ _ (eval (Expr.BinOp _ _ _ _) _) _ _ _); k_fold; k_dflt walk1) | ((show wpAny _ _ (eval (Expr.Compare _ _ _ _) _) _ _ _); k_fold; k_dflt walk1)) | walk1 | (dsimp only; first | (with_reducible first | (k_here; (show wpAny _ _ (call (Value.ref 60) _) _ _ _); (try k_fold); (k_dflt (refine' Ct.use (fault_ct _ _ _ _) ?k1 ?k2 ?k3 ?k4 ?k5 ?kK ?kd ?ku ?_; (case k1 => k_asm); (case k2 => k_asm); (case k3 => k_asm); (case k4 => k_asm); (case k5 => k_asm); (case kK => first | exact rfl | assumption); (case kd => ktr_room); (case ku => ktr_units))); (intro _ _ _ _ _ _ hp9; obtain ⟨_, _, _, _, hr9, hn9, _⟩ := hp9; subst hr9; subst hn9); (try dsimp only); (try k_fold)) | ((show wpAny _ _ (exec (Stmt.Raise (some _) none _) _) _ _ _); (with_reducible refine raise_fault rfl ?_)) | ((show wpAny _ _ (leaving _ (Value.ref _)) _ _ _); k_dflt (refine' leave_fault ?k1 ?k2 ?k3 ?k4 ?_ ?k5; (case k1 => assumption); (case k2 => k_asm); (case k3 => k_asm); (case k4 => assumption); (case k5 => rfl); k_whole); intro _ _ _) | ((show FaultUp _ _ _); k_dflt (refine ⟨_, _, _, _, _, _, _, _, _, rfl, (Frag.In.keeps (K := Mine.hd.heap_39 _) (by k_asm) (Fr.keep (by k_asm))) 60 _ rfl, News.get (by k_asm) (List.mem_cons_self ..), ?_⟩)) | ((show wpAny _ _ (exec (Stmt.For (Expr.Tuple _ _ _) (Expr.List _ _) _ [] _) _) _ _ _); refine Stop.of ?_) | ((show wpAny _ _ (noteFrame (Value.ref _) _) _ _ _); refine Stop.of ?_) | ((show wpAny _ _ (call (Value.ref 170) _) _ _ _); refine Stop.of ?_)) | walk1) | (leave1; walk_say "STEP leave1"; try dsimp only) | fail "no step"))
      refine ⟨h3, _, rfl, ⟨g3, m3, ?_, hT3, by k_asm, by k_asm, B3, X3, T3, D3⟩, hit2, hl3⟩
      rw [hm3]
      dsimp only
      exact norm2 fun z h1 h2 => by simp only [if_neg h1, if_neg h2]
    · obtain rfl := Option.some.inj hv
      (repeat' (first | (k_unfold; (try dsimp only)) | (k_end; kc_close) | (with_reducible first | (k_here; (show wpAny _ _ (call (Value.ref 60) _) _ _ _); (try k_fold); (k_dflt (refine' Ct.use (fault_ct _ _ _ _) ?k1 ?k2 ?k3 ?k4 ?k5 ?kK ?kd ?ku ?_; (case k1 => k_asm); (case k2 => k_asm); (case k3 => k_asm); (case k4 => k_asm); (case k5 => k_asm); (case kK => first | exact rfl | assumption); (case kd => ktr_room); (case ku => ktr_units))); (intro _ _ _ _ _ _ hp9; obtain ⟨_, _, _, _, hr9, hn9, _⟩ := hp9; subst hr9; subst hn9); (try dsimp only); (try k_fold)) | ((show wpAny _ _ (exec (Stmt.Raise (some _) none _) _) _ _ _); (with_reducible refine raise_fault rfl ?_)) | ((show wpAny _ _ (leaving _ (Value.ref _)) _ _ _); k_dflt (refine' leave_fault ?k1 ?k2 ?k3 ?k4 ?_ ?k5; (case k1 => assumption); (case k2 => k_asm); (case k3 => k_asm); (case k4 => assumption); (case k5 => rfl); k_whole); intro _ _ _) | ((show FaultUp _ _ _); k_dflt (refine ⟨_, _, _, _, _, _, _, _, _, rfl, (Frag.In.keeps (K := Mine.hd.heap_39 _) (by k_asm) (Fr.keep (by k_asm))) 60 _ rfl, News.get (by k_asm) (List.mem_cons_self ..), ?_⟩)) | ((show wpAny _ _ (exec (Stmt.For (Expr.Tuple _ _ _) (Expr.List _ _) _ [] _) _) _ _ _); refine Stop.of ?_) | ((show wpAny _ _ (noteFrame (Value.ref _) _) _ _ _); refine Stop.of ?_) | ((show wpAny _ _ (call (Value.ref 170) _) _ _ _); refine Stop.of ?_) | ((show wpAny _ _ (eval (Expr.Constant (Const.int _) _ _) _) _ _ _); refine flat_int ?_) | ((show wpAny _ _ (binaryOp Operator.Add (Value.int _ _) (Value.int _ _)) _ _ _); refine flat_add ?_) | ((show wpAny _ _ (binaryOp Operator.Sub (Value.int _ _) (Value.int _ _)) _ _ _); refine flat_sub ?_) | ((show wpAny _ _ (eval (Expr.BinOp _ _ _ _) _) _ _ _); k_fold; k_dflt walk1) | ((show wpAny _ _ (eval (Expr.Compare _ _ _ _) _) _ _ _); k_fold; k_dflt walk1)) | walk1 | (dsimp only; first | (with_reducible first | (k_here; (show wpAny _ _ (call (Value.ref 60) _) _ _ _); (try k_fold); (k_dflt (refine' Ct.use (fault_ct _ _ _ _) ?k1 ?k2 ?k3 ?k4 ?k5 ?kK ?kd ?ku ?_; (case k1 => k_asm); (case k2 => k_asm); (case k3 => k_asm); (case k4 => k_asm); (case k5 => k_asm); (case kK => first | exact rfl | assumption); (case kd => ktr_room); (case ku => ktr_units))); (intro _ _ _ _ _ _ hp9; obtain ⟨_, _, _, _, hr9, hn9, _⟩ := hp9; subst hr9; subst hn9); (try dsimp only); (try k_fold)) | ((show wpAny _ _ (exec (Stmt.Raise (some _) none _) _) _ _ _); (with_reducible refine raise_fault rfl ?_)) | ((show wpAny _ _ (leaving _ (Value.ref _)) _ _ _); k_dflt (refine' leave_fault ?k1 ?k2 ?k3 ?k4 ?_ ?k5; (case k1 => assumption); (case k2 => k_asm); (case k3 => k_asm); (case k4 => assumption); (case k5 => rfl); k_whole); intro _ _ _) | ((show FaultUp _ _ _); k_dflt (refine ⟨_, _, _, _, _, _, _, _, _, rfl, (Frag.In.keeps (K := Mine.hd.heap_39 _) (by k_asm) (Fr.keep (by k_asm))) 60 _ rfl, News.get (by k_asm) (List.mem_cons_self ..), ?_⟩)) | ((show wpAny _ _ (exec (Stmt.For (Expr.Tuple _ _ _) (Expr.List _ _) _ [] _) _) _ _ _); refine Stop.of ?_) | ((show wpAny _ _ (noteFrame (Value.ref _) _) _ _ _); refine Stop.of ?_) | ((show wpAny _ _ (call (Value.ref 170) _) _ _ _); refine Stop.of ?_)) | walk1) | (leave1; walk_say "STEP leave1"; try dsimp only) | fail "no step"))
      rename Fr g'' _ _ _ => F3
      rename News g'' _ _ _ => N4
      obtain ⟨m3, hm3, F3⟩ : ∃ m3, m3 = _ ∧ Fr g'' L' _ m3 := ⟨_, rfl, F3⟩
      refine Stop.go ?_
      (try k_fold)
      refine (CtE.use (converted_raise w _ _ x .none .none _ _ kw none none _ _ _ _ rfl (by assumption) hx (by simp; omega) (by omega) (by simp)) B2 F3 X2 N4 T2 rfl (by ktr_room) (by ktr_units) ?_)
      intro G e t xs h₂ tk₂ FG R U
      dsimp only
      (repeat' (first | (k_unfold; (try dsimp only)) | (k_end; kc_close) | (with_reducible first | (k_here; (show wpAny _ _ (call (Value.ref 60) _) _ _ _); (try k_fold); (k_dflt (refine' Ct.use (fault_ct _ _ _ _) ?k1 ?k2 ?k3 ?k4 ?k5 ?kK ?kd ?ku ?_; (case k1 => k_asm); (case k2 => k_asm); (case k3 => k_asm); (case k4 => k_asm); (case k5 => k_asm); (case kK => first | exact rfl | assumption); (case kd => ktr_room); (case ku => ktr_units))); (intro _ _ _ _ _ _ hp9; obtain ⟨_, _, _, _, hr9, hn9, _⟩ := hp9; subst hr9; subst hn9); (try dsimp only); (try k_fold)) | ((show wpAny _ _ (exec (Stmt.Raise (some _) none _) _) _ _ _); (with_reducible refine raise_fault rfl ?_)) | ((show wpAny _ _ (leaving _ (Value.ref _)) _ _ _); k_dflt (refine' leave_fault ?k1 ?k2 ?k3 ?k4 ?_ ?k5; (case k1 => assumption); (case k2 => k_asm); (case k3 => k_asm); (case k4 => assumption); (case k5 => rfl); k_whole); intro _ _ _) | ((show FaultUp _ _ _); k_dflt (refine ⟨_, _, _, _, _, _, _, _, _, rfl, (Frag.In.keeps (K := Mine.hd.heap_39 _) (by k_asm) (Fr.keep (by k_asm))) 60 _ rfl, News.get (by k_asm) (List.mem_cons_self ..), ?_⟩)) | ((show wpAny _ _ (exec (Stmt.For (Expr.Tuple _ _ _) (Expr.List _ _) _ [] _) _) _ _ _); refine Stop.of ?_) | ((show wpAny _ _ (noteFrame (Value.ref _) _) _ _ _); refine Stop.of ?_) | ((show wpAny _ _ (call (Value.ref 170) _) _ _ _); refine Stop.of ?_) | ((show wpAny _ _ (eval (Expr.Constant (Const.int _) _ _) _) _ _ _); refine flat_int ?_) | ((show wpAny _ _ (binaryOp Operator.Add (Value.int _ _) (Value.int _ _)) _ _ _); refine flat_add ?_) | ((show wpAny _ _ (binaryOp Operator.Sub (Value.int _ _) (Value.int _ _)) _ _ _); refine flat_sub ?_) | ((show wpAny _ _ (eval (Expr.BinOp _ _ _ _) _) _ _ _); k_fold; k_dflt walk1) | ((show wpAny _ _ (eval (Expr.Compare _ _ _ _) _) _ _ _); k_fold; k_dflt walk1)) | walk1 | (dsimp only; first | (with_reducible first | (k_here; (show wpAny _ _ (call (Value.ref 60) _) _ _ _); (try k_fold); (k_dflt (refine' Ct.use (fault_ct _ _ _ _) ?k1 ?k2 ?k3 ?k4 ?k5 ?kK ?kd ?ku ?_; (case k1 => k_asm); (case k2 => k_asm); (case k3 => k_asm); (case k4 => k_asm); (case k5 => k_asm); (case kK => first | exact rfl | assumption); (case kd => ktr_room); (case ku => ktr_units))); (intro _ _ _ _ _ _ hp9; obtain ⟨_, _, _, _, hr9, hn9, _⟩ := hp9; subst hr9; subst hn9); (try dsimp only); (try k_fold)) | ((show wpAny _ _ (exec (Stmt.Raise (some _) none _) _) _ _ _); (with_reducible refine raise_fault rfl ?_)) | ((show wpAny _ _ (leaving _ (Value.ref _)) _ _ _); k_dflt (refine' leave_fault ?k1 ?k2 ?k3 ?k4 ?_ ?k5; (case k1 => assumption); (case k2 => k_asm); (case k3 => k_asm); (case k4 => assumption); (case k5 => rfl); k_whole); intro _ _ _) | ((show FaultUp _ _ _); k_dflt (refine ⟨_, _, _, _, _, _, _, _, _, rfl, (Frag.In.keeps (K := Mine.hd.heap_39 _) (by k_asm) (Fr.keep (by k_asm))) 60 _ rfl, News.get (by k_asm) (List.mem_cons_self ..), ?_⟩)) | ((show wpAny _ _ (exec (Stmt.For (Expr.Tuple _ _ _) (Expr.List _ _) _ [] _) _) _ _ _); refine Stop.of ?_) | ((show wpAny _ _ (noteFrame (Value.ref _) _) _ _ _); refine Stop.of ?_) | ((show wpAny _ _ (call (Value.ref 170) _) _ _ _); refine Stop.of ?_)) | walk1) | (leave1; walk_say "STEP leave1"; try dsimp only) | fail "no step"))
      refine Stop.go (caught_SO0 R FG B2 U XB TB D2 hT (by k_is) (by kts_isx) ?_)
      intro h3 g3 n3 hT3 F4 _ _ N5 B3 X3 T3 D3
      have hit2 : Heap.IsListIter h3 _ _ _ := ⟨oI, N5.get (List.mem_cons_self ..), hoIr⟩
      have N6 : News g3 L' h3 led := fun p hp => N5 p (List.mem_cons_of_mem _ (hled ▸ hp))
      have hl3 : Heap.IsList h3 _ _ := ⟨_, N6.get (by rw [hled]; exact List.mem_cons_self ..), rfl, _, rfl⟩
      clear F3 N4 R FG U N5
      (repeat' (first | (k_unfold; (try dsimp only)) | (k_end; kc_close) | (with_reducible first | (k_here; (show wpAny _ _ (call (Value.ref 60) _) _ _ _); (try k_fold); (k_dflt (refine' Ct.use (fault_ct _ _ _ _) ?k1 ?k2 ?k3 ?k4 ?k5 ?kK ?kd ?ku ?_; (case k1 => k_asm); (case k2 => k_asm); (case k3 => k_asm); (case k4 => k_asm); (case k5 => k_asm); (case kK => first | exact rfl | assumption); (case kd => ktr_room); (case ku => ktr_units))); (intro _ _ _ _ _ _ hp9; obtain ⟨_, _, _, _, hr9, hn9, _⟩ := hp9; subst hr9; subst hn9); (try dsimp only); (try k_fold)) | ((show wpAny _ _ (exec (Stmt.Raise (some _) none _) _) _ _ _); (with_reducible refine raise_fault rfl ?_)) | ((show wpAny _ _ (leaving _ (Value.ref _)) _ _ _); k_dflt (refine' leave_fault ?k1 ?k2 ?k3 ?k4 ?_ ?k5; (case k1 => assumption); (case k2 => k_asm); (case k3 => k_asm); (case k4 => assumption); (case k5 => rfl); k_whole); intro _ _ _) | ((show FaultUp _ _ _); k_dflt (refine ⟨_, _, _, _, _, _, _, _, _, rfl, (Frag.In.keeps (K := Mine.hd.heap_39 _) (by k_asm) (Fr.keep (by k_asm))) 60 _ rfl, News.get (by k_asm) (List.mem_cons_self ..), ?_⟩)) | ((show wpAny _ _ (exec (Stmt.For (Expr.Tuple _ _ _) (Expr.List _ _) _ [] _) _) _ _ _); refine Stop.of ?_) | ((show wpAny _ _ (noteFrame (Value.ref _) _) _ _ _); refine Stop.of ?_) | ((show wpAny _ _ (call (Value.ref 170) _) _ _ _); refine Stop.of ?_) | ((show wpAny _ _ (eval (Expr.Constant (Const.int _) _ _) _) _ _ _); refine flat_int ?_) | ((show wpAny _ _ (binaryOp Operator.Add (Value.int _ _) (Value.int _ _)) _ _ _); refine flat_add ?_) | ((show wpAny _ _ (binaryOp Operator.Sub (Value.int _ _) (Value.int _ _)) _ _ _); refine flat_sub ?_) | ((show wpAny _ _ (eval (Expr.BinOp _ _ _ _) _) _ _ _); k_fold; k_dflt walk1) | ((show wpAny _ _ (eval (Expr.Compare _ _ _ _) _) _ _ _); k_fold; k_dflt walk1)) | walk1 | (dsimp only; first | (with_reducible first | (k_here; (show wpAny _ _ (call (Value.ref 60) _) _ _ _); (try k_fold); (k_dflt (refine' Ct.use (fault_ct _ _ _ _) ?k1 ?k2 ?k3 ?k4 ?k5 ?kK ?kd ?ku ?_; (case k1 => k_asm); (case k2 => k_asm); (case k3 => k_asm); (case k4 => k_asm); (case k5 => k_asm); (case kK => first | exact rfl | assumption); (case kd => ktr_room); (case ku => ktr_units))); (intro _ _ _ _ _ _ hp9; obtain ⟨_, _, _, _, hr9, hn9, _⟩ := hp9; subst hr9; subst hn9); (try dsimp only); (try k_fold)) | ((show wpAny _ _ (exec (Stmt.Raise (some _) none _) _) _ _ _); (with_reducible refine raise_fault rfl ?_)) | ((show wpAny _ _ (leaving _ (Value.ref _)) _ _ _); k_dflt (refine' leave_fault ?k1 ?k2 ?k3 ?k4 ?_ ?k5; (case k1 => assumption); (case k2 => k_asm); (case k3 => k_asm); (case k4 => assumption); (case k5 => rfl); k_whole); intro _ _ _) | ((show FaultUp _ _ _); k_dflt (refine ⟨_, _, _, _, _, _, _, _, _, rfl, (Frag.In.keeps (K := Mine.hd.heap_39 _) (by k_asm) (Fr.keep (by k_asm))) 60 _ rfl, News.get (by k_asm) (List.mem_cons_self ..), ?_⟩)) | ((show wpAny _ _ (exec (Stmt.For (Expr.Tuple _ _ _) (Expr.List _ _) _ [] _) _) _ _ _); refine Stop.of ?_) | ((show wpAny _ _ (noteFrame (Value.ref _) _) _ _ _); refine Stop.of ?_) | ((show wpAny _ _ (call (Value.ref 170) _) _ _ _); refine Stop.of ?_)) | walk1) | (leave1; walk_say "STEP leave1"; try dsimp only) | fail "no step"))
      refine ⟨h3, _, rfl, ⟨g3, m3, ?_, hT3, by k_asm, by k_asm, B3, X3, T3, D3⟩, hit2, hl3⟩
      rw [hm3]
      dsimp only
      exact norm2 fun z h1 h2 => by simp only [if_neg h1, if_neg h2]
    · simp at hv
  · intro h tk hz1
    (try k_fold)
    obtain ⟨g'', m₁, ⟨vt, vo, rfl⟩, hT, F2, N2, B2, X2, T2, D2⟩ := hz1
    clear F1 N1
    (repeat' (first | (k_unfold; (try dsimp only)) | (k_end; kc_close) | (with_reducible first | (k_here; (show wpAny _ _ (call (Value.ref 60) _) _ _ _); (try k_fold); (k_dflt (refine' Ct.use (fault_ct _ _ _ _) ?k1 ?k2 ?k3 ?k4 ?k5 ?kK ?kd ?ku ?_; (case k1 => k_asm); (case k2 => k_asm); (case k3 => k_asm); (case k4 => k_asm); (case k5 => k_asm); (case kK => first | exact rfl | assumption); (case kd => ktr_room); (case ku => ktr_units))); (intro _ _ _ _ _ _ hp9; obtain ⟨_, _, _, _, hr9, hn9, _⟩ := hp9; subst hr9; subst hn9); (try dsimp only); (try k_fold)) | ((show wpAny _ _ (exec (Stmt.Raise (some _) none _) _) _ _ _); (with_reducible refine raise_fault rfl ?_)) | ((show wpAny _ _ (leaving _ (Value.ref _)) _ _ _); k_dflt (refine' leave_fault ?k1 ?k2 ?k3 ?k4 ?_ ?k5; (case k1 => assumption); (case k2 => k_asm); (case k3 => k_asm); (case k4 => assumption); (case k5 => rfl); k_whole); intro _ _ _) | ((show FaultUp _ _ _); k_dflt (refine ⟨_, _, _, _, _, _, _, _, _, rfl, (Frag.In.keeps (K := Mine.hd.heap_39 _) (by k_asm) (Fr.keep (by k_asm))) 60 _ rfl, News.get (by k_asm) (List.mem_cons_self ..), ?_⟩)) | ((show wpAny _ _ (exec (Stmt.For (Expr.Tuple _ _ _) (Expr.List _ _) _ [] _) _) _ _ _); refine Stop.of ?_) | ((show wpAny _ _ (noteFrame (Value.ref _) _) _ _ _); refine Stop.of ?_) | ((show wpAny _ _ (call (Value.ref 170) _) _ _ _); refine Stop.of ?_) | ((show wpAny _ _ (eval (Expr.Constant (Const.int _) _ _) _) _ _ _); refine flat_int ?_) | ((show wpAny _ _ (binaryOp Operator.Add (Value.int _ _) (Value.int _ _)) _ _ _); refine flat_add ?_) | ((show wpAny _ _ (binaryOp Operator.Sub (Value.int _ _) (Value.int _ _)) _ _ _); refine flat_sub ?_) | ((show wpAny _ _ (eval (Expr.BinOp _ _ _ _) _) _ _ _); k_fold; k_dflt walk1) | ((show wpAny _ _ (eval (Expr.Compare _ _ _ _) _) _ _ _); k_fold; k_dflt walk1)) | walk1 | (dsimp only; first | (with_reducible first | (k_here; (show wpAny _ _ (call (Value.ref 60) _) _ _ _); (try k_fold); (k_dflt (refine' Ct.use (fault_ct _ _ _ _) ?k1 ?k2 ?k3 ?k4 ?k5 ?kK ?kd ?ku ?_; (case k1 => k_asm); (case k2 => k_asm); (case k3 => k_asm); (case k4 => k_asm); (case k5 => k_asm); (case kK => first | exact rfl | assumption); (case kd => ktr_room); (case ku => ktr_units))); (intro _ _ _ _ _ _ hp9; obtain ⟨_, _, _, _, hr9, hn9, _⟩ := hp9; subst hr9; subst hn9); (try dsimp only); (try k_fold)) | ((show wpAny _ _ (exec (Stmt.Raise (some _) none _) _) _ _ _); (with_reducible refine raise_fault rfl ?_)) | ((show wpAny _ _ (leaving _ (Value.ref _)) _ _ _); k_dflt (refine' leave_fault ?k1 ?k2 ?k3 ?k4 ?_ ?k5; (case k1 => assumption); (case k2 => k_asm); (case k3 => k_asm); (case k4 => assumption); (case k5 => rfl); k_whole); intro _ _ _) | ((show FaultUp _ _ _); k_dflt (refine ⟨_, _, _, _, _, _, _, _, _, rfl, (Frag.In.keeps (K := Mine.hd.heap_39 _) (by k_asm) (Fr.keep (by k_asm))) 60 _ rfl, News.get (by k_asm) (List.mem_cons_self ..), ?_⟩)) | ((show wpAny _ _ (exec (Stmt.For (Expr.Tuple _ _ _) (Expr.List _ _) _ [] _) _) _ _ _); refine Stop.of ?_) | ((show wpAny _ _ (noteFrame (Value.ref _) _) _ _ _); refine Stop.of ?_) | ((show wpAny _ _ (call (Value.ref 170) _) _ _ _); refine Stop.of ?_)) | walk1) | (leave1; walk_say "STEP leave1"; try dsimp only) | fail "no step"))
    exact hret _ _ _ _ (by k_asm) (fun p hp => (by k_asm : News h₀ L _ led) p (by rw [hled]; exact List.mem_cons_of_mem _ (List.mem_cons_of_mem _ (List.mem_cons_of_mem _ hp)))) ⟨rfl, rfl⟩
end


/-- the pen's object: its draws told by a bound on its turn -/
def PenIs (Cl : Addr) (b : Nat) (o : Obj) : Prop := ∃ turn great t1 t2 k, o = listOf #[.ref Cl, .int turn t1, .int great t2] k ∧ 0 ≤ turn ∧ turn ≤ (b : Int) ∧ 0 ≤ great
def CellsIs (o : Obj) : Prop := ∃ cells cs k, o = listOf (List.toArray cells) k ∧ IntsAre cells cs ∧ cs.length ≤ 48
theorem pen_perm {P Cl : Addr} {oP oC : Obj} {pre post : List (Addr × Obj)} : (∀ p ∈ (P, oP) :: (Cl, oC) :: (pre ++ post), p ∈ pre ++ (P, oP) :: (Cl, oC) :: post) ∧ (∀ p ∈ pre ++ (P, oP) :: (Cl, oC) :: post, p ∈ (P, oP) :: (Cl, oC) :: (pre ++ post)) := by
  constructor <;> intro p hp <;> simp only [List.mem_append, List.mem_cons] at hp ⊢ <;> grind
theorem draw_pen (w : World) {P Cl : Addr} {b : Nat} {oP oC : Obj} {pre post : List (Addr × Obj)} (many : Int) (t3 : Tok) (hp : PenIs Cl b oP) (hc : CellsIs oC) (hb : b ≤ 10000) (hm : 1 ≤ many) (hm2 : many ≤ 100) (hPC : @Ne Nat P Cl) (hr : ∀ p ∈ pre ++ post, p.1 ≠ P) :
    Ct w 182 [.ref P, .int many t3] 2 128 (pre ++ (P, oP) :: (Cl, oC) :: post) (fun r news' => ∃ d t oP', r = .int d t ∧ 0 ≤ d ∧ d < many ∧ PenIs Cl (b + 1) oP' ∧ news' = pre ++ (P, oP') :: (Cl, oC) :: post) := by
  obtain ⟨turn, great, t1, t2, k, rfl, h0, h1, hg⟩ := hp
  obtain ⟨cells, cs', kc, rfl, hcs, hcl⟩ := hc
  refine (draw_ct w P Cl cells cs' k kc turn great many t1 t2 t3 (pre ++ post) hcs hcl h0 (by omega) hg hm hm2 hPC hr).perm pen_perm.1 ?_
  rintro r m1 ⟨d, t, turn', great', t1', t2', rfl, h2, h3, h4, h5, h6, rfl⟩
  exact ⟨_, pen_perm.2, d, t, _, rfl, h2, h3, ⟨turn', great', t1', t2', k, rfl, by omega, by omega, h6⟩, rfl⟩
theorem pick_bytes_pen (w : World) {P Cl : Addr} {b : Nat} {oP oC : Obj} {pre post : List (Addr × Obj)} (x : Array UInt8) (ks : List Int) (t3 : Tok) (hp : PenIs Cl b oP) (hc : CellsIs oC) (hb : b ≤ 10000) (hx : KBw.bInts x = ks) (hk1 : 1 ≤ ks.length) (hk2 : ks.length ≤ 100) (hPC : @Ne Nat P Cl) (hr : ∀ p ∈ pre ++ post, p.1 ≠ P) :
    Ct w 189 [.ref P, .bytes x t3] 4 160 (pre ++ (P, oP) :: (Cl, oC) :: post) (fun r news' => ∃ d t oP', r = .int d t ∧ d ∈ ks ∧ PenIs Cl (b + 1) oP' ∧ news' = pre ++ (P, oP') :: (Cl, oC) :: post) := by
  obtain ⟨turn, great, t1, t2, k, rfl, h0, h1, hg⟩ := hp
  obtain ⟨cells, cs', kc, rfl, hcs, hcl⟩ := hc
  refine (pick_bytes_ct w P Cl cells cs' k kc turn great t1 t2 t3 x ks (pre ++ post) hcs hcl h0 (by omega) hg hx hk1 hk2 hPC hr).perm pen_perm.1 ?_
  rintro r m1 ⟨d, t, turn', great', t1', t2', rfl, h2, h4, h5, h6, rfl⟩
  exact ⟨_, pen_perm.2, d, t, _, rfl, h2, ⟨turn', great', t1', t2', k, rfl, by omega, by omega, h6⟩, rfl⟩
theorem pick_list_pen (w : World) {P Cl M : Addr} {b km : Nat} {oP oC : Obj} {pre post : List (Addr × Obj)} (vs : Array Value) (hp : PenIs Cl b oP) (hc : CellsIs oC) (hb : b ≤ 10000) (hv1 : 1 ≤ vs.size) (hv2 : vs.size ≤ 100) (hM : (M, listOf vs km) ∈ pre ++ post) (hPC : @Ne Nat P Cl) (hr : ∀ p ∈ pre ++ post, p.1 ≠ P) :
    Ct w 189 [.ref P, .ref M] 4 160 (pre ++ (P, oP) :: (Cl, oC) :: post) (fun r news' => ∃ oP', r ∈ vs.toList ∧ PenIs Cl (b + 1) oP' ∧ news' = pre ++ (P, oP') :: (Cl, oC) :: post) := by
  obtain ⟨turn, great, t1, t2, k, rfl, h0, h1, hg⟩ := hp
  obtain ⟨cells, cs', kc, rfl, hcs, hcl⟩ := hc
  refine (pick_list_ct w P Cl M cells cs' vs k kc km turn great t1 t2 (pre ++ post) hcs hcl h0 (by omega) hg hv1 hv2 hM hPC hr).perm pen_perm.1 ?_
  rintro r m1 ⟨turn', great', t1', t2', h2, h4, h5, h6, rfl⟩
  exact ⟨_, pen_perm.2, _, h2, ⟨turn', great', t1', t2', k, rfl, by omega, by omega, h6⟩, rfl⟩
section
variable {M : Model} {A : Around} {E : Value → Shared → Prop} {s : Shared} {K : Frag} {h₀ : Heap} {L : Addr} {m mg mb : Str → Option Value} {p : Program} {loose : List Str} {env : Env} {x : Str} {pos : Pos} {v : Value} {Q : Value → Shared → Prop} {news : List (Addr × Obj)} {c : Addr} {o : Obj}
theorem nameE_L {mm : Str → Option Value} (hn : s.heap.Ns env.locals mm) (hv : mm x = some v) (h : Q v s) (hk : env.scope.kind = .function) (hx : env.kindOf x = some .local) (hd : (x == ("__debug__" : Str)) = false := by decide) :
    wpAny M A (eval (.Name x pos) env) Q E s := wpAny_Name (wpAny_loadName_local hk hx hn hv h) hd
theorem nameE_C (N : News h₀ L s.heap news) (hc : env.cells.lookup x = some c) (hm : (c, o) ∈ news) (hd : o.data = .cell (some v)) (h : Q v s) (hk : env.scope.kind = .function) (hx : env.kindOf x = some .cell) (hb : (x == ("__debug__" : Str)) = false := by decide) :
    wpAny M A (eval (.Name x pos) env) Q E s := wpAny_Name (wpAny_loadName_cell hk hx hc ⟨o, N.get hm, hd⟩ h) hb
theorem nameE_B (F : Fr h₀ L s.heap m) (X : K.In h₀) (T : TopRead p loose mg mb h₀) (e : nsIn K mainGlobals x = some none) (hv : bootBuiltins x = some v) (hn : x ≠ "__name__") (h : Q v s)
    (hg : env.globals = mainGlobals) (hg2 : env.builtins = builtinsNs) (hk : env.scope.kind = .function) (hx : env.kindOf x = some .globalImplicit) (hd : (x == ("__debug__" : Str)) = false := by decide) :
    wpAny M A (eval (.Name x pos) env) Q E s :=
  Calls.Name_function_global hk hx (Calls.loadGlobal_builtin (env := env) (by rw [hg]; exact T.g.keeps F.keep) (mg_none_of X T.g e) (by rw [hg2]; exact T.b.keeps F.keep) ((T.builtins x hn).trans hv) h) hd
end
local macro_rules | `(tactic| walk_at "eval ListComp") => `(tactic| refine Stop.of ?_)
local macro_rules | `(tactic| walk_at "exec Assign cons ListComp") => `(tactic| refine Stop.of ?_)
local macro_rules | `(tactic| walk_at "eval Name") => `(tactic| (k_here; (with_reducible show wpAny _ _ (eval (Expr.Name _ _) (compEnvC _ _ _ _)) _ _ _); (with_reducible rename Fr _ _ _ _ => kF); k_dflt (refine' nameG_K kF ?k1 ?k2 ?k3 ?_ ?k4 ?k5 ?k6 ?k7; (case k4 => rfl); (case k5 => rfl); (case k6 => rfl); (case k7 => decide); (case k1 => k_asm); (case k2 => k_asm); (case k3 => k_is); k_whole)))
local macro_rules | `(tactic| walk_at "eval Name") => `(tactic| (k_here; (with_reducible show wpAny _ _ (eval (Expr.Name _ _) (compEnvC _ _ _ _)) _ _ _); k_dflt (refine' nameE_C ?k1 ?k2 ?k3 ?k4 ?_ ?a ?b; (case a => rfl); (case b => rfl); (case k1 => k_asm); (case k2 => rfl); (case k3 => k_mem); (case k4 => assumption); k_whole)))
local macro_rules | `(tactic| walk_at "eval Name") => `(tactic| (k_here; (with_reducible show wpAny _ _ (eval (Expr.Name _ _) (compEnvC _ _ _ _)) _ _ _); k_dflt (refine' nameE_L ?k1 ?k2 ?_ ?a ?b; (case a => rfl); (case b => rfl); (case k1 => exact NsO.ns (by assumption) (News.get (by k_asm) (by k_mem))); (case k2 => assumption); k_whole)))


theorem PenIs.mono {Cl : Addr} {b b' : Nat} {o : Obj} (h : PenIs Cl b o) (hb : b ≤ b') : PenIs Cl b' o := by
  obtain ⟨turn, great, t1, t2, k, rfl, h0, h1, hg⟩ := h
  exact ⟨turn, great, t1, t2, k, rfl, h0, by omega, hg⟩
theorem ints_snoc {ys : Array Value} {l : List Int} {d : Int} {t : Tok} (h : IntsAre ys.toList l) : IntsAre (ys ++ [Value.int d t].toArray).toList (l ++ [d]) := by
  simpa using ints_push (t := t) (n := d) h
theorem off_swap {R : Addr → Prop} {P : Addr} {o1 o2 : Obj} {pre post : List (Addr × Obj)} (h : ∀ p ∈ pre ++ (P, o1) :: post, R p.1) : ∀ p ∈ pre ++ (P, o2) :: post, R p.1 := by
  intro p hp
  rcases List.mem_append.mp hp with hp | hp
  · exact h p (List.mem_append_left _ hp)
  · rcases List.mem_cons.mp hp with rfl | hp
    · exact h (P, o1) (List.mem_append_right _ (List.mem_cons_self ..))
    · exact h p (List.mem_append_right _ (List.mem_cons_of_mem _ hp))
theorem news_last {h₀ h : Heap} {L : Addr} {a : Addr × Obj} {l : List (Addr × Obj)} (N : News h₀ L h (l ++ [a])) : News h₀ L h (a :: l) := fun p hp => N p (by
  rcases List.mem_cons.mp hp with rfl | hp
  · exact List.mem_append_right _ (List.mem_singleton_self _)
  · exact List.mem_append_left _ hp)
theorem text_pen (w : World) {P Cl : Addr} {b : Nat} {oP oC : Obj} {pre post : List (Addr × Obj)} (x : Array UInt8) (ks : List Int) (most : Nat) (t2 t3 : Tok) (hp : PenIs Cl b oP) (hc : CellsIs oC) (hb : b + most ≤ 9000) (hx : KBw.bInts x = ks) (hk1 : 1 ≤ ks.length) (hk2 : ks.length ≤ 100) (hm : most ≤ 90) (hPC : @Ne Nat P Cl) (hr : ∀ p ∈ pre ++ post, p.1 ≠ P) :
    Ct w 194 [.ref P, .bytes x t2, .int most t3] 8 320 (pre ++ (P, oP) :: (Cl, oC) :: post) (fun r news' => ∃ y t oP', r = .bytes y t ∧ (∀ k ∈ KBw.bInts y, k ∈ ks) ∧ (KBw.bInts y).length ≤ most ∧ PenIs Cl (b + most + 1) oP' ∧ news' = pre ++ (P, oP') :: (Cl, oC) :: post) := by
  unfold Ct
  k_fill
  intro loose mean mg mb dp un gd cn cs a ccd cl outer A₀ base h₀ L m s Q E B F X N T hk hd hu hret
  refine wpAny_call ?_
  k_dflt (refine' code_defC (binds := [(Str.ofString "pen", .ref P), (Str.ofString "some", .bytes x t2), (Str.ofString "most", .int most t3)]) ?k1 ?k2 ?k3 ?k4 ?k5 ?kA ?kF ?kK ?k6 ?k7 ?k8 ?k9 ?kB ?kD ?_ ?c2 ?c3 ?c4; (case kA => exact rfl); (case kF => exact rfl); (case kK => assumption); (case k1 => k_asm); (case k2 => k_asm); (case k3 => k_asm); (case k4 => k_asm); (case k5 => k_asm); (case k6 => k_is); (case k7 => k_is); (case k8 => ktr_room); (case k9 => exact BindsTo.of_eq rfl); (case kB => exact rfl); (case kD => decide +kernel); (case c2 => exact rfl); (case c3 => exact rfl); (case c4 => exact rfl); k_whole)
  intro g' L' h' tk' cells' FG' F' N' Y' B' X' T' l1
  k_cells Y'
  (try simp only [List.cons_append, List.nil_append] at N')
  (try dsimp only)
  (try k_fold)
  rename_i oS oQ dS dQ
  have hPL : ∀ p ∈ pre ++ (P, oP) :: (Cl, oC) :: post, p.1 < L' := l1
  (repeat' (first | (k_unfold; (try dsimp only)) | (k_end; kc_close) | (with_reducible first | ((show wpAny _ _ (call (Value.ref 182) _) _ _ _); refine Stop.of ?_) | ((show wpAny _ _ (call (Value.ref 189) _) _ _ _); refine Stop.of ?_) | ((show wpAny _ _ (eval (Expr.Constant (Const.int _) _ _) _) _ _ _); refine flat_int ?_) | ((show wpAny _ _ (binaryOp Operator.Add (Value.int _ _) (Value.int _ _)) _ _ _); refine flat_add ?_) | ((show wpAny _ _ (binaryOp Operator.Sub (Value.int _ _) (Value.int _ _)) _ _ _); refine flat_sub ?_) | ((show wpAny _ _ (eval (Expr.BinOp _ _ _ _) _) _ _ _); k_fold; k_dflt walk1) | ((show wpAny _ _ (eval (Expr.Compare _ _ _ _) _) _ _ _); k_fold; k_dflt walk1)) | walk1 | (dsimp only; first | (with_reducible first | ((show wpAny _ _ (call (Value.ref 182) _) _ _ _); refine Stop.of ?_) | ((show wpAny _ _ (call (Value.ref 189) _) _ _ _); refine Stop.of ?_)) | walk1) | (leave1; walk_say "STEP leave1"; try dsimp only) | fail "no step"))
  refine Stop.go ?_
  (try k_fold)
  refine (eval_comp (h₀ := g') (L := L') (by with_unfolding_all rfl) (by decide) rfl (by decide) ?_)
  (repeat' (first | (k_unfold; (try dsimp only)) | (k_end; kc_close) | (with_reducible first | ((show wpAny _ _ (call (Value.ref 182) _) _ _ _); refine Stop.of ?_) | ((show wpAny _ _ (call (Value.ref 189) _) _ _ _); refine Stop.of ?_) | ((show wpAny _ _ (eval (Expr.Constant (Const.int _) _ _) _) _ _ _); refine flat_int ?_) | ((show wpAny _ _ (binaryOp Operator.Add (Value.int _ _) (Value.int _ _)) _ _ _); refine flat_add ?_) | ((show wpAny _ _ (binaryOp Operator.Sub (Value.int _ _) (Value.int _ _)) _ _ _); refine flat_sub ?_) | ((show wpAny _ _ (eval (Expr.BinOp _ _ _ _) _) _ _ _); k_fold; k_dflt walk1) | ((show wpAny _ _ (eval (Expr.Compare _ _ _ _) _) _ _ _); k_fold; k_dflt walk1)) | walk1 | (dsimp only; first | (with_reducible first | ((show wpAny _ _ (call (Value.ref 182) _) _ _ _); refine Stop.of ?_) | ((show wpAny _ _ (call (Value.ref 189) _) _ _ _); refine Stop.of ?_)) | walk1) | (leave1; walk_say "STEP leave1"; try dsimp only) | fail "no step"))
  rename Fr g' _ _ _ => F2
  rename News g' _ _ _ => N2
  have hr2 : ∀ p ∈ ([(L' + 1 + 1, oS), (L' + 1, oQ)] ++ pre) ++ post, p.1 ≠ P := by
    intro p hp
    rcases List.mem_append.mp hp with hp | hp
    · rcases List.mem_append.mp hp with hp | hp
      · have hPl : P < L' := hPL (P, oP) (by simp)
        rcases List.mem_cons.mp hp with rfl | hp
        · exact Nat.ne_of_gt (Nat.lt_succ_of_lt (Nat.lt_succ_of_lt hPl))
        · rw [List.mem_singleton.mp hp]; exact Nat.ne_of_gt (Nat.lt_succ_of_lt hPl)
      · exact hr p (List.mem_append_left _ hp)
    · exact hr p (List.mem_append_right _ hp)
  refine Stop.go ?_
  (try k_fold)
  refine (Ct.use (draw_pen (pre := [_, _] ++ pre) w _ _ hp hc (by omega) (by omega) (by omega) hPC hr2) (by k_asm) F2 (by k_asm) (by simpa using N2) (by k_asm) rfl (by ktr_room) (by ktr_units) ?_)
  intro r n3 h3 tk3 F3 N3 hz1
  (try k_fold)
  obtain ⟨d, t, oP', rfl, hd1, hd2, hp3, rfl⟩ := hz1
  clear F2 N2
  (repeat' (first | (k_unfold; (try dsimp only)) | (k_end; kc_close) | (with_reducible first | ((show wpAny _ _ (call (Value.ref 182) _) _ _ _); refine Stop.of ?_) | ((show wpAny _ _ (call (Value.ref 189) _) _ _ _); refine Stop.of ?_) | ((show wpAny _ _ (eval (Expr.Constant (Const.int _) _ _) _) _ _ _); refine flat_int ?_) | ((show wpAny _ _ (binaryOp Operator.Add (Value.int _ _) (Value.int _ _)) _ _ _); refine flat_add ?_) | ((show wpAny _ _ (binaryOp Operator.Sub (Value.int _ _) (Value.int _ _)) _ _ _); refine flat_sub ?_) | ((show wpAny _ _ (eval (Expr.BinOp _ _ _ _) _) _ _ _); k_fold; k_dflt walk1) | ((show wpAny _ _ (eval (Expr.Compare _ _ _ _) _) _ _ _); k_fold; k_dflt walk1)) | walk1 | (dsimp only; first | (with_reducible first | ((show wpAny _ _ (call (Value.ref 182) _) _ _ _); refine Stop.of ?_) | ((show wpAny _ _ (call (Value.ref 189) _) _ _ _); refine Stop.of ?_)) | walk1) | (leave1; walk_say "STEP leave1"; try dsimp only) | fail "no step"))
  obtain ⟨n, rfl⟩ := Int.eq_ofNat_of_zero_le hd1
  rename Fr g' _ _ _ => F4
  rename News g' _ _ _ => N4
  rename IsRange _ _ _ _ _ _ _ _ => hrg
  obtain ⟨c1, hc1⟩ : ∃ c1, c1 = [(L' + 1 + 1, oS), (L' + 1, oQ)] := ⟨_, rfl⟩
  rw [← hc1] at N4 hr2
  let J9 : Nat → Array Value → List (Addr × Obj) → Prop := (fun i ys nw => ∃ oP2 l, nw = c1 ++ pre ++ (P, oP2) :: (Cl, oC) :: post ∧ PenIs Cl (b + 1 + i) oP2 ∧ IntsAre ys.toList l ∧ l.length = i ∧ ∀ k ∈ l, k ∈ ks)
  refine Stop.go (compAt_range n J9
    rfl rfl rfl hrg (small_one (by decide) (by decide) (by omega) (by omega)) (range1_size _) (by omega) ?_ F4 N4 ⟨oP', [], rfl, hp3, .nil, rfl, by simp⟩ ?_ ?_)
  · rintro i ys nw ⟨_, l, _, _, hys, hl, _⟩
    rw [ints_size hys, hl]
    exact Nat.le_refl _
  · intro s₂ D C I i t4 ys k nw oC2 oI mC h tk E hz1 hi hz2 hoff hns hmC F5 N5 hlt hDC
    (try k_fold)
    obtain ⟨hh, rfl⟩ := hz1
    obtain ⟨oP2, l, rfl, hp4, hys, hl, hlk⟩ := hz2
    clear F4 N4
    rw [hc1] at N5 hoff hlt
    refine wpAny_pure ?_
    (try (k_unfold; (try dsimp only)))
    rw [if_pos rfl]
    (repeat' (first | (k_unfold; (try dsimp only)) | (k_end; kc_close) | (with_reducible first | ((show wpAny _ _ (call (Value.ref 182) _) _ _ _); refine Stop.of ?_) | ((show wpAny _ _ (call (Value.ref 189) _) _ _ _); refine Stop.of ?_) | ((show wpAny _ _ (eval (Expr.Constant (Const.int _) _ _) _) _ _ _); refine flat_int ?_) | ((show wpAny _ _ (binaryOp Operator.Add (Value.int _ _) (Value.int _ _)) _ _ _); refine flat_add ?_) | ((show wpAny _ _ (binaryOp Operator.Sub (Value.int _ _) (Value.int _ _)) _ _ _); refine flat_sub ?_) | ((show wpAny _ _ (eval (Expr.BinOp _ _ _ _) _) _ _ _); k_fold; k_dflt walk1) | ((show wpAny _ _ (eval (Expr.Compare _ _ _ _) _) _ _ _); k_fold; k_dflt walk1)) | walk1 | (dsimp only; first | (with_reducible first | ((show wpAny _ _ (call (Value.ref 182) _) _ _ _); refine Stop.of ?_) | ((show wpAny _ _ (call (Value.ref 189) _) _ _ _); refine Stop.of ?_)) | walk1) | (leave1; walk_say "STEP leave1"; try dsimp only) | fail "no step"))
    rename News g' _ _ _ => N5
    rename Fr g' _ _ _ => F5
    rw [← hc1] at N5 hoff
    refine Stop.go ?_
    (try k_fold)
    refine (Ct.use (pick_bytes_pen (pre := c1 ++ pre) (post := post ++ own3 D C I ys k oC2 oI) w x ks _ hp4 hc (by omega) hx hk1 hk2 hPC ?_) (by k_asm) F5 (by k_asm) (by simpa using N5) (by k_asm) rfl (by ktr_room) (by ktr_units) ?_)
    · intro p hp
      have hoP := hoff (P, oP2) (by simp)
      rcases List.mem_append.mp hp with hp | hp
      · exact hr2 p (List.mem_append_left _ hp)
      · rcases List.mem_append.mp hp with hp | hp
        · exact hr2 p (List.mem_append_right _ hp)
        · rcases List.mem_cons.mp hp with rfl | hp
          · exact Ne.symm hoP.1
          · rcases List.mem_cons.mp hp with rfl | hp
            · exact Ne.symm hoP.2.1
            · rw [List.mem_singleton.mp hp]; exact Ne.symm hoP.2.2
    intro r n5 h5 tk5 F6 N6 hz1
    (try k_fold)
    obtain ⟨d, t, oP3, rfl, hdk, hp5, rfl⟩ := hz1
    refine CompEnd.mk F6 (by simpa using N6) (off_swap (R := fun a => a ≠ D ∧ a ≠ C ∧ a ≠ I) hoff) ⟨oP3, l ++ [d], rfl, hp5, ints_snoc hys, by simp [hl], ?_⟩
    · intro k hk
      rcases List.mem_append.mp hk with hk | hk
      · exact hlk k hk
      · rw [List.mem_singleton.mp hk]; exact hdk
  · intro s₂ D C h tk ys k nw mC hz1 hCL hC0 hz2 hD hC hlt F5 N5 hns
    (try k_fold)
    obtain ⟨hh, rfl⟩ := hz1
    obtain ⟨oP2, l, rfl, hp4, hys, hl, hlk⟩ := hz2
    refine compPost_eval hCL hC0 hC F5 N5 hns fun h5 F6 N6 => ?_
    clear F5 N5 F4 N4
    have hsz : ys.size ≤ 100 := by rw [ints_size hys]; omega
    have hin : ∀ k ∈ l, 0 ≤ k ∧ k < 256 := fun k hk => KBw.ints_in (b := x) (hx ▸ hlk k hk)
    replace N6 := news_last N6
    (repeat' (first | (k_unfold; (try dsimp only)) | (k_end; kc_close) | (with_reducible first | ((show wpAny _ _ (call (Value.ref 182) _) _ _ _); refine Stop.of ?_) | ((show wpAny _ _ (call (Value.ref 189) _) _ _ _); refine Stop.of ?_) | ((show wpAny _ _ (eval (Expr.Constant (Const.int _) _ _) _) _ _ _); refine flat_int ?_) | ((show wpAny _ _ (binaryOp Operator.Add (Value.int _ _) (Value.int _ _)) _ _ _); refine flat_add ?_) | ((show wpAny _ _ (binaryOp Operator.Sub (Value.int _ _) (Value.int _ _)) _ _ _); refine flat_sub ?_) | ((show wpAny _ _ (eval (Expr.BinOp _ _ _ _) _) _ _ _); k_fold; k_dflt walk1) | ((show wpAny _ _ (eval (Expr.Compare _ _ _ _) _) _ _ _); k_fold; k_dflt walk1)) | walk1 | (dsimp only; first | (with_reducible first | ((show wpAny _ _ (call (Value.ref 182) _) _ _ _); refine Stop.of ?_) | ((show wpAny _ _ (call (Value.ref 189) _) _ _ _); refine Stop.of ?_)) | walk1) | (leave1; walk_say "STEP leave1"; try dsimp only) | fail "no step"))
    exact hret _ _ _ _ (by k_asm) (fun p hp => (by k_asm : News h₀ L _ ((D, listOf ys k) :: (c1 ++ pre ++ (P, oP2) :: (Cl, oC) :: post))) p (List.mem_cons_of_mem _ (by rw [List.append_assoc]; exact List.mem_append_right _ hp)))
      ⟨_, _, oP2, rfl, (by rw [KBa.ints_make hin]; exact hlk), (by rw [KBa.ints_make hin]; omega), hp4.mono (by omega), rfl⟩



theorem firstI_spec (ko : List Int) (c : Int) : (∃ i : Nat, firstI ko c = i ∧ ko[i]? = some c ∧ ∀ j < i, ko[j]? ≠ some c) ∨ (firstI ko c = -1 ∧ ∀ j : Nat, ko[j]? ≠ some c) := by
  unfold firstI
  cases h : ko.findIdx? (· == c) with
  | some i =>
    left
    rw [List.findIdx?_eq_some_iff_getElem] at h
    obtain ⟨hi, h1, h2⟩ := h
    refine ⟨i, rfl, by rw [List.getElem?_eq_getElem hi]; simpa using h1, fun j hj => ?_⟩
    rw [List.getElem?_eq_getElem (by omega)]
    simpa using h2 j hj
  | none =>
    right
    refine ⟨rfl, fun j hj => ?_⟩
    rw [List.findIdx?_eq_none_iff] at h
    have := h c (List.mem_of_getElem? hj)
    simp at this
theorem beginOf_stop {ko : List Int} {c : Int} {i : Nat} (hi : i ≤ ko.length) (hn : ∀ j < i, ko[j]? ≠ some c) (h : i = ko.length ∨ ko[i]? = some c) : min ((i : Int) + 1) ko.length = beginOf ko (some c) := by
  unfold beginOf
  dsimp only
  rcases firstI_spec ko c with ⟨f, e, h1, h2⟩ | ⟨e, h1⟩
  · rw [e]
    have hf : f < ko.length := (List.getElem?_eq_some_iff.mp h1).1
    rcases h with h | h
    · exact absurd h1 (hn f (by omega))
    · have : f = i := by
        rcases Nat.lt_trichotomy f i with a | a | a
        · exact absurd h1 (hn f a)
        · exact a
        · exact absurd h (h2 i a)
      subst this
      rw [if_neg (by omega)]
      omega
  · rw [e, if_pos (by decide)]
    rcases h with h | h
    · omega
    · exact absurd h (h1 i)
theorem endOf_in_take {ko : List Int} {c : Int} {e : Nat} (he : e ≤ ko.length) (hf : endOf ko (some c) ≤ (e : Int)) : c ∈ ko.take e ↔ endOf ko (some c) < (e : Int) := by
  unfold endOf at *
  dsimp only at *
  rcases firstI_spec ko c with ⟨f, e1, h1, h2⟩ | ⟨e1, h1⟩
  · have hz : ¬ firstI ko c < 0 := by omega
    rw [if_neg hz, e1] at hf ⊢
    constructor
    · intro hm
      obtain ⟨j, hj, hje⟩ := List.mem_iff_getElem.mp hm
      have hj2 : j < e := by simp at hj; omega
      by_cases hlt : f < j
      · omega
      · have : ko[j]? = some c := by rw [List.getElem?_eq_getElem (by omega)]; simpa using hje
        by_cases h3 : j < f
        · exact absurd this (h2 j h3)
        · omega
    · intro hlt
      have hfe : f < e := by omega
      have hfl : f < ko.length := by omega
      have : (ko.take e)[f]? = some c := by rw [List.getElem?_take_of_lt hfe]; exact h1
      exact List.mem_of_getElem? this
  · have hz : firstI ko c < 0 := by omega
    rw [if_pos hz] at hf ⊢
    constructor
    · intro hm
      obtain ⟨j, hj, hje⟩ := List.mem_iff_getElem.mp (List.mem_of_mem_take hm)
      exact absurd (by rw [List.getElem?_eq_getElem hj, hje]) (h1 j)
    · intro h; omega
theorem norm1v {x : Str} {m : Str → Option Value} {v : Value} (h : m x = some v) : m = fun y => if y = x then some v else m y := by
  funext y
  by_cases e : y = x
  · rw [if_pos e, e, h]
  · rw [if_neg e]
theorem slice_one {b x : Array UInt8} {ko : List Int} {i : Nat} {c : Int} (hk : KBw.bInts b = (ko.drop (min i ko.length)).take (clipAt ko.length ((i : Int) + 1) - min i ko.length)) (hx : KBw.bInts x = [c]) : (b.toList == x.toList) = decide (ko[i]? = some c) := by
  rw [bI_beq hk hx]
  have := take_one (ko := ko) (c := c) (i : Int) (by omega)
  rw [clipAt_nat, Int.toNat_natCast] at this
  exact this
theorem upd_end {x : Str} {m : Str → Option Value} {b : Option Value} {e : Nat} {t : Tok} (h : 0 < e) : (fun y => if y = x then some (Value.int ((e : Int) - 1) t) else if y = x then b else m y) = fun y => if y = x then some (Value.int ((e - 1 : Nat) : Int) t) else m y := by
  funext y
  by_cases hy : y = x
  · rw [if_pos hy, if_pos hy, show ((e - 1 : Nat) : Int) = (e : Int) - 1 by omega]
  · simp only [if_neg hy]
theorem upd_beg {x : Str} {m : Str → Option Value} {b : Option Value} {i : Nat} {t : Tok} : (fun y => if y = x then some (Value.int ((i : Int) + 1) t) else if y = x then b else m y) = fun y => if y = x then some (Value.int ((i + 1 : Nat) : Int) t) else m y := by
  funext y
  by_cases hy : y = x
  · rw [if_pos hy, if_pos hy]; rfl
  · simp only [if_neg hy]
theorem ends_drop {h₀ h : Heap} {L : Addr} {a z : Addr × Obj} {l : List (Addr × Obj)} (N : News h₀ L h (a :: z :: l)) : News h₀ L h (a :: l) := fun p hp => N p (by
  rcases List.mem_cons.mp hp with rfl | hp
  · exact List.mem_cons_self ..
  · exact List.mem_cons_of_mem _ (List.mem_cons_of_mem _ hp))
section
theorem ends_ct (w : World) (o : Array UInt8) (v1 v2 : Value) (ko : List Int) (cb ca : Option Int) (t1 : Tok) (news : List (Addr × Obj)) (ho : KBw.bInts o = ko) (hv1 : OptB v1 cb) (hv2 : OptB v2 ca) (hz : ko.length ≤ 1000) :
    Ct w 213 [.bytes o t1, v1, v2] 4 64 news (fun r news' => ∃ T u1 u2, r = .ref T ∧ news' = (T, tup2 (.int (beginOf ko ca) u1) (.int (endOf ko cb) u2)) :: news ∧ ∀ p ∈ news, p.1 < T) := by
  cases ca with
  | none =>
    obtain rfl : v2 = .none := hv2
    cases cb with
    | none =>
      obtain rfl : v1 = .none := hv1
      unfold Ct
      k_fill
      intro loose mean mg mb dp un gd cn cs a ccd cl outer A₀ base h₀ L m s Q E B F X N T hk hd hu hret
      refine wpAny_call ?_
      k_dflt (refine' code_def (binds := [(Str.ofString "octets", .bytes o t1), (Str.ofString "before", .none), (Str.ofString "after", .none)]) ?k1 ?k2 ?k3 ?k4 ?k5 ?kA ?kF ?kK ?k6 ?k7 ?k8 ?k9 ?kB ?_ ?c2 ?c3 ?c4 ?c5; (case kA => exact rfl); (case kF => exact rfl); (case kK => assumption); (case k1 => k_asm); (case k2 => k_asm); (case k3 => k_asm); (case k4 => k_asm); (case k5 => k_asm); (case k6 => k_is); (case k7 => k_is); (case k8 => ktr_room); (case k9 => exact BindsTo.of_eq rfl); (case c5 => decide); (case kB => exact locs rfl); (case c2 => exact rfl); (case c3 => exact rfl); (case c4 => exact rfl); k_whole)
      intro g' L' h' FG' F' N' B' X' T'
      dsimp only
      (try k_fold)
      (repeat' (first | (k_unfold; (try dsimp only)) | (k_end; kc_close) | (with_reducible first | ((show wpAny _ _ (storeName _ _ _) _ _ _); k_here; k_dflt (refine' flat_store ?F ?N ?_ ?a ?b; (case F => k_asm); (case N => k_asm); (case a => rfl); (case b => rfl); k_whole; intro _ _ _ _; (try k_sweep))) | (k_here; (show wpAny _ _ (compareOp CmpOp.In (Value.bytes _ _) (Value.bytes _ _)) _ _ _); (with_reducible rename Fr _ _ _ _ => F'); (with_reducible rename News _ _ _ _ => N'); (refine in_bytes_bytes rfl F' N' (by assumption) (by assumption) ?_); intro _ _ _ _) | ((show wpAny _ _ (exec (Stmt.While _ _ [] _) _) _ _ _); refine Stop.of ?_) | ((show wpAny _ _ (eval (Expr.Constant (Const.int _) _ _) _) _ _ _); refine flat_int ?_) | ((show wpAny _ _ (binaryOp Operator.Add (Value.int _ _) (Value.int _ _)) _ _ _); refine flat_add ?_) | ((show wpAny _ _ (binaryOp Operator.Sub (Value.int _ _) (Value.int _ _)) _ _ _); refine flat_sub ?_) | ((show wpAny _ _ (eval (Expr.BinOp _ _ _ _) _) _ _ _); k_fold; k_dflt walk1) | ((show wpAny _ _ (eval (Expr.Compare _ _ _ _) _) _ _ _); k_fold; k_dflt walk1)) | walk1 | (dsimp only; first | (with_reducible first | ((show wpAny _ _ (storeName _ _ _) _ _ _); k_here; k_dflt (refine' flat_store ?F ?N ?_ ?a ?b; (case F => k_asm); (case N => k_asm); (case a => rfl); (case b => rfl); k_whole; intro _ _ _ _; (try k_sweep))) | (k_here; (show wpAny _ _ (compareOp CmpOp.In (Value.bytes _ _) (Value.bytes _ _)) _ _ _); (with_reducible rename Fr _ _ _ _ => F'); (with_reducible rename News _ _ _ _ => N'); (refine in_bytes_bytes rfl F' N' (by assumption) (by assumption) ?_); intro _ _ _ _) | ((show wpAny _ _ (exec (Stmt.While _ _ [] _) _) _ _ _); refine Stop.of ?_)) | walk1) | (leave1; walk_say "STEP leave1"; try dsimp only) | fail "no step"))
      rename News h₀ _ _ _ => kN
      exact hret _ _ _ _ (by k_asm) (ends_drop kN) ⟨_, _, _, rfl, rfl, by first | assumption | exact lt_all (by assumption) | exact lt_all (And.right (by assumption))⟩

    | some cb =>
      obtain ⟨z, t3, rfl, hzz⟩ := hv1
      unfold Ct
      k_fill
      intro loose mean mg mb dp un gd cn cs a ccd cl outer A₀ base h₀ L m s Q E B F X N T hk hd hu hret
      refine wpAny_call ?_
      k_dflt (refine' code_def (binds := [(Str.ofString "octets", .bytes o t1), (Str.ofString "before", .bytes z t3), (Str.ofString "after", .none)]) ?k1 ?k2 ?k3 ?k4 ?k5 ?kA ?kF ?kK ?k6 ?k7 ?k8 ?k9 ?kB ?_ ?c2 ?c3 ?c4 ?c5; (case kA => exact rfl); (case kF => exact rfl); (case kK => assumption); (case k1 => k_asm); (case k2 => k_asm); (case k3 => k_asm); (case k4 => k_asm); (case k5 => k_asm); (case k6 => k_is); (case k7 => k_is); (case k8 => ktr_room); (case k9 => exact BindsTo.of_eq rfl); (case c5 => decide); (case kB => exact locs rfl); (case c2 => exact rfl); (case c3 => exact rfl); (case c4 => exact rfl); k_whole)
      intro g' L' h' FG' F' N' B' X' T'
      dsimp only
      (try k_fold)
      (repeat' (first | (k_unfold; (try dsimp only)) | (k_end; kc_close) | (with_reducible first | ((show wpAny _ _ (storeName _ _ _) _ _ _); k_here; k_dflt (refine' flat_store ?F ?N ?_ ?a ?b; (case F => k_asm); (case N => k_asm); (case a => rfl); (case b => rfl); k_whole; intro _ _ _ _; (try k_sweep))) | (k_here; (show wpAny _ _ (compareOp CmpOp.In (Value.bytes _ _) (Value.bytes _ _)) _ _ _); (with_reducible rename Fr _ _ _ _ => F'); (with_reducible rename News _ _ _ _ => N'); (refine in_bytes_bytes rfl F' N' (by assumption) (by assumption) ?_); intro _ _ _ _) | ((show wpAny _ _ (exec (Stmt.While _ _ [] _) _) _ _ _); refine Stop.of ?_) | ((show wpAny _ _ (eval (Expr.Constant (Const.int _) _ _) _) _ _ _); refine flat_int ?_) | ((show wpAny _ _ (binaryOp Operator.Add (Value.int _ _) (Value.int _ _)) _ _ _); refine flat_add ?_) | ((show wpAny _ _ (binaryOp Operator.Sub (Value.int _ _) (Value.int _ _)) _ _ _); refine flat_sub ?_) | ((show wpAny _ _ (eval (Expr.BinOp _ _ _ _) _) _ _ _); k_fold; k_dflt walk1) | ((show wpAny _ _ (eval (Expr.Compare _ _ _ _) _) _ _ _); k_fold; k_dflt walk1)) | walk1 | (dsimp only; first | (with_reducible first | ((show wpAny _ _ (storeName _ _ _) _ _ _); k_here; k_dflt (refine' flat_store ?F ?N ?_ ?a ?b; (case F => k_asm); (case N => k_asm); (case a => rfl); (case b => rfl); k_whole; intro _ _ _ _; (try k_sweep))) | (k_here; (show wpAny _ _ (compareOp CmpOp.In (Value.bytes _ _) (Value.bytes _ _)) _ _ _); (with_reducible rename Fr _ _ _ _ => F'); (with_reducible rename News _ _ _ _ => N'); (refine in_bytes_bytes rfl F' N' (by assumption) (by assumption) ?_); intro _ _ _ _) | ((show wpAny _ _ (exec (Stmt.While _ _ [] _) _) _ _ _); refine Stop.of ?_)) | walk1) | (leave1; walk_say "STEP leave1"; try dsimp only) | fail "no step"))
      rename Fr g' _ _ _ => F4
      rename News g' _ _ _ => N4
      replace N4 : News g' L' _ news := fun p hp => N4 p (List.mem_cons_of_mem _ hp)
      obtain ⟨m2, hm2, F4⟩ : ∃ m2, m2 = _ ∧ Fr g' L' _ m2 := ⟨_, rfl, F4⟩
      refine Stop.go ?_
      (try k_fold)
      let J9 : Nat → (Str → Option Value) → List (Addr × Obj) → Prop := (fun k m₁ news₁ => news = news₁ ∧ ∃ (te : Tok), k ≤ ko.length ∧ endOf ko (some cb) ≤ (k : Int) ∧ m₁ = fun y => if y = Str.ofString "end" then some (.int k te) else m2 y)
      refine (While_inv2 (n₀ := ko.length) J9
        F4 N4 ⟨rfl, _, Nat.le_refl _, (endOf_in ko (some cb)).2, norm1v (by rw [hm2]; rfl)⟩ ?_)
      intro e m₁ news₁ h₂ tk₂ F5 N5 hz1
      (try k_fold)
      obtain ⟨rfl, te, hel, hef, rfl⟩ := hz1
      clear F4 N4
      subst hm2
      dsimp only at F5
      (repeat' (first | (k_unfold; (try dsimp only)) | (k_end; kc_close) | (with_reducible first | ((show wpAny _ _ (storeName _ _ _) _ _ _); k_here; k_dflt (refine' flat_store ?F ?N ?_ ?a ?b; (case F => k_asm); (case N => k_asm); (case a => rfl); (case b => rfl); k_whole; intro _ _ _ _; (try k_sweep))) | (k_here; (show wpAny _ _ (compareOp CmpOp.In (Value.bytes _ _) (Value.bytes _ _)) _ _ _); (with_reducible rename Fr _ _ _ _ => F'); (with_reducible rename News _ _ _ _ => N'); (refine in_bytes_bytes rfl F' N' (by assumption) (by assumption) ?_); intro _ _ _ _) | ((show wpAny _ _ (exec (Stmt.While _ _ [] _) _) _ _ _); refine Stop.of ?_) | ((show wpAny _ _ (eval (Expr.Constant (Const.int _) _ _) _) _ _ _); refine flat_int ?_) | ((show wpAny _ _ (binaryOp Operator.Add (Value.int _ _) (Value.int _ _)) _ _ _); refine flat_add ?_) | ((show wpAny _ _ (binaryOp Operator.Sub (Value.int _ _) (Value.int _ _)) _ _ _); refine flat_sub ?_) | ((show wpAny _ _ (eval (Expr.BinOp _ _ _ _) _) _ _ _); k_fold; k_dflt walk1) | ((show wpAny _ _ (eval (Expr.Compare _ _ _ _) _) _ _ _); k_fold; k_dflt walk1)) | walk1 | (dsimp only; first | (with_reducible first | ((show wpAny _ _ (storeName _ _ _) _ _ _); k_here; k_dflt (refine' flat_store ?F ?N ?_ ?a ?b; (case F => k_asm); (case N => k_asm); (case a => rfl); (case b => rfl); k_whole; intro _ _ _ _; (try k_sweep))) | (k_here; (show wpAny _ _ (compareOp CmpOp.In (Value.bytes _ _) (Value.bytes _ _)) _ _ _); (with_reducible rename Fr _ _ _ _ => F'); (with_reducible rename News _ _ _ _ => N'); (refine in_bytes_bytes rfl F' N' (by assumption) (by assumption) ?_); intro _ _ _ _) | ((show wpAny _ _ (exec (Stmt.While _ _ [] _) _) _ _ _); refine Stop.of ?_)) | walk1) | (leave1; walk_say "STEP leave1"; try dsimp only) | fail "no step"))
      · rename cb ∈ _ => hb
        have hb2 := (endOf_in_take (ko := ko) (c := cb) (e := e) hel hef).mp (by rw [Nat.min_eq_left hel] at hb; exact hb)
        have h0e := (endOf_in ko (some cb)).1
        exact ws2_next (by k_asm) (by k_asm) (n' := e - 1) (by omega) ⟨rfl, _, by omega, by omega, upd_end (by omega)⟩
      · rename ¬ cb ∈ _ => hb
        have hb2 : ¬ endOf ko (some cb) < (e : Int) := fun h => hb (by rw [Nat.min_eq_left hel]; exact (endOf_in_take (ko := ko) (c := cb) (e := e) hel hef).mpr h)
        have hee : (e : Int) = endOf ko (some cb) := by omega
        rename News h₀ _ _ _ => kN
        rw [hee] at kN
        replace kN : News h₀ L _ ((_, tup2 (.int (beginOf ko none) _) (.int (endOf ko (some cb)) _)) :: news) := kN
        exact hret _ _ _ _ (by k_asm) kN ⟨_, _, _, rfl, rfl, by first | assumption | exact lt_all (by assumption) | exact lt_all (And.right (by assumption))⟩

  | some ca => 
    obtain ⟨x, t2, rfl, hx⟩ := hv2
    cases cb with
    | none =>
      obtain rfl : v1 = .none := hv1
      unfold Ct
      k_fill
      intro loose mean mg mb dp un gd cn cs a ccd cl outer A₀ base h₀ L m s Q E B F X N T hk hd hu hret
      refine wpAny_call ?_
      k_dflt (refine' code_def (binds := [(Str.ofString "octets", .bytes o t1), (Str.ofString "before", .none), (Str.ofString "after", .bytes x t2)]) ?k1 ?k2 ?k3 ?k4 ?k5 ?kA ?kF ?kK ?k6 ?k7 ?k8 ?k9 ?kB ?_ ?c2 ?c3 ?c4 ?c5; (case kA => exact rfl); (case kF => exact rfl); (case kK => assumption); (case k1 => k_asm); (case k2 => k_asm); (case k3 => k_asm); (case k4 => k_asm); (case k5 => k_asm); (case k6 => k_is); (case k7 => k_is); (case k8 => ktr_room); (case k9 => exact BindsTo.of_eq rfl); (case c5 => decide); (case kB => exact locs rfl); (case c2 => exact rfl); (case c3 => exact rfl); (case c4 => exact rfl); k_whole)
      intro g' L' h' FG' F' N' B' X' T'
      dsimp only
      (try k_fold)
      (repeat' (first | (k_unfold; (try dsimp only)) | (k_end; kc_close) | (with_reducible first | ((show wpAny _ _ (storeName _ _ _) _ _ _); k_here; k_dflt (refine' flat_store ?F ?N ?_ ?a ?b; (case F => k_asm); (case N => k_asm); (case a => rfl); (case b => rfl); k_whole; intro _ _ _ _; (try k_sweep))) | (k_here; (show wpAny _ _ (compareOp CmpOp.In (Value.bytes _ _) (Value.bytes _ _)) _ _ _); (with_reducible rename Fr _ _ _ _ => F'); (with_reducible rename News _ _ _ _ => N'); (refine in_bytes_bytes rfl F' N' (by assumption) (by assumption) ?_); intro _ _ _ _) | ((show wpAny _ _ (exec (Stmt.While _ _ [] _) _) _ _ _); refine Stop.of ?_) | ((show wpAny _ _ (eval (Expr.Constant (Const.int _) _ _) _) _ _ _); refine flat_int ?_) | ((show wpAny _ _ (binaryOp Operator.Add (Value.int _ _) (Value.int _ _)) _ _ _); refine flat_add ?_) | ((show wpAny _ _ (binaryOp Operator.Sub (Value.int _ _) (Value.int _ _)) _ _ _); refine flat_sub ?_) | ((show wpAny _ _ (eval (Expr.BinOp _ _ _ _) _) _ _ _); k_fold; k_dflt walk1) | ((show wpAny _ _ (eval (Expr.Compare _ _ _ _) _) _ _ _); k_fold; k_dflt walk1)) | walk1 | (dsimp only; first | (with_reducible first | ((show wpAny _ _ (storeName _ _ _) _ _ _); k_here; k_dflt (refine' flat_store ?F ?N ?_ ?a ?b; (case F => k_asm); (case N => k_asm); (case a => rfl); (case b => rfl); k_whole; intro _ _ _ _; (try k_sweep))) | (k_here; (show wpAny _ _ (compareOp CmpOp.In (Value.bytes _ _) (Value.bytes _ _)) _ _ _); (with_reducible rename Fr _ _ _ _ => F'); (with_reducible rename News _ _ _ _ => N'); (refine in_bytes_bytes rfl F' N' (by assumption) (by assumption) ?_); intro _ _ _ _) | ((show wpAny _ _ (exec (Stmt.While _ _ [] _) _) _ _ _); refine Stop.of ?_)) | walk1) | (leave1; walk_say "STEP leave1"; try dsimp only) | fail "no step"))
      rename Fr g' _ _ _ => F1
      rename News g' _ _ _ => N1
      replace N1 : News g' L' _ news := fun p hp => N1 p (List.mem_cons_of_mem _ hp)
      obtain ⟨m0, hm0, F1⟩ : ∃ m0, m0 = _ ∧ Fr g' L' _ m0 := ⟨_, rfl, F1⟩
      refine Stop.go ?_
      (try k_fold)
      let J9 : Nat → (Str → Option Value) → List (Addr × Obj) → Prop := (fun k m₁ news₁ => news = news₁ ∧ ∃ (i : Nat) (ti : Tok), k = ko.length - i ∧ i ≤ ko.length ∧ (∀ j < i, ko[j]? ≠ some ca) ∧ m₁ = fun y => if y = Str.ofString "begin" then some (.int i ti) else m0 y)
      refine (While_inv2 (n₀ := ko.length) J9
        F1 N1 ⟨rfl, 0, _, rfl, Nat.zero_le _, fun _ h => absurd h (Nat.not_lt_zero _), norm1v (by rw [hm0]; rfl)⟩ ?_)
      intro k m₁ news₁ h₁ tk₁ F2 N2 hz1
      (try k_fold)
      obtain ⟨rfl, i, ti, rfl, hi, hn, rfl⟩ := hz1
      clear F1 N1
      subst hm0
      dsimp only at F2
      (repeat' (first | (k_unfold; (try dsimp only)) | (k_end; kc_close) | (with_reducible first | ((show wpAny _ _ (storeName _ _ _) _ _ _); k_here; k_dflt (refine' flat_store ?F ?N ?_ ?a ?b; (case F => k_asm); (case N => k_asm); (case a => rfl); (case b => rfl); k_whole; intro _ _ _ _; (try k_sweep))) | (k_here; (show wpAny _ _ (compareOp CmpOp.In (Value.bytes _ _) (Value.bytes _ _)) _ _ _); (with_reducible rename Fr _ _ _ _ => F'); (with_reducible rename News _ _ _ _ => N'); (refine in_bytes_bytes rfl F' N' (by assumption) (by assumption) ?_); intro _ _ _ _) | ((show wpAny _ _ (exec (Stmt.While _ _ [] _) _) _ _ _); refine Stop.of ?_) | ((show wpAny _ _ (eval (Expr.Constant (Const.int _) _ _) _) _ _ _); refine flat_int ?_) | ((show wpAny _ _ (binaryOp Operator.Add (Value.int _ _) (Value.int _ _)) _ _ _); refine flat_add ?_) | ((show wpAny _ _ (binaryOp Operator.Sub (Value.int _ _) (Value.int _ _)) _ _ _); refine flat_sub ?_) | ((show wpAny _ _ (eval (Expr.BinOp _ _ _ _) _) _ _ _); k_fold; k_dflt walk1) | ((show wpAny _ _ (eval (Expr.Compare _ _ _ _) _) _ _ _); k_fold; k_dflt walk1)) | walk1 | (dsimp only; first | (with_reducible first | ((show wpAny _ _ (storeName _ _ _) _ _ _); k_here; k_dflt (refine' flat_store ?F ?N ?_ ?a ?b; (case F => k_asm); (case N => k_asm); (case a => rfl); (case b => rfl); k_whole; intro _ _ _ _; (try k_sweep))) | (k_here; (show wpAny _ _ (compareOp CmpOp.In (Value.bytes _ _) (Value.bytes _ _)) _ _ _); (with_reducible rename Fr _ _ _ _ => F'); (with_reducible rename News _ _ _ _ => N'); (refine in_bytes_bytes rfl F' N' (by assumption) (by assumption) ?_); intro _ _ _ _) | ((show wpAny _ _ (exec (Stmt.While _ _ [] _) _) _ _ _); refine Stop.of ?_)) | walk1) | (leave1; walk_say "STEP leave1"; try dsimp only) | fail "no step"))
      · rename _ = true => hb
        rw [bne, slice_one (by assumption) hx, Bool.not_eq_true', decide_eq_false_iff_not] at hb
        have hn2 : ∀ j < i + 1, ko[j]? ≠ some ca := fun j hj => by
          rcases Nat.lt_succ_iff_lt_or_eq.mp hj with h1 | h1
          · exact hn j h1
          · exact h1 ▸ hb
        exact ws2_next (by k_asm) (by k_asm) (n' := ko.length - (i + 1)) (by omega) ⟨rfl, i + 1, _, rfl, by omega, hn2, upd_beg⟩
      · rename _ = false => hb
        rw [bne, slice_one (by assumption) hx, Bool.not_eq_false', decide_eq_true_iff] at hb
        have he : (if (ko.length : Int) < (i : Int) + 1 then (ko.length : Int) else (i : Int) + 1) = beginOf ko (some ca) := by
          rw [← beginOf_stop hi hn (.inr hb)]; omega
        rename News h₀ _ _ _ => kN
        rw [he] at kN
        exact hret _ _ _ _ (by k_asm) kN ⟨_, _, _, rfl, rfl, by first | assumption | exact lt_all (by assumption) | exact lt_all (And.right (by assumption))⟩
      · have he : (if (ko.length : Int) < (i : Int) + 1 then (ko.length : Int) else (i : Int) + 1) = beginOf ko (some ca) := by
          rw [← beginOf_stop hi hn (.inl (by omega))]; omega
        rename News h₀ _ _ _ => kN
        rw [he] at kN
        exact hret _ _ _ _ (by k_asm) kN ⟨_, _, _, rfl, rfl, by first | assumption | exact lt_all (by assumption) | exact lt_all (And.right (by assumption))⟩

    | some cb =>
      obtain ⟨z, t3, rfl, hzz⟩ := hv1
      unfold Ct
      k_fill
      intro loose mean mg mb dp un gd cn cs a ccd cl outer A₀ base h₀ L m s Q E B F X N T hk hd hu hret
      refine wpAny_call ?_
      k_dflt (refine' code_def (binds := [(Str.ofString "octets", .bytes o t1), (Str.ofString "before", .bytes z t3), (Str.ofString "after", .bytes x t2)]) ?k1 ?k2 ?k3 ?k4 ?k5 ?kA ?kF ?kK ?k6 ?k7 ?k8 ?k9 ?kB ?_ ?c2 ?c3 ?c4 ?c5; (case kA => exact rfl); (case kF => exact rfl); (case kK => assumption); (case k1 => k_asm); (case k2 => k_asm); (case k3 => k_asm); (case k4 => k_asm); (case k5 => k_asm); (case k6 => k_is); (case k7 => k_is); (case k8 => ktr_room); (case k9 => exact BindsTo.of_eq rfl); (case c5 => decide); (case kB => exact locs rfl); (case c2 => exact rfl); (case c3 => exact rfl); (case c4 => exact rfl); k_whole)
      intro g' L' h' FG' F' N' B' X' T'
      dsimp only
      (try k_fold)
      (repeat' (first | (k_unfold; (try dsimp only)) | (k_end; kc_close) | (with_reducible first | ((show wpAny _ _ (storeName _ _ _) _ _ _); k_here; k_dflt (refine' flat_store ?F ?N ?_ ?a ?b; (case F => k_asm); (case N => k_asm); (case a => rfl); (case b => rfl); k_whole; intro _ _ _ _; (try k_sweep))) | (k_here; (show wpAny _ _ (compareOp CmpOp.In (Value.bytes _ _) (Value.bytes _ _)) _ _ _); (with_reducible rename Fr _ _ _ _ => F'); (with_reducible rename News _ _ _ _ => N'); (refine in_bytes_bytes rfl F' N' (by assumption) (by assumption) ?_); intro _ _ _ _) | ((show wpAny _ _ (exec (Stmt.While _ _ [] _) _) _ _ _); refine Stop.of ?_) | ((show wpAny _ _ (eval (Expr.Constant (Const.int _) _ _) _) _ _ _); refine flat_int ?_) | ((show wpAny _ _ (binaryOp Operator.Add (Value.int _ _) (Value.int _ _)) _ _ _); refine flat_add ?_) | ((show wpAny _ _ (binaryOp Operator.Sub (Value.int _ _) (Value.int _ _)) _ _ _); refine flat_sub ?_) | ((show wpAny _ _ (eval (Expr.BinOp _ _ _ _) _) _ _ _); k_fold; k_dflt walk1) | ((show wpAny _ _ (eval (Expr.Compare _ _ _ _) _) _ _ _); k_fold; k_dflt walk1)) | walk1 | (dsimp only; first | (with_reducible first | ((show wpAny _ _ (storeName _ _ _) _ _ _); k_here; k_dflt (refine' flat_store ?F ?N ?_ ?a ?b; (case F => k_asm); (case N => k_asm); (case a => rfl); (case b => rfl); k_whole; intro _ _ _ _; (try k_sweep))) | (k_here; (show wpAny _ _ (compareOp CmpOp.In (Value.bytes _ _) (Value.bytes _ _)) _ _ _); (with_reducible rename Fr _ _ _ _ => F'); (with_reducible rename News _ _ _ _ => N'); (refine in_bytes_bytes rfl F' N' (by assumption) (by assumption) ?_); intro _ _ _ _) | ((show wpAny _ _ (exec (Stmt.While _ _ [] _) _) _ _ _); refine Stop.of ?_)) | walk1) | (leave1; walk_say "STEP leave1"; try dsimp only) | fail "no step"))
      rename Fr g' _ _ _ => F1
      rename News g' _ _ _ => N1
      replace N1 : News g' L' _ news := fun p hp => N1 p (List.mem_cons_of_mem _ hp)
      obtain ⟨m0, hm0, F1⟩ : ∃ m0, m0 = _ ∧ Fr g' L' _ m0 := ⟨_, rfl, F1⟩
      refine Stop.go ?_
      (try k_fold)
      let J9 : Nat → (Str → Option Value) → List (Addr × Obj) → Prop := (fun k m₁ news₁ => news = news₁ ∧ ∃ (i : Nat) (ti : Tok), k = ko.length - i ∧ i ≤ ko.length ∧ (∀ j < i, ko[j]? ≠ some ca) ∧ m₁ = fun y => if y = Str.ofString "begin" then some (.int i ti) else m0 y)
      refine (While_inv2 (n₀ := ko.length) J9
        F1 N1 ⟨rfl, 0, _, rfl, Nat.zero_le _, fun _ h => absurd h (Nat.not_lt_zero _), norm1v (by rw [hm0]; rfl)⟩ ?_)
      intro k m₁ news₁ h₁ tk₁ F2 N2 hz1
      (try k_fold)
      obtain ⟨rfl, i, ti, rfl, hi, hn, rfl⟩ := hz1
      clear F1 N1
      subst hm0
      dsimp only at F2
      (repeat' (first | (k_unfold; (try dsimp only)) | (k_end; kc_close) | (with_reducible first | ((show wpAny _ _ (storeName _ _ _) _ _ _); k_here; k_dflt (refine' flat_store ?F ?N ?_ ?a ?b; (case F => k_asm); (case N => k_asm); (case a => rfl); (case b => rfl); k_whole; intro _ _ _ _; (try k_sweep))) | (k_here; (show wpAny _ _ (compareOp CmpOp.In (Value.bytes _ _) (Value.bytes _ _)) _ _ _); (with_reducible rename Fr _ _ _ _ => F'); (with_reducible rename News _ _ _ _ => N'); (refine in_bytes_bytes rfl F' N' (by assumption) (by assumption) ?_); intro _ _ _ _) | ((show wpAny _ _ (exec (Stmt.While _ _ [] _) _) _ _ _); refine Stop.of ?_) | ((show wpAny _ _ (eval (Expr.Constant (Const.int _) _ _) _) _ _ _); refine flat_int ?_) | ((show wpAny _ _ (binaryOp Operator.Add (Value.int _ _) (Value.int _ _)) _ _ _); refine flat_add ?_) | ((show wpAny _ _ (binaryOp Operator.Sub (Value.int _ _) (Value.int _ _)) _ _ _); refine flat_sub ?_) | ((show wpAny _ _ (eval (Expr.BinOp _ _ _ _) _) _ _ _); k_fold; k_dflt walk1) | ((show wpAny _ _ (eval (Expr.Compare _ _ _ _) _) _ _ _); k_fold; k_dflt walk1)) | walk1 | (dsimp only; first | (with_reducible first | ((show wpAny _ _ (storeName _ _ _) _ _ _); k_here; k_dflt (refine' flat_store ?F ?N ?_ ?a ?b; (case F => k_asm); (case N => k_asm); (case a => rfl); (case b => rfl); k_whole; intro _ _ _ _; (try k_sweep))) | (k_here; (show wpAny _ _ (compareOp CmpOp.In (Value.bytes _ _) (Value.bytes _ _)) _ _ _); (with_reducible rename Fr _ _ _ _ => F'); (with_reducible rename News _ _ _ _ => N'); (refine in_bytes_bytes rfl F' N' (by assumption) (by assumption) ?_); intro _ _ _ _) | ((show wpAny _ _ (exec (Stmt.While _ _ [] _) _) _ _ _); refine Stop.of ?_)) | walk1) | (leave1; walk_say "STEP leave1"; try dsimp only) | fail "no step"))
      · rename _ = true => hb
        rw [bne, slice_one (by assumption) hx, Bool.not_eq_true', decide_eq_false_iff_not] at hb
        have hn2 : ∀ j < i + 1, ko[j]? ≠ some ca := fun j hj => by
          rcases Nat.lt_succ_iff_lt_or_eq.mp hj with h1 | h1
          · exact hn j h1
          · exact h1 ▸ hb
        exact ws2_next (by k_asm) (by k_asm) (n' := ko.length - (i + 1)) (by omega) ⟨rfl, i + 1, _, rfl, by omega, hn2, upd_beg⟩
      · rename _ = false => hb
        rw [bne, slice_one (by assumption) hx, Bool.not_eq_false', decide_eq_true_iff] at hb
        have he : (if (ko.length : Int) < (i : Int) + 1 then (ko.length : Int) else (i : Int) + 1) = beginOf ko (some ca) := by
          rw [← beginOf_stop hi hn (.inr hb)]; omega
        rename Fr g' _ _ _ => F4
        rename News g' _ _ _ => N4
        rw [he] at F4
        obtain ⟨m2, hm2, F4⟩ : ∃ m2, m2 = _ ∧ Fr g' L' _ m2 := ⟨_, rfl, F4⟩
        refine Stop.go ?_
        (try k_fold)
        let J9 : Nat → (Str → Option Value) → List (Addr × Obj) → Prop := (fun k m₁ news₁ => news = news₁ ∧ ∃ (te : Tok), k ≤ ko.length ∧ endOf ko (some cb) ≤ (k : Int) ∧ m₁ = fun y => if y = Str.ofString "end" then some (.int k te) else m2 y)
        refine (While_inv2 (n₀ := ko.length) J9
          F4 N4 ⟨rfl, _, Nat.le_refl _, (endOf_in ko (some cb)).2, norm1v (by rw [hm2]; rfl)⟩ ?_)
        intro e m₁ news₁ h₂ tk₂ F5 N5 hz1
        (try k_fold)
        obtain ⟨rfl, te, hel, hef, rfl⟩ := hz1
        clear F4 N4
        subst hm2
        dsimp only at F5
        (repeat' (first | (k_unfold; (try dsimp only)) | (k_end; kc_close) | (with_reducible first | ((show wpAny _ _ (storeName _ _ _) _ _ _); k_here; k_dflt (refine' flat_store ?F ?N ?_ ?a ?b; (case F => k_asm); (case N => k_asm); (case a => rfl); (case b => rfl); k_whole; intro _ _ _ _; (try k_sweep))) | (k_here; (show wpAny _ _ (compareOp CmpOp.In (Value.bytes _ _) (Value.bytes _ _)) _ _ _); (with_reducible rename Fr _ _ _ _ => F'); (with_reducible rename News _ _ _ _ => N'); (refine in_bytes_bytes rfl F' N' (by assumption) (by assumption) ?_); intro _ _ _ _) | ((show wpAny _ _ (exec (Stmt.While _ _ [] _) _) _ _ _); refine Stop.of ?_) | ((show wpAny _ _ (eval (Expr.Constant (Const.int _) _ _) _) _ _ _); refine flat_int ?_) | ((show wpAny _ _ (binaryOp Operator.Add (Value.int _ _) (Value.int _ _)) _ _ _); refine flat_add ?_) | ((show wpAny _ _ (binaryOp Operator.Sub (Value.int _ _) (Value.int _ _)) _ _ _); refine flat_sub ?_) | ((show wpAny _ _ (eval (Expr.BinOp _ _ _ _) _) _ _ _); k_fold; k_dflt walk1) | ((show wpAny _ _ (eval (Expr.Compare _ _ _ _) _) _ _ _); k_fold; k_dflt walk1)) | walk1 | (dsimp only; first | (with_reducible first | ((show wpAny _ _ (storeName _ _ _) _ _ _); k_here; k_dflt (refine' flat_store ?F ?N ?_ ?a ?b; (case F => k_asm); (case N => k_asm); (case a => rfl); (case b => rfl); k_whole; intro _ _ _ _; (try k_sweep))) | (k_here; (show wpAny _ _ (compareOp CmpOp.In (Value.bytes _ _) (Value.bytes _ _)) _ _ _); (with_reducible rename Fr _ _ _ _ => F'); (with_reducible rename News _ _ _ _ => N'); (refine in_bytes_bytes rfl F' N' (by assumption) (by assumption) ?_); intro _ _ _ _) | ((show wpAny _ _ (exec (Stmt.While _ _ [] _) _) _ _ _); refine Stop.of ?_)) | walk1) | (leave1; walk_say "STEP leave1"; try dsimp only) | fail "no step"))
        · rename cb ∈ _ => hb
          have hb2 := (endOf_in_take (ko := ko) (c := cb) (e := e) hel hef).mp (by rw [Nat.min_eq_left hel] at hb; exact hb)
          have h0e := (endOf_in ko (some cb)).1
          exact ws2_next (by k_asm) (by k_asm) (n' := e - 1) (by omega) ⟨rfl, _, by omega, by omega, upd_end (by omega)⟩
        · rename ¬ cb ∈ _ => hb
          have hb2 : ¬ endOf ko (some cb) < (e : Int) := fun h => hb (by rw [Nat.min_eq_left hel]; exact (endOf_in_take (ko := ko) (c := cb) (e := e) hel hef).mpr h)
          have hee : (e : Int) = endOf ko (some cb) := by omega
          rename News h₀ _ _ _ => kN
          rw [hee] at kN
          exact hret _ _ _ _ (by k_asm) kN ⟨_, _, _, rfl, rfl, by first | assumption | exact lt_all (by assumption) | exact lt_all (And.right (by assumption))⟩
      · have he : (if (ko.length : Int) < (i : Int) + 1 then (ko.length : Int) else (i : Int) + 1) = beginOf ko (some ca) := by
          rw [← beginOf_stop hi hn (.inl (by omega))]; omega
        rename Fr g' _ _ _ => F4
        rename News g' _ _ _ => N4
        rw [he] at F4
        obtain ⟨m2, hm2, F4⟩ : ∃ m2, m2 = _ ∧ Fr g' L' _ m2 := ⟨_, rfl, F4⟩
        refine Stop.go ?_
        (try k_fold)
        let J9 : Nat → (Str → Option Value) → List (Addr × Obj) → Prop := (fun k m₁ news₁ => news = news₁ ∧ ∃ (te : Tok), k ≤ ko.length ∧ endOf ko (some cb) ≤ (k : Int) ∧ m₁ = fun y => if y = Str.ofString "end" then some (.int k te) else m2 y)
        refine (While_inv2 (n₀ := ko.length) J9
          F4 N4 ⟨rfl, _, Nat.le_refl _, (endOf_in ko (some cb)).2, norm1v (by rw [hm2]; rfl)⟩ ?_)
        intro e m₁ news₁ h₂ tk₂ F5 N5 hz1
        (try k_fold)
        obtain ⟨rfl, te, hel, hef, rfl⟩ := hz1
        clear F4 N4
        subst hm2
        dsimp only at F5
        (repeat' (first | (k_unfold; (try dsimp only)) | (k_end; kc_close) | (with_reducible first | ((show wpAny _ _ (storeName _ _ _) _ _ _); k_here; k_dflt (refine' flat_store ?F ?N ?_ ?a ?b; (case F => k_asm); (case N => k_asm); (case a => rfl); (case b => rfl); k_whole; intro _ _ _ _; (try k_sweep))) | (k_here; (show wpAny _ _ (compareOp CmpOp.In (Value.bytes _ _) (Value.bytes _ _)) _ _ _); (with_reducible rename Fr _ _ _ _ => F'); (with_reducible rename News _ _ _ _ => N'); (refine in_bytes_bytes rfl F' N' (by assumption) (by assumption) ?_); intro _ _ _ _) | ((show wpAny _ _ (exec (Stmt.While _ _ [] _) _) _ _ _); refine Stop.of ?_) | ((show wpAny _ _ (eval (Expr.Constant (Const.int _) _ _) _) _ _ _); refine flat_int ?_) | ((show wpAny _ _ (binaryOp Operator.Add (Value.int _ _) (Value.int _ _)) _ _ _); refine flat_add ?_) | ((show wpAny _ _ (binaryOp Operator.Sub (Value.int _ _) (Value.int _ _)) _ _ _); refine flat_sub ?_) | ((show wpAny _ _ (eval (Expr.BinOp _ _ _ _) _) _ _ _); k_fold; k_dflt walk1) | ((show wpAny _ _ (eval (Expr.Compare _ _ _ _) _) _ _ _); k_fold; k_dflt walk1)) | walk1 | (dsimp only; first | (with_reducible first | ((show wpAny _ _ (storeName _ _ _) _ _ _); k_here; k_dflt (refine' flat_store ?F ?N ?_ ?a ?b; (case F => k_asm); (case N => k_asm); (case a => rfl); (case b => rfl); k_whole; intro _ _ _ _; (try k_sweep))) | (k_here; (show wpAny _ _ (compareOp CmpOp.In (Value.bytes _ _) (Value.bytes _ _)) _ _ _); (with_reducible rename Fr _ _ _ _ => F'); (with_reducible rename News _ _ _ _ => N'); (refine in_bytes_bytes rfl F' N' (by assumption) (by assumption) ?_); intro _ _ _ _) | ((show wpAny _ _ (exec (Stmt.While _ _ [] _) _) _ _ _); refine Stop.of ?_)) | walk1) | (leave1; walk_say "STEP leave1"; try dsimp only) | fail "no step"))
        · rename cb ∈ _ => hb
          have hb2 := (endOf_in_take (ko := ko) (c := cb) (e := e) hel hef).mp (by rw [Nat.min_eq_left hel] at hb; exact hb)
          have h0e := (endOf_in ko (some cb)).1
          exact ws2_next (by k_asm) (by k_asm) (n' := e - 1) (by omega) ⟨rfl, _, by omega, by omega, upd_end (by omega)⟩
        · rename ¬ cb ∈ _ => hb
          have hb2 : ¬ endOf ko (some cb) < (e : Int) := fun h => hb (by rw [Nat.min_eq_left hel]; exact (endOf_in_take (ko := ko) (c := cb) (e := e) hel hef).mpr h)
          have hee : (e : Int) = endOf ko (some cb) := by omega
          rename News h₀ _ _ _ => kN
          rw [hee] at kN
          exact hret _ _ _ _ (by k_asm) kN ⟨_, _, _, rfl, rfl, by first | assumption | exact lt_all (by assumption) | exact lt_all (And.right (by assumption))⟩

end



theorem ints_mem {ws : List Value} {l : List Int} (h : IntsAre ws l) {v : Value} (hm : v ∈ ws) : ∃ k t, v = .int k t ∧ k ∈ l := by
  induction h with
  | nil => cases hm
  | cons a t _ ih =>
    rcases List.mem_cons.mp hm with rfl | hm
    · exact ⟨_, _, rfl, List.mem_cons_self ..⟩
    · obtain ⟨k, t, h1, h2⟩ := ih hm
      exact ⟨k, t, h1, List.mem_cons_of_mem _ h2⟩
theorem pen_walk (w : World) (S : Addr) (vs : List Value) (ns : List Int) (hn : IntsAre vs ns) (hl : ns.length ≤ 63) {loose : List Str} {mean : ExcName → Option Value} {mg mb : Str → Option Value} {dp un : Nat} {gd : Option (List Code)} {cn : Str} {cs : Scope} {a : Addr} {ccd : Value} {cl : List (Str × Addr)} {outer : List Env} {A₀ : Around} {base h₀ : Heap} {L : Addr} {m : Str → Option Value} {news : List (Addr × Obj)} {s : Shared} {Q E : Value → Shared → Prop}
    (hS : h₀.IsList S vs.toArray) (B : Below A₀ base outer h₀) (F : Fr h₀ L s.heap m) (X : (Mine.hd.heap_39 w.params).In h₀) (N : News h₀ L s.heap news) (T : Top Mine.hd.view_39 loose mean mg mb h₀) (hk : cs.kind = .function) (hd : dp + 4 < recursionLimit) (hu : un + 64 < cLine)
    (hret : ∀ P Cl oP oC h' tk', Fr h₀ L h' m → News h₀ L h' ((P, oP) :: (Cl, oC) :: news) → (∀ p ∈ news, p.1 < Cl) → @LT.lt Nat _ Cl P → PenIs Cl 0 oP → CellsIs oC → Q (.ref P) { s with heap := h', toks := tk' }) :
    wpAny (model PySem.Challenge.rw_og0078_01.row.prog w) (ktrTop dp un gd cn cs L a ccd cl outer) (call (.ref 175) [.ref S]) Q E s := by
  revert B F X N T
  k_fill
  intro B F X N T
  refine wpAny_call ?_
  k_dflt (refine' code_def (binds := [(Str.ofString "script", .ref S)]) ?k1 ?k2 ?k3 ?k4 ?k5 ?kA ?kF ?kK ?k6 ?k7 ?k8 ?k9 ?kB ?_ ?c2 ?c3 ?c4 ?c5; (case kA => exact rfl); (case kF => exact rfl); (case kK => assumption); (case k1 => k_asm); (case k2 => k_asm); (case k3 => k_asm); (case k4 => k_asm); (case k5 => k_asm); (case k6 => k_is); (case k7 => k_is); (case k8 => ktr_room); (case k9 => exact BindsTo.of_eq rfl); (case c5 => decide); (case kB => exact locs rfl); (case c2 => exact rfl); (case c3 => exact rfl); (case c4 => exact rfl); k_whole)
  intro g' L' h' FG' F' N' B' X' T'
  dsimp only
  (try k_fold)
  have hS' : g'.IsList S vs.toArray := hS.at fun o e => FG'.keep _ o e
  (repeat' (first | (k_unfold; (try dsimp only)) | (k_end; kc_close) | (with_reducible first | (k_here; (show wpAny _ _ (eval (Expr.Name _ _) (compEnvC _ _ _ _)) _ _ _); k_dflt (refine' nameE_B ?k1 ?k2 ?k3 ?k4 ?k5 ?k6 ?_ ?a ?b ?c ?d; (case a => rfl); (case b => rfl); (case c => rfl); (case d => rfl); (case k1 => k_asm); (case k2 => k_asm); (case k3 => k_asm); (case k4 => k_is); (case k5 => boot_by_name); (case k6 => decide); k_whole)) | ((show wpAny _ _ (eval (Expr.Constant (Const.int _) _ _) _) _ _ _); refine flat_int ?_) | ((show wpAny _ _ (binaryOp Operator.Add (Value.int _ _) (Value.int _ _)) _ _ _); refine flat_add ?_) | ((show wpAny _ _ (binaryOp Operator.Sub (Value.int _ _) (Value.int _ _)) _ _ _); refine flat_sub ?_) | ((show wpAny _ _ (eval (Expr.BinOp _ _ _ _) _) _ _ _); k_fold; k_dflt walk1) | ((show wpAny _ _ (eval (Expr.Compare _ _ _ _) _) _ _ _); k_fold; k_dflt walk1)) | walk1 | (dsimp only; first | (with_reducible first | (k_here; (show wpAny _ _ (eval (Expr.Name _ _) (compEnvC _ _ _ _)) _ _ _); k_dflt (refine' nameE_B ?k1 ?k2 ?k3 ?k4 ?k5 ?k6 ?_ ?a ?b ?c ?d; (case a => rfl); (case b => rfl); (case c => rfl); (case d => rfl); (case k1 => k_asm); (case k2 => k_asm); (case k3 => k_asm); (case k4 => k_is); (case k5 => boot_by_name); (case k6 => decide); k_whole))) | walk1) | (leave1; walk_say "STEP leave1"; try dsimp only) | fail "no step"))
  refine Stop.go ?_
  (try k_fold)
  refine (eval_comp (h₀ := g') (L := L') (by with_unfolding_all rfl) (by decide) rfl (by decide) ?_)
  (repeat' (first | (k_unfold; (try dsimp only)) | (k_end; kc_close) | (with_reducible first | (k_here; (show wpAny _ _ (eval (Expr.Name _ _) (compEnvC _ _ _ _)) _ _ _); k_dflt (refine' nameE_B ?k1 ?k2 ?k3 ?k4 ?k5 ?k6 ?_ ?a ?b ?c ?d; (case a => rfl); (case b => rfl); (case c => rfl); (case d => rfl); (case k1 => k_asm); (case k2 => k_asm); (case k3 => k_asm); (case k4 => k_is); (case k5 => boot_by_name); (case k6 => decide); k_whole)) | ((show wpAny _ _ (eval (Expr.Constant (Const.int _) _ _) _) _ _ _); refine flat_int ?_) | ((show wpAny _ _ (binaryOp Operator.Add (Value.int _ _) (Value.int _ _)) _ _ _); refine flat_add ?_) | ((show wpAny _ _ (binaryOp Operator.Sub (Value.int _ _) (Value.int _ _)) _ _ _); refine flat_sub ?_) | ((show wpAny _ _ (eval (Expr.BinOp _ _ _ _) _) _ _ _); k_fold; k_dflt walk1) | ((show wpAny _ _ (eval (Expr.Compare _ _ _ _) _) _ _ _); k_fold; k_dflt walk1)) | walk1 | (dsimp only; first | (with_reducible first | (k_here; (show wpAny _ _ (eval (Expr.Name _ _) (compEnvC _ _ _ _)) _ _ _); k_dflt (refine' nameE_B ?k1 ?k2 ?k3 ?k4 ?k5 ?k6 ?_ ?a ?b ?c ?d; (case a => rfl); (case b => rfl); (case c => rfl); (case d => rfl); (case k1 => k_asm); (case k2 => k_asm); (case k3 => k_asm); (case k4 => k_is); (case k5 => boot_by_name); (case k6 => decide); k_whole))) | walk1) | (leave1; walk_say "STEP leave1"; try dsimp only) | fail "no step"))
  rename Fr g' _ _ _ => F2
  rename News g' _ _ _ => N2
  rename IntsAre _ (List.take 48 ns) => hI2
  rename ∀ p ∈ news, _ => hlD
  rename Addr => D2
  rename List Value => ws
  have hIl := hI2.length
  let J9 : Nat → Array Value → List (Addr × Obj) → Prop := (fun i ys nw => nw = (D2, listOf ws.toArray 0) :: news ∧ ∃ l, IntsAre ys.toList l ∧ l.length = i)
  refine Stop.go (compAt_list [(D2, listOf ws.toArray 0)] J9 rfl (List.mem_singleton_self _) rfl rfl (asg_name (by rfl) rfl) ?_ (by simp; omega) ?_ F2 N2 ⟨rfl, [], .nil, rfl⟩ ?_ ?_)
  · rintro i ys nw h ⟨rfl, _⟩ Nh _ p hp
    rw [List.mem_singleton.mp hp]
    exact Nh.get (List.mem_cons_self ..)
  · rintro i ys nw ⟨_, l, hys, hl⟩
    rw [ints_size hys, hl]
    exact Nat.le_refl _
  · intro s₂ D C I i v ys k nw oC2 oI mC h tk E hz1 hv hz2 hoff hns hmC F5 N5 hlt hDC
    (try k_fold)
    obtain ⟨hh, rfl⟩ := hz1
    obtain ⟨rfl, l, hys, hl⟩ := hz2
    clear F2 N2
    obtain ⟨kc, tc, rfl⟩ : ∃ kc tc, v = .int kc tc := by
      have hv2 : ws[i]? = some v := by simpa using hv
      obtain ⟨kc, tc, h1, _⟩ := ints_mem hI2 (List.mem_of_getElem? hv2)
      exact ⟨kc, tc, h1⟩
    refine wpAny_pure ?_
    (try (k_unfold; (try dsimp only)))
    rw [if_pos rfl]
    (repeat' (first | (k_unfold; (try dsimp only)) | (k_end; kc_close) | (with_reducible first | (k_here; (show wpAny _ _ (eval (Expr.Name _ _) (compEnvC _ _ _ _)) _ _ _); k_dflt (refine' nameE_B ?k1 ?k2 ?k3 ?k4 ?k5 ?k6 ?_ ?a ?b ?c ?d; (case a => rfl); (case b => rfl); (case c => rfl); (case d => rfl); (case k1 => k_asm); (case k2 => k_asm); (case k3 => k_asm); (case k4 => k_is); (case k5 => boot_by_name); (case k6 => decide); k_whole)) | ((show wpAny _ _ (eval (Expr.Constant (Const.int _) _ _) _) _ _ _); refine flat_int ?_) | ((show wpAny _ _ (binaryOp Operator.Add (Value.int _ _) (Value.int _ _)) _ _ _); refine flat_add ?_) | ((show wpAny _ _ (binaryOp Operator.Sub (Value.int _ _) (Value.int _ _)) _ _ _); refine flat_sub ?_) | ((show wpAny _ _ (eval (Expr.BinOp _ _ _ _) _) _ _ _); k_fold; k_dflt walk1) | ((show wpAny _ _ (eval (Expr.Compare _ _ _ _) _) _ _ _); k_fold; k_dflt walk1)) | walk1 | (dsimp only; first | (with_reducible first | (k_here; (show wpAny _ _ (eval (Expr.Name _ _) (compEnvC _ _ _ _)) _ _ _); k_dflt (refine' nameE_B ?k1 ?k2 ?k3 ?k4 ?k5 ?k6 ?_ ?a ?b ?c ?d; (case a => rfl); (case b => rfl); (case c => rfl); (case d => rfl); (case k1 => k_asm); (case k2 => k_asm); (case k3 => k_asm); (case k4 => k_is); (case k5 => boot_by_name); (case k6 => decide); k_whole))) | walk1) | (leave1; walk_say "STEP leave1"; try dsimp only) | fail "no step"))
    exact CompEnd.mk (by k_asm) (by k_asm) hoff ⟨rfl, l ++ [kc], ints_snoc hys, by simp [hl]⟩
  · intro s₂ D C h tk ys k nw mC hz1 hCL hC0 hz2 hD hC hlt F5 N5 hns
    (try k_fold)
    obtain ⟨hh, rfl⟩ := hz1
    obtain ⟨rfl, l, hys, hl⟩ := hz2
    refine compPost_eval hCL hC0 hC F5 N5 hns fun h5 F6 N6 => ?_
    clear F5 N5 F2 N2
    have hsz : ys.size ≤ 48 := by rw [ints_size hys]; simp at hl; omega
    replace N6 := news_last N6
    (repeat' (first | (k_unfold; (try dsimp only)) | (k_end; kc_close) | (with_reducible first | (k_here; (show wpAny _ _ (eval (Expr.Name _ _) (compEnvC _ _ _ _)) _ _ _); k_dflt (refine' nameE_B ?k1 ?k2 ?k3 ?k4 ?k5 ?k6 ?_ ?a ?b ?c ?d; (case a => rfl); (case b => rfl); (case c => rfl); (case d => rfl); (case k1 => k_asm); (case k2 => k_asm); (case k3 => k_asm); (case k4 => k_is); (case k5 => boot_by_name); (case k6 => decide); k_whole)) | ((show wpAny _ _ (eval (Expr.Constant (Const.int _) _ _) _) _ _ _); refine flat_int ?_) | ((show wpAny _ _ (binaryOp Operator.Add (Value.int _ _) (Value.int _ _)) _ _ _); refine flat_add ?_) | ((show wpAny _ _ (binaryOp Operator.Sub (Value.int _ _) (Value.int _ _)) _ _ _); refine flat_sub ?_) | ((show wpAny _ _ (eval (Expr.BinOp _ _ _ _) _) _ _ _); k_fold; k_dflt walk1) | ((show wpAny _ _ (eval (Expr.Compare _ _ _ _) _) _ _ _); k_fold; k_dflt walk1)) | walk1 | (dsimp only; first | (with_reducible first | (k_here; (show wpAny _ _ (eval (Expr.Name _ _) (compEnvC _ _ _ _)) _ _ _); k_dflt (refine' nameE_B ?k1 ?k2 ?k3 ?k4 ?k5 ?k6 ?_ ?a ?b ?c ?d; (case a => rfl); (case b => rfl); (case c => rfl); (case d => rfl); (case k1 => k_asm); (case k2 => k_asm); (case k3 => k_asm); (case k4 => k_is); (case k5 => boot_by_name); (case k6 => decide); k_whole))) | walk1) | (leave1; walk_say "STEP leave1"; try dsimp only) | fail "no step"))
    rename Addr => P
    rename News h₀ _ _ _ => kN
    have hDP := And.left (by assumption : D < P ∧ _)
    obtain ⟨oP, ⟨t1, t2, hoP⟩, kN⟩ : ∃ oP, (∃ t1 t2, oP = listOf #[.ref D, .int 0 t1, .int 0 t2] 0) ∧ News h₀ L _ ((P, oP) :: (D, listOf ys k) :: (D2, listOf ws.toArray 0) :: news) := ⟨_, ⟨_, _, rfl⟩, kN⟩
    refine hret P D oP (listOf ys k) _ _ (by k_asm) (fun p hp => kN p ?_) (fun p hp => hlt p (List.mem_cons_of_mem _ hp)) hDP ⟨0, 0, t1, t2, 0, hoP, by omega, by omega, by omega⟩ ⟨ys.toList, l, k, rfl, hys, ?_⟩
    · rcases List.mem_cons.mp hp with rfl | hp
      · exact List.mem_cons_self ..
      · rcases List.mem_cons.mp hp with rfl | hp
        · exact List.mem_cons_of_mem _ (List.mem_cons_self ..)
        · exact List.mem_cons_of_mem _ (List.mem_cons_of_mem _ (List.mem_cons_of_mem _ hp))
    · simp at hl
      omega



/-- a written case: its row's tuple, and that converting makes the octets it gives -/
inductive CaseRow (led : List (Addr × Obj)) (v : Value) : Prop
  | mk (T : Addr) (o x g r : Array UInt8) (v1 v2 : Value) (t1 t2 t3 t4 : Tok) (ko kw kg : List Int) (cb ca : Option Int) (h0 : v = .ref T) (h1 : (T, ({ cls := .type "tuple", data := .seq #[.bytes o t1, .bytes x t2, .bytes g t3, v1, v2, .bytes r t4] } : Obj)) ∈ led)
    (h2 : KBw.bInts o = ko) (h3 : KBw.bInts x = kw) (h4 : KBw.bInts g = kg) (h5 : OptB v1 cb) (h6 : OptB v2 ca) (h7 : ko.length ≤ 1000) (h8 : kw.length ≤ 1000) (h9 : kw.length = kg.length) (h10 : KBw.bInts r = convI ko kw kg (beginOf ko ca) (endOf ko cb)) : CaseRow led v
theorem flat_bytes {M : Model} {A : Around} {env : Env} {x : List UInt8} {k pos} {hp : Heap} {g : Array GenState} {d : Drawn} {tk : Nat} {o : OsState} {E : Value → Shared → Prop} {Q : Value → Shared → Prop} (h : ∀ t k', Q (.bytes x.toArray t) ⟨hp, g, d, k', o⟩) : wpAny M A (eval (.Constant (.bytes x) k pos) env) Q E ⟨hp, g, d, tk, o⟩ := Constant_bytes (h _ _)
theorem cases_ct (w : World) (news : List (Addr × Obj)) :
    Ct w 201 [] 3 64 news (fun r news' => ∃ R rows k, r = .ref R ∧ (R, listOf rows k) ∈ news' ∧ rows.size ≤ 20 ∧ (∀ p ∈ news, p ∈ news') ∧ ∀ v ∈ rows.toList, CaseRow news' v) := by
  unfold Ct
  k_fill
  intro loose mean mg mb dp un gd cn cs a ccd cl outer A₀ base h₀ L m s Q E B F X N T hk hd hu hret
  refine wpAny_call ?_
  k_dflt (refine' code_def (binds := []) ?k1 ?k2 ?k3 ?k4 ?k5 ?kA ?kF ?kK ?k6 ?k7 ?k8 ?k9 ?kB ?_ ?c2 ?c3 ?c4 ?c5; (case kA => exact rfl); (case kF => exact rfl); (case kK => assumption); (case k1 => k_asm); (case k2 => k_asm); (case k3 => k_asm); (case k4 => k_asm); (case k5 => k_asm); (case k6 => k_is); (case k7 => k_is); (case k8 => ktr_room); (case k9 => exact BindsTo.of_eq rfl); (case c5 => decide); (case kB => exact locs rfl); (case c2 => exact rfl); (case c3 => exact rfl); (case c4 => exact rfl); k_whole)
  intro g' L' h' FG' F' N' B' X' T'
  dsimp only
  (try k_fold)
  (repeat' (first | (k_unfold; (try dsimp only)) | (k_end; kc_close) | (with_reducible first | ((show wpAny _ _ (eval (Expr.Constant (Const.bytes _) _ _) _) _ _ _); refine flat_bytes ?_; intro _ _) | ((show wpAny _ _ (eval (Expr.Tuple _ _ _) _) _ _ _); k_fold; k_dflt walk1) | ((show wpAny _ _ (eval (Expr.List _ _) _) _ _ _); k_fold; k_dflt walk1) | ((show wpAny _ _ (eval (Expr.Constant (Const.int _) _ _) _) _ _ _); refine flat_int ?_) | ((show wpAny _ _ (binaryOp Operator.Add (Value.int _ _) (Value.int _ _)) _ _ _); refine flat_add ?_) | ((show wpAny _ _ (binaryOp Operator.Sub (Value.int _ _) (Value.int _ _)) _ _ _); refine flat_sub ?_) | ((show wpAny _ _ (eval (Expr.BinOp _ _ _ _) _) _ _ _); k_fold; k_dflt walk1) | ((show wpAny _ _ (eval (Expr.Compare _ _ _ _) _) _ _ _); k_fold; k_dflt walk1)) | walk1 | (dsimp only; first | (with_reducible first | ((show wpAny _ _ (eval (Expr.Constant (Const.bytes _) _ _) _) _ _ _); refine flat_bytes ?_; intro _ _) | ((show wpAny _ _ (eval (Expr.Tuple _ _ _) _) _ _ _); k_fold; k_dflt walk1) | ((show wpAny _ _ (eval (Expr.List _ _) _) _ _ _); k_fold; k_dflt walk1)) | walk1) | (leave1; walk_say "STEP leave1"; try dsimp only) | fail "no step"))
  rename News h₀ _ _ _ => kN
  refine hret _ _ _ _ (by k_asm) kN ⟨_, _, _, rfl, List.mem_cons_self .., by simp, fun p hp => by simp [hp], ?_⟩
  intro v hv
  simp only [List.mem_cons, List.not_mem_nil, or_false] at hv
  rcases hv with rfl | rfl | rfl | rfl | rfl | rfl | rfl | rfl | rfl <;>
    exact ⟨_, _, _, _, _, _, _, _, _, _, _, _, _, _, _, _, rfl, by k_mem, rfl, rfl, rfl, by first | exact OptB.none | exact OptB.some rfl, by first | exact OptB.none | exact OptB.some rfl, by decide, by decide, by decide, by decide⟩



theorem convI_full {ko kw kg : List Int} : convI ko kw kg (beginOf ko none) (endOf ko none) = ko.map (conv1 kw kg) := by
  unfold convI
  apply List.ext_getElem
  · simp
  · intro i h1 h2
    simp only [List.getElem_mapIdx, List.getElem_map]
    rw [if_pos]
    simp at h2
    exact ⟨by simp [beginOf], by simp [endOf]; omega⟩
theorem map_id_of {ko : List Int} {f g : Int → Int} (h : ∀ k, g (f k) = k) : (ko.map f).map g = ko := by
  rw [List.map_map]
  conv => rhs; rw [← List.map_id ko]
  exact List.map_congr_left fun k _ => h k
theorem conv1_out {kw kg : List Int} {k : Int} (h : k ∉ kw) : conv1 kw kg k = k := by unfold conv1; rw [if_neg h]
noncomputable abbrev abcd : List Int := [97, 98, 99, 100]
noncomputable def rot (n : Nat) : List Int := abcd.drop n ++ abcd.take n
theorem rot_back {n : Nat} (hn : n < 4) (k : Int) : conv1 (rot n) abcd (conv1 abcd (rot n) k) = k ∧ conv1 abcd (rot (4 - n)) (conv1 abcd (rot n) k) = k := by
  by_cases hk : k ∈ abcd
  · have : n = 0 ∨ n = 1 ∨ n = 2 ∨ n = 3 := by omega
    simp only [abcd, List.mem_cons, List.not_mem_nil, or_false] at hk
    rcases this with rfl | rfl | rfl | rfl <;> rcases hk with rfl | rfl | rfl | rfl <;> decide
  · have hr : k ∉ rot n := fun h => hk ((List.mem_append.mp h).elim List.mem_of_mem_drop List.mem_of_mem_take)
    rw [conv1_out hk, conv1_out hr, conv1_out hk]
    exact ⟨rfl, rfl⟩
theorem rot_len {n : Nat} (hn : n ≤ 4) : (rot n).length = 4 := by
  have : n = 0 ∨ n = 1 ∨ n = 2 ∨ n = 3 ∨ n = 4 := by omega
  rcases this with rfl | rfl | rfl | rfl | rfl <;> rfl
theorem rot_slice {n : Nat} (hn : n ≤ 4) : List.take (abcd.length - min n abcd.length) (List.drop (min n abcd.length) abcd) ++ List.take (min n abcd.length) abcd = rot n := by
  have : n = 0 ∨ n = 1 ∨ n = 2 ∨ n = 3 ∨ n = 4 := by omega
  rcases this with rfl | rfl | rfl | rfl | rfl <;> rfl
theorem rot_slice2 {n : Nat} (hn : n < 4) : List.take (abcd.length - clipAt abcd.length (4 - (n : Int))) (List.drop (clipAt abcd.length (4 - (n : Int))) abcd) ++ List.take (clipAt abcd.length (4 - (n : Int))) abcd = rot (4 - n) := by
  rw [show (4 : Int) - (n : Int) = ((4 - n : Nat) : Int) by omega, clipAt_nat]
  exact rot_slice (by omega)
theorem ne_ints {b c : Array UInt8} {kb : List Int} (hb : KBw.bInts b = kb) (hc : KBw.bInts c = kb) : (b.toList != c.toList) = false := by
  rw [bne, bI_beq hb hc]; simp
theorem eq_ints {b c : Array UInt8} {kb : List Int} (hb : KBw.bInts b = kb) (hc : KBw.bInts c = kb) : (b.toList == c.toList) = true := by
  rw [bI_beq hb hc]; simp
section
theorem back_ct (w : World) (o : Array UInt8) (ko : List Int) (n : Nat) (t1 t2 : Tok) (news : List (Addr × Obj)) (ho : KBw.bInts o = ko) (hz : ko.length ≤ 500) (hn : n < 4) :
    Ct w 232 [.bytes o t1, .int n t2] 8 128 news (Pure news fun r => r = .bool true) := by
  unfold Ct
  k_fill
  intro loose mean mg mb dp un gd cn cs a ccd cl outer A₀ base h₀ L m s Q E B F X N T hk hd hu hret
  refine wpAny_call ?_
  k_dflt (refine' code_def (binds := [(Str.ofString "octets", .bytes o t1), (Str.ofString "turn", .int n t2)]) ?k1 ?k2 ?k3 ?k4 ?k5 ?kA ?kF ?kK ?k6 ?k7 ?k8 ?k9 ?kB ?_ ?c2 ?c3 ?c4 ?c5; (case kA => exact rfl); (case kF => exact rfl); (case kK => assumption); (case k1 => k_asm); (case k2 => k_asm); (case k3 => k_asm); (case k4 => k_asm); (case k5 => k_asm); (case k6 => k_is); (case k7 => k_is); (case k8 => ktr_room); (case k9 => exact BindsTo.of_eq rfl); (case c5 => decide); (case kB => exact locs rfl); (case c2 => exact rfl); (case c3 => exact rfl); (case c4 => exact rfl); k_whole)
  intro g' L' h' FG' F' N' B' X' T'
  dsimp only
  (try k_fold)
  have hrow : KBw.bInts #[97, 98, 99, 100] = abcd := rfl
  (repeat' (first | (k_unfold; (try dsimp only)) | (k_end; kc_close) | (with_reducible first | ((show wpAny _ _ (call (Value.ref 170) _) _ _ _); refine Stop.of ?_) | ((show wpAny _ _ (eval (Expr.Constant (Const.int _) _ _) _) _ _ _); refine flat_int ?_) | ((show wpAny _ _ (binaryOp Operator.Add (Value.int _ _) (Value.int _ _)) _ _ _); refine flat_add ?_) | ((show wpAny _ _ (binaryOp Operator.Sub (Value.int _ _) (Value.int _ _)) _ _ _); refine flat_sub ?_) | ((show wpAny _ _ (eval (Expr.BinOp _ _ _ _) _) _ _ _); k_fold; k_dflt walk1) | ((show wpAny _ _ (eval (Expr.Compare _ _ _ _) _) _ _ _); k_fold; k_dflt walk1)) | walk1 | (dsimp only; first | (with_reducible first | ((show wpAny _ _ (call (Value.ref 170) _) _ _ _); refine Stop.of ?_)) | walk1) | (leave1; walk_say "STEP leave1"; try dsimp only) | fail "no step"))
  rename KBw.bInts _ = _ ++ _ => hgv
  have hgv2 := hgv.trans (rot_slice (by omega))
  clear hgv
  have hrl : (rot n).length = 4 := rot_len (by omega)
  refine Stop.go ?_
  (try k_fold)
  refine (Ct.use (converted_ct w o _ _ .none .none ko abcd (rot n) none none t1 _ _ news ho hrow hgv2 OptB.none OptB.none (by omega) (by decide) hrl.symm) (by k_asm) (by k_asm) (by k_asm) (by k_asm) (by k_asm) rfl (by ktr_room) (by ktr_units) ?_)
  intro r n9 h9 tk9 F9 N9 hz1
  (try k_fold)
  obtain ⟨rfl, b9, t9, rfl, hb9⟩ := hz1
  rw [convI_full] at hb9
  have hb9l : (ko.map (conv1 abcd (rot n))).length = ko.length := by simp
  (repeat' (first | (k_unfold; (try dsimp only)) | (k_end; kc_close) | (with_reducible first | ((show wpAny _ _ (call (Value.ref 170) _) _ _ _); refine Stop.of ?_) | ((show wpAny _ _ (eval (Expr.Constant (Const.int _) _ _) _) _ _ _); refine flat_int ?_) | ((show wpAny _ _ (binaryOp Operator.Add (Value.int _ _) (Value.int _ _)) _ _ _); refine flat_add ?_) | ((show wpAny _ _ (binaryOp Operator.Sub (Value.int _ _) (Value.int _ _)) _ _ _); refine flat_sub ?_) | ((show wpAny _ _ (eval (Expr.BinOp _ _ _ _) _) _ _ _); k_fold; k_dflt walk1) | ((show wpAny _ _ (eval (Expr.Compare _ _ _ _) _) _ _ _); k_fold; k_dflt walk1)) | walk1 | (dsimp only; first | (with_reducible first | ((show wpAny _ _ (call (Value.ref 170) _) _ _ _); refine Stop.of ?_)) | walk1) | (leave1; walk_say "STEP leave1"; try dsimp only) | fail "no step"))
  refine Stop.go ?_
  (try k_fold)
  refine (Ct.use (converted_ct w b9 _ _ .none .none _ (rot n) abcd none none t9 _ _ news hb9 hgv2 hrow OptB.none OptB.none (by omega) (by omega) hrl) (by k_asm) (by k_asm) (by k_asm) (by k_asm) (by k_asm) rfl (by ktr_room) (by ktr_units) ?_)
  intro r n9 h9 tk9 F9 N9 hz1
  (try k_fold)
  obtain ⟨rfl, b10, t10, rfl, hb10⟩ := hz1
  rw [convI_full, map_id_of fun k => (rot_back hn k).1] at hb10
  (repeat' (first | (k_unfold; (try dsimp only)) | (k_end; kc_close) | (with_reducible first | ((show wpAny _ _ (call (Value.ref 170) _) _ _ _); refine Stop.of ?_) | ((show wpAny _ _ (eval (Expr.Constant (Const.int _) _ _) _) _ _ _); refine flat_int ?_) | ((show wpAny _ _ (binaryOp Operator.Add (Value.int _ _) (Value.int _ _)) _ _ _); refine flat_add ?_) | ((show wpAny _ _ (binaryOp Operator.Sub (Value.int _ _) (Value.int _ _)) _ _ _); refine flat_sub ?_) | ((show wpAny _ _ (eval (Expr.BinOp _ _ _ _) _) _ _ _); k_fold; k_dflt walk1) | ((show wpAny _ _ (eval (Expr.Compare _ _ _ _) _) _ _ _); k_fold; k_dflt walk1)) | walk1 | (dsimp only; first | (with_reducible first | ((show wpAny _ _ (call (Value.ref 170) _) _ _ _); refine Stop.of ?_)) | walk1) | (leave1; walk_say "STEP leave1"; try dsimp only) | fail "no step"))
  · rename _ = true => hb
    rw [ne_ints hb10 ho] at hb
    cases hb
  rename KBw.bInts _ = _ ++ _ => hgv3
  have hgv4 := hgv3.trans (rot_slice2 hn)
  clear hgv3
  have hrl4 : (rot (4 - n)).length = 4 := rot_len (by omega)
  refine Stop.go ?_
  (try k_fold)
  refine (Ct.use (converted_ct w b9 _ _ .none .none _ abcd (rot (4 - n)) none none t9 _ _ news hb9 hrow hgv4 OptB.none OptB.none (by omega) (by decide) hrl4.symm) (by k_asm) (by k_asm) (by k_asm) (by k_asm) (by k_asm) rfl (by ktr_room) (by ktr_units) ?_)
  intro r n9 h9 tk9 F9 N9 hz1
  (try k_fold)
  obtain ⟨rfl, b11, t11, rfl, hb11⟩ := hz1
  rw [convI_full, map_id_of fun k => (rot_back hn k).2] at hb11
  (repeat' (first | (k_unfold; (try dsimp only)) | (k_end; kc_close) | (with_reducible first | ((show wpAny _ _ (call (Value.ref 170) _) _ _ _); refine Stop.of ?_) | ((show wpAny _ _ (eval (Expr.Constant (Const.int _) _ _) _) _ _ _); refine flat_int ?_) | ((show wpAny _ _ (binaryOp Operator.Add (Value.int _ _) (Value.int _ _)) _ _ _); refine flat_add ?_) | ((show wpAny _ _ (binaryOp Operator.Sub (Value.int _ _) (Value.int _ _)) _ _ _); refine flat_sub ?_) | ((show wpAny _ _ (eval (Expr.BinOp _ _ _ _) _) _ _ _); k_fold; k_dflt walk1) | ((show wpAny _ _ (eval (Expr.Compare _ _ _ _) _) _ _ _); k_fold; k_dflt walk1)) | walk1 | (dsimp only; first | (with_reducible first | ((show wpAny _ _ (call (Value.ref 170) _) _ _ _); refine Stop.of ?_)) | walk1) | (leave1; walk_say "STEP leave1"; try dsimp only) | fail "no step"))
  refine hret _ _ _ _ (by k_asm) (by k_asm) ⟨rfl, ?_⟩
  rw [eq_ints hb11 ho]
end



section
open PySem.Spec
theorem valueAt_stored {kvs : List (Int × Value)} {k k' : Int} {v : Value} : valueAt (stored kvs k v) k' = if k' = k then some v else valueAt kvs k' := by
  unfold stored
  split
  · rename_i h
    unfold valueAt
    induction kvs with
    | nil => simp at h
    | cons a r ih =>
      by_cases ha : a.1 = k
      · by_cases hk : k' = k
        · subst hk; simp [ha]
        · have hne : ¬ a.1 = k' := fun e => hk (e.symm.trans ha)
          have hne2 : ¬ k = k' := fun e => hk e.symm
          simp only [List.map_cons, if_pos ha, List.find?_cons, hne, hk, if_false, decide_false]
          by_cases hr : (r.any fun kv => decide (kv.1 = k)) = true
          · have := ih hr
            rw [if_neg hk] at this
            exact this
          · have e : r.map (fun kv => if kv.1 = k then (kv.1, v) else kv) = r := by
              conv => rhs; rw [← List.map_id r]
              refine List.map_congr_left fun x hx => ?_
              rw [if_neg]; rfl
              intro e
              exact hr (List.any_eq_true.mpr ⟨x, hx, by simpa using e⟩)
            rw [e]
      · have hr : (r.any fun kv => decide (kv.1 = k)) = true := by simpa [ha] using h
        have := ih hr
        by_cases hak : a.1 = k'
        · have hk : ¬ k' = k := fun e => ha (hak.trans e)
          simp [ha, hak, hk]
        · simp only [List.map_cons, if_neg ha, List.find?_cons, hak, decide_false]
          exact this
  · rename_i h
    unfold valueAt
    by_cases hk : k' = k
    · subst hk
      rw [if_pos rfl, List.find?_append]
      have : kvs.find? (fun kv => decide (kv.1 = k')) = none := by
        rw [List.find?_eq_none]
        intro x hx
        intro hc
        exact h (List.any_eq_true.mpr ⟨x, hx, hc⟩)
      rw [this]; simp
    · rw [if_neg hk, List.find?_append]
      have hk2 : ¬ k = k' := fun e => hk e.symm
      cases kvs.find? (fun kv => decide (kv.1 = k')) <;> simp [hk2]
/-- what a dict says of a key -/
def Says (x : Option Value) (r : Option Int) : Prop := match r with
  | none => x = none
  | some g => ∃ t, x = some (.int g t)
theorem zip_lookup {kw kg : List Int} (hl : kw.length = kg.length) (k : Int) : ((kw.zip kg).lookup k).getD k = conv1 kw kg k := by
  induction kw generalizing kg with
  | nil => simp [conv1]
  | cons a r ih =>
    cases kg with
    | nil => simp at hl
    | cons b q =>
      have hl2 : r.length = q.length := by simpa using hl
      rw [List.zip_cons_cons, List.lookup_cons]
      by_cases h : k = a
      · subst h; simp [conv1]
      · have hb : (k == a) = false := by simpa using h
        rw [hb]
        simp only
        rw [ih hl2]
        unfold conv1
        have hm : (k ∈ a :: r) = (k ∈ r) := by simp [h]
        by_cases hr : k ∈ r
        · rw [if_pos hr, if_pos (by simp [hr]), List.idxOf_cons]
          have hab : (a == k) = false := by simpa using fun e : a = k => h e.symm
          rw [hab]; simp
        · rw [if_neg hr, if_neg (by simp [hr, h])]
theorem says_step {kvs : List (Int × Value)} {kw kg : List Int} {i : Nat} {t : Tok} (hl : kw.length = kg.length) (hi : i < kw.length) (h : ∀ k, Says (valueAt kvs k) (((kw.zip kg).drop (kw.length - i)).lookup k)) (k : Int) :
    Says (valueAt (stored kvs (kw.getD (kw.length - 1 - i) 0) (.int (kg.getD (kw.length - 1 - i) 0) t)) k) (((kw.zip kg).drop (kw.length - (i + 1))).lookup k) := by
  have hj : kw.length - 1 - i < (kw.zip kg).length := by rw [List.length_zip]; omega
  have e1 : kw.length - (i + 1) = kw.length - 1 - i := by omega
  rw [e1, List.drop_eq_getElem_cons hj, valueAt_stored, List.getElem_zip, List.lookup_cons]
  have h1 : kw.getD (kw.length - 1 - i) 0 = kw[kw.length - 1 - i]'(by omega) := by rw [List.getD_eq_getElem?_getD, List.getElem?_eq_getElem (by omega)]; rfl
  have h2 : kg.getD (kw.length - 1 - i) 0 = kg[kw.length - 1 - i]'(by omega) := by rw [List.getD_eq_getElem?_getD, List.getElem?_eq_getElem (by omega)]; rfl
  rw [h1, h2]
  by_cases hk : k = kw[kw.length - 1 - i]'(by omega)
  · rw [if_pos hk]
    have : (k == kw[kw.length - 1 - i]'(by omega)) = true := by simpa using hk
    rw [this]
    exact ⟨t, rfl⟩
  · rw [if_neg hk]
    have : (k == kw[kw.length - 1 - i]'(by omega)) = false := by simpa using hk
    rw [this]
    have := h k
    rw [show kw.length - i = kw.length - 1 - i + 1 by omega] at this
    exact this
theorem rangeDown (n : Nat) : Builtin.Range.rangeSize ((n : Int) - 1) (-1) (-1) = (n : Int) := by
  simp [Builtin.Range.rangeSize]; omega
end
theorem news_back {h₀ h : Heap} {L : Addr} {a b c : Addr × Obj} {l : List (Addr × Obj)} (N : News h₀ L h (a :: b :: c :: l)) : News h₀ L h (l ++ [a, b, c]) := fun p hp => N p (by
  simp only [List.mem_append, List.mem_cons, List.not_mem_nil, or_false] at hp ⊢
  rcases hp with h | h | h | h <;> simp [h])
theorem ints_take_snoc {ys : Array Value} {ns : List Int} {n k : Int} {t : Tok} {i : Nat} (h : IntsAre ys.toList (ns.take i)) (hk : ns[i]? = some k) (e : n = k) : IntsAre (ys ++ [Value.int n t].toArray).toList (ns.take (i + 1)) := by
  simpa using ints_push_take (t := t) h hk e
theorem says_get {x : Option Value} {r : Option Int} {k : Int} (h : Says x r) (t : Tok) : ∃ t', x.getD (.int k t) = .int (r.getD k) t' := by
  cases r with
  | none => exact ⟨t, by rw [show x = none from h]; rfl⟩
  | some g => obtain ⟨t', e⟩ := h; exact ⟨t', by rw [e]; rfl⟩
section
theorem due_ct (w : World) (o x g : Array UInt8) (ko kw kg : List Int) (b e : Int) (t1 t2 t3 t4 t5 : Tok) (news : List (Addr × Obj)) (ho : KBw.bInts o = ko) (hx : KBw.bInts x = kw) (hg : KBw.bInts g = kg) (hz : ko.length ≤ 500) (hzw : kw.length ≤ 500) (hlen : kw.length = kg.length) :
    Ct w 206 [.bytes o t1, .bytes x t2, .bytes g t3, .int b t4, .int e t5] 4 64 news (Pure news fun r => ∃ y t, r = .bytes y t ∧ KBw.bInts y = convI ko kw kg b e) := by
  unfold Ct
  k_fill
  intro loose mean mg mb dp un gd cn cs a ccd cl outer A₀ base h₀ L m s Q E B F X N T hk hd hu hret
  refine wpAny_call ?_
  k_dflt (refine' code_defC (binds := [(Str.ofString "octets", .bytes o t1), (Str.ofString "wanted", .bytes x t2), (Str.ofString "given", .bytes g t3), (Str.ofString "begin", .int b t4), (Str.ofString "end", .int e t5)]) ?k1 ?k2 ?k3 ?k4 ?k5 ?kA ?kF ?kK ?k6 ?k7 ?k8 ?k9 ?kB ?kD ?_ ?c2 ?c3 ?c4; (case kA => exact rfl); (case kF => exact rfl); (case kK => assumption); (case k1 => k_asm); (case k2 => k_asm); (case k3 => k_asm); (case k4 => k_asm); (case k5 => k_asm); (case k6 => k_is); (case k7 => k_is); (case k8 => ktr_room); (case k9 => exact BindsTo.of_eq rfl); (case kB => exact rfl); (case kD => decide +kernel); (case c2 => exact rfl); (case c3 => exact rfl); (case c4 => exact rfl); k_whole)
  intro g' L' h' tk' cells' FG' F' N' Y' B' X' T' l1
  k_cells Y'
  (try simp only [List.cons_append, List.nil_append] at N')
  (try dsimp only)
  (try k_fold)
  rename_i o1 o2 o3 o4 e1 e2 e3 e4
  have hall : ∀ p ∈ (L' + 1 + 1 + 1, o2) :: (L' + 1 + 1, o3) :: (L' + 1, o4) :: news, p.1 ≠ L' + 1 + 1 + 1 + 1 := by
    intro p hp
    simp only [List.mem_cons] at hp
    rcases hp with rfl | rfl | rfl | hp
    · exact Nat.ne_of_lt (Nat.lt_succ_self _)
    · exact Nat.ne_of_lt (Nat.lt_succ_of_lt (Nat.lt_succ_self _))
    · exact Nat.ne_of_lt (Nat.lt_succ_of_lt (Nat.lt_succ_of_lt (Nat.lt_succ_self _)))
    · have := l1 p hp
      exact Nat.ne_of_lt (Nat.lt_succ_of_lt (Nat.lt_succ_of_lt (Nat.lt_succ_of_lt (Nat.lt_succ_of_lt this))))
  (repeat' (first | (k_unfold; (try dsimp only)) | (k_end; kc_close) | (with_reducible first | ((show wpAny _ _ (setItem (Value.ref _) (Value.int _ _) _) _ _ _); refine Stop.of ?_) | ((show wpAny _ _ (getMethod (Value.ref _) _ _) _ _ _); refine Stop.of ?_) | ((show wpAny _ _ (call (Value.builtin "dict.get") _) _ _ _); refine Stop.of ?_) | ((show wpAny _ _ (eval (Expr.Constant (Const.int _) _ _) _) _ _ _); refine flat_int ?_) | ((show wpAny _ _ (binaryOp Operator.Add (Value.int _ _) (Value.int _ _)) _ _ _); refine flat_add ?_) | ((show wpAny _ _ (binaryOp Operator.Sub (Value.int _ _) (Value.int _ _)) _ _ _); refine flat_sub ?_) | ((show wpAny _ _ (eval (Expr.BinOp _ _ _ _) _) _ _ _); k_fold; k_dflt walk1) | ((show wpAny _ _ (eval (Expr.Compare _ _ _ _) _) _ _ _); k_fold; k_dflt walk1)) | walk1 | (dsimp only; first | (with_reducible first | ((show wpAny _ _ (setItem (Value.ref _) (Value.int _ _) _) _ _ _); refine Stop.of ?_) | ((show wpAny _ _ (getMethod (Value.ref _) _ _) _ _ _); refine Stop.of ?_) | ((show wpAny _ _ (call (Value.builtin "dict.get") _) _ _ _); refine Stop.of ?_)) | walk1) | (leave1; walk_say "STEP leave1"; try dsimp only) | fail "no step"))
  rename_i d0 hA od0 lo0 hs0 fs0 hd0 fi0 l0 hB oc F1 N1 dc0
  have hne0 : ∀ p ∈ (L' + 1 + 1 + 1 + 1, oc) :: (L' + 1 + 1 + 1, o2) :: (L' + 1 + 1, o3) :: (L' + 1, o4) :: news, p.1 ≠ d0 := by
    intro p hp
    simp only [List.mem_cons] at hp
    rcases hp with rfl | rfl | rfl | rfl | hp
    · exact Nat.ne_of_lt l0.1
    · exact Nat.ne_of_lt l0.2.1
    · exact Nat.ne_of_lt l0.2.2.1
    · exact Nat.ne_of_lt l0.2.2.2.1
    · exact Nat.ne_of_lt (lt_all l0.2.2.2.2 p hp)
  clear hs0 fs0 fi0
  refine Stop.go ?_
  (try k_fold)
  refine (For_invV g' rfl rfl ?_)
  (repeat' (first | (k_unfold; (try dsimp only)) | (k_end; kc_close) | (with_reducible first | ((show wpAny _ _ (setItem (Value.ref _) (Value.int _ _) _) _ _ _); refine Stop.of ?_) | ((show wpAny _ _ (getMethod (Value.ref _) _ _) _ _ _); refine Stop.of ?_) | ((show wpAny _ _ (call (Value.builtin "dict.get") _) _ _ _); refine Stop.of ?_) | ((show wpAny _ _ (eval (Expr.Constant (Const.int _) _ _) _) _ _ _); refine flat_int ?_) | ((show wpAny _ _ (binaryOp Operator.Add (Value.int _ _) (Value.int _ _)) _ _ _); refine flat_add ?_) | ((show wpAny _ _ (binaryOp Operator.Sub (Value.int _ _) (Value.int _ _)) _ _ _); refine flat_sub ?_) | ((show wpAny _ _ (eval (Expr.BinOp _ _ _ _) _) _ _ _); k_fold; k_dflt walk1) | ((show wpAny _ _ (eval (Expr.Compare _ _ _ _) _) _ _ _); k_fold; k_dflt walk1)) | walk1 | (dsimp only; first | (with_reducible first | ((show wpAny _ _ (setItem (Value.ref _) (Value.int _ _) _) _ _ _); refine Stop.of ?_) | ((show wpAny _ _ (getMethod (Value.ref _) _ _) _ _ _); refine Stop.of ?_) | ((show wpAny _ _ (call (Value.builtin "dict.get") _) _ _ _); refine Stop.of ?_)) | walk1) | (leave1; walk_say "STEP leave1"; try dsimp only) | fail "no step"))
  rename IsRange _ _ _ _ _ _ _ _ => hrg
  rename News g' _ _ _ => N2
  rename Fr g' _ _ _ => F2
  obtain ⟨m0, hm0, F2⟩ : ∃ m0, m0 = _ ∧ Fr g' L' _ m0 := ⟨_, rfl, F2⟩
  obtain ⟨tl, htl, N2⟩ : ∃ tl, tl = _ ∧ News g' L' _ ((d0, od0) :: tl) := ⟨_, rfl, N2⟩
  let J9 : Nat → (Str → Option Value) → List (Addr × Obj) → Prop := (fun i m₁ news₁ => ∃ od kvs, news₁ = (d0, od) :: tl ∧ od.IsDictOf (PySem.intKind PySem.Challenge.rw_og0078_01.row.prog w) kvs ∧ kvs.length ≤ i ∧ (∀ k, Says (valueAt kvs k) (((kw.zip kg).drop (kw.length - i)).lookup k)) ∧ ∃ v, m₁ = fun y => if y = Str.ofString "at" then v else m0 y)
  refine Stop.go (iter_range kw.length J9
    rfl hrg (small_down (by omega) (by omega) (by decide) (by decide)) (rangeDown _) F2 N2 ⟨od0, [], rfl, hd0, Nat.le_refl _, fun k => by simp [List.drop_eq_nil_of_le, hlen]; rfl, map_start _ _⟩ ?_ ?_)
  · intro I i t m₁ news₁ h tk own hi hz1 hoff hown hsep F3 N3
    (try k_fold)
    obtain ⟨od, kvs, rfl, hdk, hkl, hsays, v, rfl⟩ := hz1
    clear F2 N2
    replace F3 : Fr g' L' h _ := F3
    replace N3 : News g' L' h ((d0, od) :: (tl ++ own)) := N3
    have hneO : ∀ p ∈ tl ++ own, p.1 ≠ d0 := fun p hp => by
      rcases List.mem_append.mp hp with hp | hp
      · rw [htl] at hp; exact hne0 p hp
      · exact hsep p hp d0 (by simp)
    subst hm0
    dsimp only at F3
    rw [htl] at N3 hneO
    simp only [List.cons_append] at N3 hneO
    have hmul : (↑kw.length - 1 + (i : Int) * -1) = ((kw.length - 1 - i : Nat) : Int) := by omega
    rw [hmul] at F3
    (repeat' (first | (k_unfold; (try dsimp only)) | (k_end; kc_close) | (with_reducible first | ((show wpAny _ _ (setItem (Value.ref _) (Value.int _ _) _) _ _ _); refine Stop.of ?_) | ((show wpAny _ _ (getMethod (Value.ref _) _ _) _ _ _); refine Stop.of ?_) | ((show wpAny _ _ (call (Value.builtin "dict.get") _) _ _ _); refine Stop.of ?_) | ((show wpAny _ _ (eval (Expr.Constant (Const.int _) _ _) _) _ _ _); refine flat_int ?_) | ((show wpAny _ _ (binaryOp Operator.Add (Value.int _ _) (Value.int _ _)) _ _ _); refine flat_add ?_) | ((show wpAny _ _ (binaryOp Operator.Sub (Value.int _ _) (Value.int _ _)) _ _ _); refine flat_sub ?_) | ((show wpAny _ _ (eval (Expr.BinOp _ _ _ _) _) _ _ _); k_fold; k_dflt walk1) | ((show wpAny _ _ (eval (Expr.Compare _ _ _ _) _) _ _ _); k_fold; k_dflt walk1)) | walk1 | (dsimp only; first | (with_reducible first | ((show wpAny _ _ (setItem (Value.ref _) (Value.int _ _) _) _ _ _); refine Stop.of ?_) | ((show wpAny _ _ (getMethod (Value.ref _) _ _) _ _ _); refine Stop.of ?_) | ((show wpAny _ _ (call (Value.builtin "dict.get") _) _ _ _); refine Stop.of ?_)) | walk1) | (leave1; walk_say "STEP leave1"; try dsimp only) | fail "no step"))
    rename Fr g' _ _ _ => F4
    rename News g' _ _ _ => N4
    refine Stop.go ?_
    (try k_fold)
    refine (kda_set (knd := PySem.intKind _ _) F4 N4 (UpdF.head hneO) hdk (intKind_is _ _ _ _) (by rw [sizeLine_eq]; omega) ?_)
    intro h5 od2 F5 N5 hd5
    clear F4 N4
    (repeat' (first | (k_unfold; (try dsimp only)) | (k_end; kc_close) | (with_reducible first | ((show wpAny _ _ (setItem (Value.ref _) (Value.int _ _) _) _ _ _); refine Stop.of ?_) | ((show wpAny _ _ (getMethod (Value.ref _) _ _) _ _ _); refine Stop.of ?_) | ((show wpAny _ _ (call (Value.builtin "dict.get") _) _ _ _); refine Stop.of ?_) | ((show wpAny _ _ (eval (Expr.Constant (Const.int _) _ _) _) _ _ _); refine flat_int ?_) | ((show wpAny _ _ (binaryOp Operator.Add (Value.int _ _) (Value.int _ _)) _ _ _); refine flat_add ?_) | ((show wpAny _ _ (binaryOp Operator.Sub (Value.int _ _) (Value.int _ _)) _ _ _); refine flat_sub ?_) | ((show wpAny _ _ (eval (Expr.BinOp _ _ _ _) _) _ _ _); k_fold; k_dflt walk1) | ((show wpAny _ _ (eval (Expr.Compare _ _ _ _) _) _ _ _); k_fold; k_dflt walk1)) | walk1 | (dsimp only; first | (with_reducible first | ((show wpAny _ _ (setItem (Value.ref _) (Value.int _ _) _) _ _ _); refine Stop.of ?_) | ((show wpAny _ _ (getMethod (Value.ref _) _ _) _ _ _); refine Stop.of ?_) | ((show wpAny _ _ (call (Value.builtin "dict.get") _) _ _ _); refine Stop.of ?_)) | walk1) | (leave1; walk_say "STEP leave1"; try dsimp only) | fail "no step"))
    rw [Int.toNat_natCast] at hd5
    have hof2 : ∀ p ∈ (d0, od2) :: tl, p.1 ≠ I := fun p hp => by
      rcases List.mem_cons.mp hp with rfl | hp
      · exact hoff (d0, od) (List.mem_cons_self ..)
      · exact hoff p (List.mem_cons_of_mem _ hp)
    refine TurnEnd.next (news' := (d0, od2) :: tl) (by k_asm) (by rw [htl]; simp only [List.cons_append]; k_asm) hof2 ⟨od2, _, rfl, hd5, ?_, says_step hlen hi hsays, map_over _ _ _ _⟩
    exact Nat.le_trans (stored_length_le _ _ _) (by omega)
  · intro m₁ news₁ h tk hz1 F3 N3
    (try k_fold)
    obtain ⟨od, kvs, rfl, hdk, hkl, hsays, v, rfl⟩ := hz1
    clear F2 N2
    replace F3 : Fr g' L' h _ := F3
    replace N3 : News g' L' h ((d0, od) :: tl) := N3
    rw [Nat.sub_self, List.drop_zero] at hsays
    subst hm0
    rw [htl] at N3
    (repeat' (first | (k_unfold; (try dsimp only)) | (k_end; kc_close) | (with_reducible first | ((show wpAny _ _ (setItem (Value.ref _) (Value.int _ _) _) _ _ _); refine Stop.of ?_) | ((show wpAny _ _ (getMethod (Value.ref _) _ _) _ _ _); refine Stop.of ?_) | ((show wpAny _ _ (call (Value.builtin "dict.get") _) _ _ _); refine Stop.of ?_) | ((show wpAny _ _ (eval (Expr.Constant (Const.int _) _ _) _) _ _ _); refine flat_int ?_) | ((show wpAny _ _ (binaryOp Operator.Add (Value.int _ _) (Value.int _ _)) _ _ _); refine flat_add ?_) | ((show wpAny _ _ (binaryOp Operator.Sub (Value.int _ _) (Value.int _ _)) _ _ _); refine flat_sub ?_) | ((show wpAny _ _ (eval (Expr.BinOp _ _ _ _) _) _ _ _); k_fold; k_dflt walk1) | ((show wpAny _ _ (eval (Expr.Compare _ _ _ _) _) _ _ _); k_fold; k_dflt walk1)) | walk1 | (dsimp only; first | (with_reducible first | ((show wpAny _ _ (setItem (Value.ref _) (Value.int _ _) _) _ _ _); refine Stop.of ?_) | ((show wpAny _ _ (getMethod (Value.ref _) _ _) _ _ _); refine Stop.of ?_) | ((show wpAny _ _ (call (Value.builtin "dict.get") _) _ _ _); refine Stop.of ?_)) | walk1) | (leave1; walk_say "STEP leave1"; try dsimp only) | fail "no step"))
    refine Stop.go ?_
    (try k_fold)
    refine (eval_comp (h₀ := g') (L := L') (by with_unfolding_all rfl) (by decide) rfl (by decide) ?_)
    (repeat' (first | (k_unfold; (try dsimp only)) | (k_end; kc_close) | (with_reducible first | ((show wpAny _ _ (setItem (Value.ref _) (Value.int _ _) _) _ _ _); refine Stop.of ?_) | ((show wpAny _ _ (getMethod (Value.ref _) _ _) _ _ _); refine Stop.of ?_) | ((show wpAny _ _ (call (Value.builtin "dict.get") _) _ _ _); refine Stop.of ?_) | ((show wpAny _ _ (eval (Expr.Constant (Const.int _) _ _) _) _ _ _); refine flat_int ?_) | ((show wpAny _ _ (binaryOp Operator.Add (Value.int _ _) (Value.int _ _)) _ _ _); refine flat_add ?_) | ((show wpAny _ _ (binaryOp Operator.Sub (Value.int _ _) (Value.int _ _)) _ _ _); refine flat_sub ?_) | ((show wpAny _ _ (eval (Expr.BinOp _ _ _ _) _) _ _ _); k_fold; k_dflt walk1) | ((show wpAny _ _ (eval (Expr.Compare _ _ _ _) _) _ _ _); k_fold; k_dflt walk1)) | walk1 | (dsimp only; first | (with_reducible first | ((show wpAny _ _ (setItem (Value.ref _) (Value.int _ _) _) _ _ _); refine Stop.of ?_) | ((show wpAny _ _ (getMethod (Value.ref _) _ _) _ _ _); refine Stop.of ?_) | ((show wpAny _ _ (call (Value.builtin "dict.get") _) _ _ _); refine Stop.of ?_)) | walk1) | (leave1; walk_say "STEP leave1"; try dsimp only) | fail "no step"))
    rename IsRange _ _ _ _ _ _ _ _ => hrg
    rename News g' _ _ _ => N4
    rename Fr g' _ _ _ => F4
    rw [← htl] at N4
    let J9 : Nat → Array Value → List (Addr × Obj) → Prop := (fun i ys nw => nw = (d0, od) :: tl ∧ IntsAre ys.toList ((convI ko kw kg b e).take i))
    refine Stop.go (compAt_range ko.length J9
      rfl rfl rfl hrg (small_one (by decide) (by decide) (by omega) (by omega)) (range1_size _) (by omega) ?_ F4 N4 ⟨rfl, .nil⟩ ?_ ?_)
    · rintro i ys nw ⟨_, hys⟩
      rw [ints_size hys]
      simp; omega
    · intro s₂ D C I i t6 ys k nw oC2 oI mC h tk E hz1 hi hz2 hoff hns hmC F5 N5 hlt hDC
      (try k_fold)
      obtain ⟨hh, rfl⟩ := hz1
      obtain ⟨rfl, hys⟩ := hz2
      clear F4 N4
      rw [htl] at N5
      replace N5 := news_swap N5
      simp only [own3, List.cons_append, List.nil_append] at N5
      have hi0 : (0 + (i : Int) * 1) = (i : Int) := by omega
      rw [hi0] at hmC
      have hki : ko[i]? = some (ko.getD i 0) := by rw [List.getD_eq_getElem?_getD, List.getElem?_eq_getElem hi]; rfl
      refine wpAny_pure ?_
      (try (k_unfold; (try dsimp only)))
      rw [if_pos rfl]
      (repeat' (first | (k_unfold; (try dsimp only)) | (k_end; kc_close) | (with_reducible first | ((show wpAny _ _ (setItem (Value.ref _) (Value.int _ _) _) _ _ _); refine Stop.of ?_) | ((show wpAny _ _ (getMethod (Value.ref _) _ _) _ _ _); refine Stop.of ?_) | ((show wpAny _ _ (call (Value.builtin "dict.get") _) _ _ _); refine Stop.of ?_) | ((show wpAny _ _ (eval (Expr.Constant (Const.int _) _ _) _) _ _ _); refine flat_int ?_) | ((show wpAny _ _ (binaryOp Operator.Add (Value.int _ _) (Value.int _ _)) _ _ _); refine flat_add ?_) | ((show wpAny _ _ (binaryOp Operator.Sub (Value.int _ _) (Value.int _ _)) _ _ _); refine flat_sub ?_) | ((show wpAny _ _ (eval (Expr.BinOp _ _ _ _) _) _ _ _); k_fold; k_dflt walk1) | ((show wpAny _ _ (eval (Expr.Compare _ _ _ _) _) _ _ _); k_fold; k_dflt walk1)) | walk1 | (dsimp only; first | (with_reducible first | ((show wpAny _ _ (setItem (Value.ref _) (Value.int _ _) _) _ _ _); refine Stop.of ?_) | ((show wpAny _ _ (getMethod (Value.ref _) _ _) _ _ _); refine Stop.of ?_) | ((show wpAny _ _ (call (Value.builtin "dict.get") _) _ _ _); refine Stop.of ?_)) | walk1) | (leave1; walk_say "STEP leave1"; try dsimp only) | fail "no step"))
      · rename News g' _ _ _ => N6
        refine Stop.go ?_
        (try k_fold)
        refine (kdg_method (knd := PySem.intKind _ _) N6 (by k_mem) hdk ?_)
        (repeat' (first | (k_unfold; (try dsimp only)) | (k_end; kc_close) | (with_reducible first | ((show wpAny _ _ (setItem (Value.ref _) (Value.int _ _) _) _ _ _); refine Stop.of ?_) | ((show wpAny _ _ (getMethod (Value.ref _) _ _) _ _ _); refine Stop.of ?_) | ((show wpAny _ _ (call (Value.builtin "dict.get") _) _ _ _); refine Stop.of ?_) | ((show wpAny _ _ (eval (Expr.Constant (Const.int _) _ _) _) _ _ _); refine flat_int ?_) | ((show wpAny _ _ (binaryOp Operator.Add (Value.int _ _) (Value.int _ _)) _ _ _); refine flat_add ?_) | ((show wpAny _ _ (binaryOp Operator.Sub (Value.int _ _) (Value.int _ _)) _ _ _); refine flat_sub ?_) | ((show wpAny _ _ (eval (Expr.BinOp _ _ _ _) _) _ _ _); k_fold; k_dflt walk1) | ((show wpAny _ _ (eval (Expr.Compare _ _ _ _) _) _ _ _); k_fold; k_dflt walk1)) | walk1 | (dsimp only; first | (with_reducible first | ((show wpAny _ _ (setItem (Value.ref _) (Value.int _ _) _) _ _ _); refine Stop.of ?_) | ((show wpAny _ _ (getMethod (Value.ref _) _ _) _ _ _); refine Stop.of ?_) | ((show wpAny _ _ (call (Value.builtin "dict.get") _) _ _ _); refine Stop.of ?_)) | walk1) | (leave1; walk_say "STEP leave1"; try dsimp only) | fail "no step"))
        rename News g' _ _ _ => N7
        refine Stop.go ?_
        (try k_fold)
        refine (kdg_get2 (knd := PySem.intKind _ _) N7 (by k_mem) hdk lo0 (intKind_is _ _ _ _) _ rfl ?_)
        rw [Int.toNat_natCast]
        obtain ⟨t9, e9⟩ := says_get (hsays (ko.getD i 0)) _
        rw [e9, zip_lookup hlen]
        (repeat' (first | (k_unfold; (try dsimp only)) | (k_end; kc_close) | (with_reducible first | ((show wpAny _ _ (setItem (Value.ref _) (Value.int _ _) _) _ _ _); refine Stop.of ?_) | ((show wpAny _ _ (getMethod (Value.ref _) _ _) _ _ _); refine Stop.of ?_) | ((show wpAny _ _ (call (Value.builtin "dict.get") _) _ _ _); refine Stop.of ?_) | ((show wpAny _ _ (eval (Expr.Constant (Const.int _) _ _) _) _ _ _); refine flat_int ?_) | ((show wpAny _ _ (binaryOp Operator.Add (Value.int _ _) (Value.int _ _)) _ _ _); refine flat_add ?_) | ((show wpAny _ _ (binaryOp Operator.Sub (Value.int _ _) (Value.int _ _)) _ _ _); refine flat_sub ?_) | ((show wpAny _ _ (eval (Expr.BinOp _ _ _ _) _) _ _ _); k_fold; k_dflt walk1) | ((show wpAny _ _ (eval (Expr.Compare _ _ _ _) _) _ _ _); k_fold; k_dflt walk1)) | walk1 | (dsimp only; first | (with_reducible first | ((show wpAny _ _ (setItem (Value.ref _) (Value.int _ _) _) _ _ _); refine Stop.of ?_) | ((show wpAny _ _ (getMethod (Value.ref _) _ _) _ _ _); refine Stop.of ?_) | ((show wpAny _ _ (call (Value.builtin "dict.get") _) _ _ _); refine Stop.of ?_)) | walk1) | (leave1; walk_say "STEP leave1"; try dsimp only) | fail "no step"))
        refine CompEnd.mk (by k_asm) (by rw [htl]; exact news_back (by k_asm)) hoff ⟨rfl, ints_take_snoc hys (convI_get hki) ?_⟩
        rw [if_pos ⟨by assumption, by assumption⟩]
      · refine CompEnd.mk (by k_asm) (by rw [htl]; exact news_back (by k_asm)) hoff ⟨rfl, ints_take_snoc hys (convI_get hki) ?_⟩
        rw [if_neg fun h => absurd h.2 (by assumption), Int.toNat_natCast]
      · refine CompEnd.mk (by k_asm) (by rw [htl]; exact news_back (by k_asm)) hoff ⟨rfl, ints_take_snoc hys (convI_get hki) ?_⟩
        rw [if_neg fun h => absurd h.1 (by assumption), Int.toNat_natCast]
    · intro s₂ D C h tk ys k nw mC hz1 hCL hC0 hz2 hD hC hlt F5 N5 hns
      (try k_fold)
      obtain ⟨hh, rfl⟩ := hz1
      obtain ⟨rfl, hys⟩ := hz2
      refine compPost_eval hCL hC0 hC F5 N5 hns fun h5 F6 N6 => ?_
      clear F5 N5 F4 N4
      rw [List.take_of_length_le (by rw [convI_length]; omega)] at hys
      have hlc : (convI ko kw kg b e).length = ko.length := convI_length
      have hsz : ys.size ≤ 500 := by rw [ints_size hys]; omega
      have hin := convI_in (b := b) (e := e) (kw := kw) ho hg
      replace N6 := news_last N6
      (repeat' (first | (k_unfold; (try dsimp only)) | (k_end; kc_close) | (with_reducible first | ((show wpAny _ _ (setItem (Value.ref _) (Value.int _ _) _) _ _ _); refine Stop.of ?_) | ((show wpAny _ _ (getMethod (Value.ref _) _ _) _ _ _); refine Stop.of ?_) | ((show wpAny _ _ (call (Value.builtin "dict.get") _) _ _ _); refine Stop.of ?_) | ((show wpAny _ _ (eval (Expr.Constant (Const.int _) _ _) _) _ _ _); refine flat_int ?_) | ((show wpAny _ _ (binaryOp Operator.Add (Value.int _ _) (Value.int _ _)) _ _ _); refine flat_add ?_) | ((show wpAny _ _ (binaryOp Operator.Sub (Value.int _ _) (Value.int _ _)) _ _ _); refine flat_sub ?_) | ((show wpAny _ _ (eval (Expr.BinOp _ _ _ _) _) _ _ _); k_fold; k_dflt walk1) | ((show wpAny _ _ (eval (Expr.Compare _ _ _ _) _) _ _ _); k_fold; k_dflt walk1)) | walk1 | (dsimp only; first | (with_reducible first | ((show wpAny _ _ (setItem (Value.ref _) (Value.int _ _) _) _ _ _); refine Stop.of ?_) | ((show wpAny _ _ (getMethod (Value.ref _) _ _) _ _ _); refine Stop.of ?_) | ((show wpAny _ _ (call (Value.builtin "dict.get") _) _ _ _); refine Stop.of ?_)) | walk1) | (leave1; walk_say "STEP leave1"; try dsimp only) | fail "no step"))
      exact hret _ _ _ _ (by k_asm) (fun p hp => (by k_asm : News h₀ L _ ((D, listOf ys k) :: (d0, od) :: tl)) p (by rw [htl]; simp [hp])) ⟨rfl, _, _, rfl, KBa.ints_make hin⟩
end


section
open PySem.Spec
variable {prog : Program} {w : World} {A : Around} {E : Value → Shared → Prop} {s : Shared} {env : Env} {h₀ : Heap} {target : Expr} {body : List Stmt} {Q : Flow → Shared → Prop}
/-- for target in a list of the ledger -/
theorem iter_listJ {l : Addr} {lo : Obj} {vs : List Value} {n0 : Nat} {m₀ : Str → Option Value} {news : List (Addr × Obj)} (J : Nat → (Str → Option Value) → List (Addr × Obj) → Prop) (hh : A.handled = none) (hc : lo.cls = .type "list") (hd : lo.data = .seq vs.toArray n0)
    (hl : ∀ i m₁ news₁, J i m₁ news₁ → (l, lo) ∈ news₁) (F : Fr h₀ env.locals s.heap m₀) (N : News h₀ env.locals s.heap news) (hj : J 0 m₀ news)
    (turn : ∀ I oI i v m₁ news₁ h tk, vs[i]? = some v → J i m₁ news₁ → (∀ p ∈ news₁, p.1 ≠ I) → Fr h₀ env.locals h m₁ → News h₀ env.locals h (news₁ ++ [(I, oI)]) →
      wpAny (model prog w) A (assign target env v) (fun _ s₃ => wpAny (model prog w) A (execs body env) (TurnEnd h₀ env.locals I [(I, oI)] (J (i + 1)) { s with heap := h, toks := tk } Q) E s₃) E { s with heap := h, toks := tk })
    (done : ∀ m₁ news₁ h tk, J vs.length m₁ news₁ → Fr h₀ env.locals h m₁ → News h₀ env.locals h news₁ → Q .next { s with heap := h, toks := tk })
    (hE : PassesOwn (model prog w) A env E := by passes_own) :
    wpAny (model prog w) A (pyIter (.ref l)) (fun it s₂ => codeAny (model prog w) A (.forLoop target it body [] env) (fun r s' => match r with | .ok f => Q f s' | .error e => cameBackBy (model prog w) A env E e s') s₂) E s := by
  have hI0 := next_is_new F
  have hLI : env.locals ≠ s.heap.objs.size := Nat.ne_of_lt F.ns.lt
  have hN0 : ∀ p ∈ news, p.1 ≠ s.heap.objs.size := fun p hp => Nat.ne_of_lt (Heap.lt_size (N p hp).1)
  refine iter_listT (vs := vs) (fun i h => ∃ m₁ news₁, J i m₁ news₁ ∧ (∀ p ∈ news₁, p.1 ≠ s.heap.objs.size) ∧ Fr h₀ env.locals h m₁ ∧ News h₀ env.locals h news₁) hh ⟨lo, (N _ (hl _ _ _ hj)).1, hc, n0, hd⟩ ?_ ?_ ?_ ?_
  · exact ⟨m₀, news, hj, hN0, F.push _, fun p hp => ⟨Heap.get?_push_of_some _ (N p hp).1, (N p hp).2⟩⟩
  · rintro i h h' ⟨m₁, news₁, hJ, hoff, F₁, N₁⟩ k
    exact ⟨m₁, news₁, hJ, hoff, ⟨F₁.ns.at' fun o e => k _ o hLI e, fun b o e => k b o (fun z => by rw [z, hI0] at e; cases e) (F₁.keep b o e), F₁.above⟩, fun p hp => ⟨k _ _ (hoff p hp) (N₁ p hp).1, (N₁ p hp).2⟩⟩
  · rintro i v h tk hv ⟨m₁, news₁, hJ, hoff, F₁, N₁⟩ hit hl'
    obtain ⟨oI, hoI, hoIr⟩ := id hit
    refine wpAny_mono (turn _ oI i v m₁ news₁ h tk hv hJ hoff F₁ ?_) (fun _ s₃ p => wpAny_mono p (fun f s₄ q => ?_) fun _ _ e => e) fun _ _ e => e
    · intro p hp
      rcases List.mem_append.mp hp with hp | hp
      · exact N₁ p hp
      · rw [List.mem_singleton.mp hp]; exact ⟨hoI, Ne.symm hLI, hI0⟩
    · have fin : (∃ h' tk' m' news', s₄ = { s with heap := h', toks := tk' } ∧ Fr h₀ env.locals h' m' ∧ News h₀ env.locals h' (news' ++ [(s.heap.objs.size, oI)]) ∧ (∀ p ∈ news', p.1 ≠ s.heap.objs.size) ∧ J (i + 1) m' news') →
          FreeEnd s.heap.objs.size l vs (fun h => ∃ m₁ news₁, J (i + 1) m₁ news₁ ∧ (∀ p ∈ news₁, p.1 ≠ s.heap.objs.size) ∧ Fr h₀ env.locals h m₁ ∧ News h₀ env.locals h news₁) (i + 1) s Q .next s₄ := by
        rintro ⟨h', tk', m', news', e, F', N', ho, hm⟩
        have N₂ : News h₀ env.locals h' news' := fun p hp => N' p (List.mem_append_left _ hp)
        exact ⟨h', tk', e, ⟨m', news', hm, ho, F', N₂⟩, ⟨oI, (N' _ (List.mem_append_right _ (List.mem_singleton_self _))).1, hoIr⟩, ⟨lo, (N₂ _ (hl _ _ _ hm)).1, hc, n0, hd⟩⟩
      cases f with
      | ret v => exact q
      | brk => exact q
      | next => exact fin q
      | cont => exact fin q
  · rintro h tk ⟨m₁, news₁, hJ, _, F₁, N₁⟩
    exact done m₁ news₁ h tk hJ F₁ N₁
end
theorem SeekL.snoc {P : Params} {b e : Int} {cs : List (Option Int)} {xs : List Addr} {led : List (Addr × Obj)} (H : SeekL P b e cs xs led) {c : Option Int} {x d : Addr} {es : List DictEntry} (hs : SeekIs P c b e es) (hxd : x ≠ d) (hn : ∀ p ∈ led, p.1 ≠ x ∧ p.1 ≠ d) :
    SeekL P b e (cs ++ [c]) (xs ++ [x]) (led ++ [(x, instObj 135 d), (d, dictOf es 6)]) := by
  induction H with
  | nil => exact .cons hs hxd (fun p hp => nomatch hp) .nil
  | @cons c₀ cs x₀ d₀ es₀ xs led hs0 hxd0 hsep H ih =>
    have h1 := hn (x₀, instObj 135 d₀) (by simp)
    have h2 := hn (d₀, dictOf es₀ 6) (by simp)
    refine .cons hs0 hxd0 ?_ (ih fun p hp => hn p (by simp [hp]))
    intro p hp
    rcases List.mem_append.mp hp with hp | hp
    · exact hsep p hp
    · rcases List.mem_cons.mp hp with rfl | hp
      · exact ⟨Ne.symm h1.1, Ne.symm h2.1⟩
      · rw [List.mem_singleton.mp hp]; exact ⟨Ne.symm h1.2, Ne.symm h2.2⟩


theorem fm_congr {α β : Type} {l : List α} {f g : α → Option β} (h : ∀ x ∈ l, f x = g x) : l.filterMap f = l.filterMap g := by
  induction l with
  | nil => rfl
  | cons a r ih => rw [List.filterMap_cons, List.filterMap_cons, h a (List.mem_cons_self ..), ih fun x hx => h x (List.mem_cons_of_mem _ hx)]
/-- the octets exchanged at the places found -/
noncomputable def setAll (kg l : List Int) (ps : List (Nat × Nat)) : List Int := ps.foldl (fun l p => l.set p.1 (kg.getD p.2 0)) l
theorem fits_some {ko : List Int} {b e : Int} {i : Nat} {a x : Int} (hx : ko[i]? = some x) : fits ko (some a) b e i = decide ((b ≤ (i : Int) ∧ (i : Int) < e) ∧ x = a) := by
  unfold fits
  rw [hx, decide_eq_decide]
  constructor
  · rintro ⟨h1, h2, h3⟩
    exact ⟨⟨h1, h2⟩, Option.some.inj (h3 a rfl)⟩
  · rintro ⟨⟨h1, h2⟩, h3⟩
    exact ⟨h1, h2, fun c hc => by cases hc; rw [h3]⟩
theorem fits_none {ko : List Int} {b e : Int} {i : Nat} : fits ko none b e i = decide (b ≤ (i : Int) ∧ (i : Int) < e) := by
  unfold fits
  rw [decide_eq_decide]
  exact ⟨fun h => ⟨h.1, h.2.1⟩, fun h => ⟨h.1, h.2, fun c hc => nomatch hc⟩⟩
theorem firstK_map {ko kw : List Int} {b e : Int} {i : Nat} {x : Int} (hx : ko[i]? = some x) : firstK ko b e i (kw.map some) = if (b ≤ (i : Int) ∧ (i : Int) < e) ∧ x ∈ kw then some (kw.idxOf x) else none := by
  unfold firstK
  induction kw with
  | nil => simp
  | cons a r ih =>
    rw [List.map_cons, List.findIdx?_cons, fits_some hx, List.idxOf_cons]
    by_cases hbe : b ≤ (i : Int) ∧ (i : Int) < e
    · by_cases ha : x = a
      · subst ha; simp [hbe]
      · have hb : (a == x) = false := by simpa using fun e : a = x => ha e.symm
        rw [ih, hb]
        by_cases hr : x ∈ r <;> simp [hbe, ha, hr]
    · rw [ih]; simp [hbe]
theorem firstK_all {ko kw : List Int} {b e : Int} {i : Nat} {x : Int} (hx : ko[i]? = some x) : firstK ko b e i (kw.map some ++ [none]) = if b ≤ (i : Int) ∧ (i : Int) < e then some (kw.idxOf x) else none := by
  unfold firstK
  induction kw with
  | nil =>
    by_cases hbe : b ≤ (i : Int) ∧ (i : Int) < e <;> simp [List.findIdx?_cons, fits_none, hbe]
  | cons a r ih =>
    rw [List.map_cons, List.cons_append, List.findIdx?_cons, fits_some hx, List.idxOf_cons]
    by_cases hbe : b ≤ (i : Int) ∧ (i : Int) < e
    · by_cases ha : x = a
      · subst ha; simp [hbe]
      · have hb : (a == x) = false := by simpa using fun e : a = x => ha e.symm
        rw [ih, hb]
        simp [hbe, ha]
    · rw [ih]; simp [hbe]
theorem setAll_upto {ko kw kg : List Int} {b e : Int} : ∀ k, k ≤ ko.length → setAll kg ko (fitsL ko (kw.map some) b e k) = ko.mapIdx fun i x => if i < k ∧ b ≤ (i : Int) ∧ (i : Int) < e then conv1 kw kg x else x
  | 0, _ => by
    show ko = _
    apply List.ext_getElem <;> simp
  | k + 1, hk => by
    have ih := setAll_upto (ko := ko) (kw := kw) (kg := kg) (b := b) (e := e) k (by omega)
    have hx : ko[k]? = some (ko[k]'(by omega)) := List.getElem?_eq_getElem (by omega)
    rw [fitsL_succ]
    unfold setAll at ih ⊢
    rw [List.foldl_append, ih, firstK_map hx]
    apply List.ext_getElem
    · by_cases hc : (b ≤ (k : Int) ∧ (k : Int) < e) ∧ ko[k]'(by omega) ∈ kw
      · rw [if_pos hc]; simp
      · rw [if_neg hc]; simp
    · intro i h1 h2
      simp only [List.length_mapIdx] at h2
      by_cases hc : (b ≤ (k : Int) ∧ (k : Int) < e) ∧ ko[k]'(by omega) ∈ kw
      · simp only [if_pos hc, Option.map_some, Option.toList_some, List.foldl_cons, List.foldl_nil, List.getElem_set, List.getElem_mapIdx]
        by_cases hik : k = i
        · subst hik
          rw [if_pos rfl, if_pos ⟨by omega, hc.1⟩, conv1, if_pos hc.2]
        · rw [if_neg hik]
          by_cases hlt : i < k
          · simp [hlt, show i < k + 1 by omega]
          · simp [hlt, show ¬ i < k + 1 by omega]
      · simp only [if_neg hc, Option.map_none, Option.toList_none, List.foldl_nil, List.getElem_mapIdx]
        by_cases hik : i = k
        · subst hik
          by_cases hbe : b ≤ (i : Int) ∧ (i : Int) < e
          · have : ko[i] ∉ kw := fun h => hc ⟨hbe, h⟩
            simp [hbe, conv1_out this]
          · simp [hbe]
        · by_cases hlt : i < k
          · simp [hlt, show i < k + 1 by omega]
          · simp [hlt, show ¬ i < k + 1 by omega]
theorem setAll_conv {ko kw kg : List Int} {b e : Int} : setAll kg ko (fitsL ko (kw.map some) b e ko.length) = convI ko kw kg b e := by
  rw [setAll_upto _ (Nat.le_refl _)]
  unfold convI
  apply List.ext_getElem
  · simp
  · intro i h1 h2
    simp only [List.length_mapIdx] at h1
    simp [h1]
/-- how often each row was found -/
noncomputable def countsOf (ps : List (Nat × Nat)) (n : Nat) : List Int := (List.range n).map fun j => ((ps.map (·.2)).count j : Int)
noncomputable def tallyAll (l : List Int) (ps : List (Nat × Nat)) : List Int := ps.foldl (fun l p => l.set p.2 (l.getD p.2 0 + 1)) l
theorem tallyAll_len {l : List Int} {ps : List (Nat × Nat)} : (tallyAll l ps).length = l.length := by
  unfold tallyAll
  induction ps generalizing l with
  | nil => rfl
  | cons p r ih => rw [List.foldl_cons, ih]; simp
theorem tallyAll_get {l : List Int} {ps : List (Nat × Nat)} {j : Nat} (hj : j < l.length) : (tallyAll l ps).getD j 0 = l.getD j 0 + ((ps.map (·.2)).count j : Int) := by
  unfold tallyAll
  induction ps generalizing l with
  | nil => simp
  | cons p r ih =>
    rw [List.foldl_cons, ih (by simpa using hj), List.map_cons, List.count_cons]
    by_cases h : p.2 = j
    · subst h
      simp only [List.getD_eq_getElem?_getD, beq_self_eq_true, if_true]
      rw [List.getElem?_set_self hj, List.getElem?_eq_getElem hj]
      simp; omega
    · have hb : (p.2 == j) = false := by simpa using h
      rw [hb]
      simp only [List.getD_eq_getElem?_getD, List.getElem?_set_ne h]
      simp
theorem tallyAll_counts {ps : List (Nat × Nat)} {n : Nat} : tallyAll (List.replicate n 0) ps = countsOf ps n := by
  apply List.ext_getElem
  · rw [tallyAll_len]; simp [countsOf]
  · intro j h1 h2
    rw [tallyAll_len, List.length_replicate] at h1
    have := tallyAll_get (l := List.replicate n 0) (ps := ps) (j := j) (by simpa using h1)
    rw [List.getD_eq_getElem?_getD, List.getElem?_eq_getElem (by rw [tallyAll_len]; simpa using h1), Option.getD_some] at this
    rw [this]
    simp [countsOf, h1]
/-- the counts that are due -/
noncomputable def dueC : List Int → List Int → List Int
  | [], left => [(left.length : Int)]
  | a :: r, left => ((left.filter (· = a)).length : Int) :: dueC r (left.filter (· ≠ a))
theorem dueC_counts : ∀ (kw left : List Int), dueC kw left = (List.range (kw.length + 1)).map fun j => ((left.map fun x => kw.idxOf x).count j : Int)
  | [], left => by
    simp [dueC, List.range_succ]
    rw [show (left.map fun _ => 0) = List.replicate left.length 0 by simp [List.map_const']]
    simp
  | a :: r, left => by
    rw [dueC, dueC_counts r, List.length_cons, List.range_succ_eq_map (n := r.length + 1), List.map_cons, List.map_map]
    congr 1
    · rw [List.count_eq_countP, List.countP_map, ← List.countP_eq_length_filter]
      congr 1
      apply List.countP_congr
      intro x _
      simp only [Function.comp, List.idxOf_cons, decide_eq_true_eq, beq_iff_eq]
      by_cases h : x = a
      · subst h; simp
      · have hb : (a == x) = false := by simpa using fun e : a = x => h e.symm
        rw [hb]; simp [h]
    · apply List.map_congr_left
      intro j _
      simp only [Function.comp]
      congr 1
      rw [List.count_eq_countP, List.count_eq_countP, List.countP_map, List.countP_map, List.countP_filter]
      apply List.countP_congr
      intro x _
      simp only [Function.comp, List.idxOf_cons, Bool.and_eq_true, decide_eq_true_eq, beq_iff_eq]
      by_cases h : x = a
      · subst h; simp
      · have hb : (a == x) = false := by simpa using fun e : a = x => h e.symm
        rw [hb]; simp [h]
theorem range_slice {ko : List Int} {f : Int → Nat} {b e : Nat} : ∀ k, k ≤ ko.length → ((List.range k).filterMap fun i => if b ≤ i ∧ i < e then some (f (ko.getD i 0)) else none) = (((ko.take k).drop b).take (e - b)).map f
  | 0, _ => by simp
  | k + 1, hk => by
    have hx : ko[k]? = some (ko[k]'(by omega)) := List.getElem?_eq_getElem (by omega)
    rw [List.range_succ, List.filterMap_append, range_slice k (by omega), List.take_add_one, hx]
    have hg : ko.getD k 0 = ko[k]'(by omega) := by rw [List.getD_eq_getElem?_getD, hx]; rfl
    have hl : (ko.take k).length = k := by simp; omega
    by_cases h1 : b ≤ k
    · have hl2 : ((ko.take k).drop b).length = k - b := by rw [List.length_drop, hl]
      rw [List.drop_append_of_le_length (by omega), List.take_append, hl2, List.map_append]
      congr 1
      by_cases h2 : k < e
      · rw [show e - b - (k - b) = (e - k - 1) + 1 by omega]
        simp [h1, h2, hx]
      · rw [show e - b - (k - b) = 0 by omega]
        simp [h2]
    · have e1 : (ko.take k ++ (some (ko[k]'(by omega))).toList).drop b = [] := by rw [List.drop_eq_nil_iff]; simp; omega
      have e2 : (ko.take k).drop b = [] := by rw [List.drop_eq_nil_iff]; omega
      rw [e1, e2]
      simp [h1]
theorem fits_snd {ko : List Int} {cs : List (Option Int)} {b e : Int} {k : Nat} : (fitsL ko cs b e k).map (·.2) = (List.range k).filterMap fun i => firstK ko b e i cs := by
  unfold fitsL firstK
  rw [List.map_filterMap]
  apply fm_congr
  intro i _
  cases List.findIdx? (fun c => fits ko c b e i) cs <;> rfl
theorem counts_due {ko kw : List Int} {b e : Nat} : countsOf (fitsL ko (kw.map some ++ [none]) b e ko.length) (kw.length + 1) = dueC kw ((ko.drop b).take (e - b)) := by
  rw [dueC_counts]
  unfold countsOf
  rw [fits_snd]
  have : ((List.range ko.length).filterMap fun i => firstK ko b e i (kw.map some ++ [none])) = ((ko.drop b).take (e - b)).map fun x => kw.idxOf x := by
    have h := range_slice (ko := ko) (f := fun x => kw.idxOf x) (b := b) (e := e) ko.length (Nat.le_refl _)
    rw [List.take_length] at h
    rw [← h]
    apply fm_congr
    intro i hi
    have hi2 : i < ko.length := List.mem_range.mp hi
    have hx : ko[i]? = some (ko.getD i 0) := by rw [List.getD_eq_getElem?_getD, List.getElem?_eq_getElem hi2]; rfl
    rw [firstK_all hx]
    by_cases hbe : b ≤ i ∧ i < e
    · rw [if_pos (by omega), if_pos hbe]
    · rw [if_neg (by omega), if_neg hbe]
  rw [this]



theorem compPost_assign2 {prog : Program} {w : World} {A : Around} {env : Env} {h₀ : Heap} {L : Addr} {E : Value → Shared → Prop} {K : Shared → Prop} {D C : Addr} {y : Str} {py : Pos} {s' : Shared} {m mC : Str → Option Value} {nw : List (Addr × Obj)} (hL : env.locals = L) (hy : env.kindOf y = some .local) (hp : (env.scope.kind == .class || (env.scope.kind == .module && env.locals != env.globals)) = false)
    (hCL : C ≠ L) (hC0 : h₀.get? C = none) (off : ∀ p ∈ nw, p.1 ≠ C) (F : Fr h₀ L s'.heap m) (N : News h₀ L s'.heap nw) (hn : s'.heap.Ns C mC)
    (h : ∀ h' tk', Fr h₀ L h' (fun z => if z = y then some (.ref D) else m z) → News h₀ L h' nw → K { s' with heap := h', toks := tk' }) : compPost (model prog w) A E (some (assign (.Name y py) env)) (fun _ s' => K s') (.ref D) C (.ok .next) s' :=
  compPost_assign (Q := fun _ s => K s) hL hy hp hCL hC0 off F N hn h
theorem fitsL_mem {ko : List Int} {cs : List (Option Int)} {b e : Int} {k : Nat} {p : Nat × Nat} (h : p ∈ fitsL ko cs b e k) : p.1 < k ∧ p.2 < cs.length := by
  unfold fitsL at h
  obtain ⟨i, hi, he⟩ := List.mem_filterMap.mp h
  obtain ⟨j, hj, rfl⟩ := Option.map_eq_some_iff.mp he
  exact ⟨List.mem_range.mp hi, (List.findIdx?_eq_some_iff_getElem.mp hj).1⟩
theorem rep_flat (n : Nat) : (List.replicate n [(0 : Int)]).flatten = List.replicate n 0 := by
  induction n with
  | zero => rfl
  | succ n ih => rw [List.replicate_succ, List.flatten_cons, ih]; rfl
theorem ints_get {ws : List Value} {l : List Int} (h : IntsAre ws l) {i : Nat} (hi : i < l.length) : ∃ t, ws[i]? = some (.int (l.getD i 0) t) := by
  induction h generalizing i with
  | nil => simp at hi
  | cons a t _ ih =>
    cases i with
    | zero => exact ⟨t, rfl⟩
    | succ i =>
      obtain ⟨t', h⟩ := ih (i := i) (by simpa using hi)
      exact ⟨t', by simpa using h⟩
theorem ints_set {ws : List Value} {l : List Int} (h : IntsAre ws l) (i : Nat) (n : Int) (t : Tok) : IntsAre (ws.set i (.int n t)) (l.set i n) := by
  induction h generalizing i with
  | nil => exact .nil
  | cons a t' h ih =>
    cases i with
    | zero => exact .cons _ _ h
    | succ i => exact .cons _ _ (ih i)
theorem tally_step {l : List Int} {ps : List (Nat × Nat)} {i pi pj : Nat} (h : ps[i]? = some (pi, pj)) : tallyAll l (ps.take (i + 1)) = (tallyAll l (ps.take i)).set pj ((tallyAll l (ps.take i)).getD pj 0 + 1) := by
  rw [List.take_add_one, h]
  unfold tallyAll
  rw [List.foldl_append]
  rfl
theorem put4 {o : Obj} {m : Str → Option Value} {a b c d : Str} {pa pb pc pd : Pos} {v1 v2 v3 v4 : Value} (h : NsO o (putAll m [(a, pa), (b, pb), (c, pc), (d, pd)] [v1, v2, v3, v4])) (ab : a ≠ b) (ac : a ≠ c) (ad : a ≠ d) (bc : b ≠ c) (bd : b ≠ d) (cd : c ≠ d) :
    ∃ mm, NsO o mm ∧ mm a = some v1 ∧ mm b = some v2 ∧ mm c = some v3 ∧ mm d = some v4 :=
  ⟨_, h, by simp [putAll, ab, ac, ad], by simp [putAll, bc, bd], by simp [putAll, cd], by simp [putAll]⟩
theorem put5 {o : Obj} {m : Str → Option Value} {a b c d e : Str} {pa pb pc pd pe : Pos} {v1 v2 v3 v4 v5 : Value} (h : NsO o (putAll m [(a, pa), (b, pb), (c, pc), (d, pd), (e, pe)] [v1, v2, v3, v4, v5])) (ab : a ≠ b) (ac : a ≠ c) (ad : a ≠ d) (ae : a ≠ e) (bc : b ≠ c) (bd : b ≠ d) (be : b ≠ e) (cd : c ≠ d) (ce : c ≠ e) (de : d ≠ e) :
    ∃ mm, NsO o mm ∧ mm a = some v1 ∧ mm b = some v2 ∧ mm c = some v3 ∧ mm d = some v4 ∧ mm e = some v5 :=
  ⟨_, h, by simp [putAll, ab, ac, ad, ae], by simp [putAll, bc, bd, be], by simp [putAll, cd, ce], by simp [putAll, de], by simp [putAll]⟩
noncomputable abbrev tup4 (a b c d : Value) : Obj := { cls := .type "tuple", data := .seq #[a, b, c, d] }
section
theorem tallied_ct (w : World) (o : Array UInt8) (ko : List Int) (cks : List (Option Int)) (cb ca : Option Int) (v1 v2 : Value) (R : Addr) (rowsA : Array Value) (kR : Nat) (t1 : Tok) (news : List (Addr × Obj)) (ho : KBw.bInts o = ko) (hz : ko.length ≤ 500)
    (hv1 : OptB v1 cb) (hv2 : OptB v2 ca) (hR : (R, listOf rowsA kR) ∈ news) (hlen : rowsA.size = cks.length) (hcs : cks.length ≤ 90)
    (hrow : ∀ (i : Nat) (c : Option Int), cks[i]? = some c → ∃ T vk vw, rowsA[i]? = some (.ref T) ∧ (T, tup4 vk vw v1 v2) ∈ news ∧ SKind vk vw c) :
    Ct w 158 [.bytes o t1, .ref R] 16 300 news (fun r news' => ∃ (D : Addr) (vs : Array Value) (k : Nat), r = Value.ref D ∧ news' = (D, listOf vs k) :: news ∧ IntsAre vs.toList (countsOf (fitsL ko cks (beginOf ko ca) (endOf ko cb) ko.length) cks.length) ∧ ∀ p ∈ news, p.1 < D) := by
  unfold Ct
  k_fill
  intro loose mean mg mb dp un gd cn cs a ccd cl outer A₀ base h₀ L m s Q E B F X N T hk hd hu hret
  refine wpAny_call ?_
  k_dflt (refine' code_defC (binds := [(Str.ofString "octets", .bytes o t1), (Str.ofString "rows", .ref R)]) ?k1 ?k2 ?k3 ?k4 ?k5 ?kA ?kF ?kK ?k6 ?k7 ?k8 ?k9 ?kB ?kD ?_ ?c2 ?c3 ?c4; (case kA => exact rfl); (case kF => exact rfl); (case kK => assumption); (case k1 => k_asm); (case k2 => k_asm); (case k3 => k_asm); (case k4 => k_asm); (case k5 => k_asm); (case k6 => k_is); (case k7 => k_is); (case k8 => ktr_room); (case k9 => exact BindsTo.of_eq rfl); (case kB => exact rfl); (case kD => decide +kernel); (case c2 => exact rfl); (case c3 => exact rfl); (case c4 => exact rfl); k_whole)
  intro g' L' h' tk' cells' FG' F' N' Y' B' X' T' l1
  k_cells Y'
  (try simp only [List.cons_append, List.nil_append] at N')
  (try dsimp only)
  (try k_fold)
  rename_i oc ec
  have hcell : ∀ p ∈ news, p.1 < L' + 1 := fun p hp => Nat.lt_succ_of_lt (l1 p hp)
  (repeat' (first | (k_unfold; (try dsimp only)) | (k_end; kc_close) | (with_reducible first | ((show wpAny _ _ (call (Value.ref 146) _) _ _ _); refine Stop.of ?_) | ((show wpAny _ _ (call (Value.ref 153) _) _ _ _); refine Stop.of ?_) | ((show wpAny _ _ (exec (Stmt.For (Expr.Tuple _ _ _) (Expr.Call _ _ _ _) _ [] _) _) _ _ _); refine Stop.of ?_) | ((show wpAny _ _ (call (Value.builtin "len") [Value.ref _]) _ _ _); refine Stop.of ?_) | ((show wpAny _ _ (binaryOp Operator.Mult (Value.ref _) (Value.int _ _)) _ _ _); refine Stop.of ?_) | ((show wpAny _ _ (subscriptTail _ _ (Value.ref _) (Value.int _ _)) _ _ _); refine Stop.of ?_) | ((show wpAny _ _ (setItem (Value.ref _) (Value.int _ _) _) _ _ _); refine Stop.of ?_) | ((show wpAny _ _ (eval (Expr.Constant (Const.int _) _ _) _) _ _ _); refine flat_int ?_) | ((show wpAny _ _ (binaryOp Operator.Add (Value.int _ _) (Value.int _ _)) _ _ _); refine flat_add ?_) | ((show wpAny _ _ (binaryOp Operator.Sub (Value.int _ _) (Value.int _ _)) _ _ _); refine flat_sub ?_) | ((show wpAny _ _ (eval (Expr.BinOp _ _ _ _) _) _ _ _); k_fold; k_dflt walk1) | ((show wpAny _ _ (eval (Expr.Compare _ _ _ _) _) _ _ _); k_fold; k_dflt walk1)) | walk1 | (dsimp only; first | (with_reducible first | ((show wpAny _ _ (call (Value.ref 146) _) _ _ _); refine Stop.of ?_) | ((show wpAny _ _ (call (Value.ref 153) _) _ _ _); refine Stop.of ?_) | ((show wpAny _ _ (exec (Stmt.For (Expr.Tuple _ _ _) (Expr.Call _ _ _ _) _ [] _) _) _ _ _); refine Stop.of ?_) | ((show wpAny _ _ (call (Value.builtin "len") [Value.ref _]) _ _ _); refine Stop.of ?_) | ((show wpAny _ _ (binaryOp Operator.Mult (Value.ref _) (Value.int _ _)) _ _ _); refine Stop.of ?_) | ((show wpAny _ _ (subscriptTail _ _ (Value.ref _) (Value.int _ _)) _ _ _); refine Stop.of ?_) | ((show wpAny _ _ (setItem (Value.ref _) (Value.int _ _) _) _ _ _); refine Stop.of ?_)) | walk1) | (leave1; walk_say "STEP leave1"; try dsimp only) | fail "no step"))
  refine Stop.go ?_
  (try k_fold)
  refine (assign_comp (h₀ := g') (L := L') (by with_unfolding_all rfl) (by with_unfolding_all rfl) (by decide) rfl (by decide) ?_)
  (repeat' (first | (k_unfold; (try dsimp only)) | (k_end; kc_close) | (with_reducible first | ((show wpAny _ _ (call (Value.ref 146) _) _ _ _); refine Stop.of ?_) | ((show wpAny _ _ (call (Value.ref 153) _) _ _ _); refine Stop.of ?_) | ((show wpAny _ _ (exec (Stmt.For (Expr.Tuple _ _ _) (Expr.Call _ _ _ _) _ [] _) _) _ _ _); refine Stop.of ?_) | ((show wpAny _ _ (call (Value.builtin "len") [Value.ref _]) _ _ _); refine Stop.of ?_) | ((show wpAny _ _ (binaryOp Operator.Mult (Value.ref _) (Value.int _ _)) _ _ _); refine Stop.of ?_) | ((show wpAny _ _ (subscriptTail _ _ (Value.ref _) (Value.int _ _)) _ _ _); refine Stop.of ?_) | ((show wpAny _ _ (setItem (Value.ref _) (Value.int _ _) _) _ _ _); refine Stop.of ?_) | ((show wpAny _ _ (eval (Expr.Constant (Const.int _) _ _) _) _ _ _); refine flat_int ?_) | ((show wpAny _ _ (binaryOp Operator.Add (Value.int _ _) (Value.int _ _)) _ _ _); refine flat_add ?_) | ((show wpAny _ _ (binaryOp Operator.Sub (Value.int _ _) (Value.int _ _)) _ _ _); refine flat_sub ?_) | ((show wpAny _ _ (eval (Expr.BinOp _ _ _ _) _) _ _ _); k_fold; k_dflt walk1) | ((show wpAny _ _ (eval (Expr.Compare _ _ _ _) _) _ _ _); k_fold; k_dflt walk1)) | walk1 | (dsimp only; first | (with_reducible first | ((show wpAny _ _ (call (Value.ref 146) _) _ _ _); refine Stop.of ?_) | ((show wpAny _ _ (call (Value.ref 153) _) _ _ _); refine Stop.of ?_) | ((show wpAny _ _ (exec (Stmt.For (Expr.Tuple _ _ _) (Expr.Call _ _ _ _) _ [] _) _) _ _ _); refine Stop.of ?_) | ((show wpAny _ _ (call (Value.builtin "len") [Value.ref _]) _ _ _); refine Stop.of ?_) | ((show wpAny _ _ (binaryOp Operator.Mult (Value.ref _) (Value.int _ _)) _ _ _); refine Stop.of ?_) | ((show wpAny _ _ (subscriptTail _ _ (Value.ref _) (Value.int _ _)) _ _ _); refine Stop.of ?_) | ((show wpAny _ _ (setItem (Value.ref _) (Value.int _ _) _) _ _ _); refine Stop.of ?_)) | walk1) | (leave1; walk_say "STEP leave1"; try dsimp only) | fail "no step"))
  rename Fr g' _ _ _ => F2
  rename News g' _ _ _ => N2
  let J9 : Nat → Array Value → List (Addr × Obj) → Prop := (fun i ys nw => ∃ xs led, ys = (xs.map Value.ref).toArray ∧ SeekL w.params (beginOf ko ca) (endOf ko cb) (cks.take i) xs led ∧ nw = led ++ ((L' + 1, oc) :: news) ∧ ∀ p ∈ led, ∀ q ∈ (L' + 1, oc) :: news, q.1 < p.1)
  refine Stop.go (compAt_list (items := rowsA) news J9 rfl hR rfl rfl
    (asg_tuple (xs := [(Str.ofString "kind", _), (Str.ofString "wanted", _), (Str.ofString "before", _), (Str.ofString "after", _)]) (Tup := fun i vs => ∃ vk vw c, vs = [vk, vw, v1, v2] ∧ cks[i]? = some c ∧ SKind vk vw c) rfl rfl (by decide) (fun _ => rfl) (fun _ => rfl) (fun _ => rfl) ?_) ?_ (by omega) ?_ F2 N2 ⟨[], [], rfl, .nil, rfl, fun p hp => nomatch hp⟩ ?_ ?_)
  · intro i v hv
    have hi : i < cks.length := by rw [← hlen]; exact (Array.getElem?_eq_some_iff.mp hv).1
    obtain ⟨T, vk, vw, h1, h2, h3⟩ := hrow i _ (List.getElem?_eq_getElem hi)
    obtain rfl := Option.some.inj (hv.symm.trans h1)
    exact ⟨T, _, _, [vk, vw, v1, v2], rfl, h2, rfl, rfl, ⟨vk, vw, _, rfl, List.getElem?_eq_getElem hi, h3⟩, rfl⟩
  · rintro i ys nw h ⟨xs, led, _, _, rfl, _⟩ Nh _ p hp
    exact Nh.get (List.mem_append_right _ (List.mem_cons_of_mem _ hp))
  · rintro i ys nw ⟨xs, led, rfl, hS, _⟩
    have := hS.len
    simp at this ⊢
    omega
  · intro s₂ D C I i v ys k nw oC2 oI _ h tk E hz1 hv hz2 hoff hns hz3 F5 N5 hlt hDC
    (try k_fold)
    obtain ⟨hh, rfl⟩ := hz1
    obtain ⟨xs, led, rfl, hS, rfl, hle⟩ := hz2
    obtain ⟨mC0, vs, ⟨vk, vw, c, rfl, hci, hsk⟩, rfl⟩ := hz3
    clear F2 N2
    obtain ⟨mC1, hns1, e1, e2, e3, e4⟩ := put4 hns (by decide) (by decide) (by decide) (by decide) (by decide) (by decide)
    clear hns
    have N6 : News g' L' h ((D, listOf (xs.map Value.ref).toArray k) :: (C, oC2) :: (I, oI) :: (L' + 1, oc) :: (led ++ news)) := fun p hp => N5 p (by
      simp only [own3, List.mem_cons, List.mem_append, List.not_mem_nil, or_false] at hp ⊢
      grind)
    clear N5
    refine wpAny_pure ?_
    (try (k_unfold; (try dsimp only)))
    rw [if_pos rfl]
    (repeat' (first | (k_unfold; (try dsimp only)) | (k_end; kc_close) | (with_reducible first | ((show wpAny _ _ (call (Value.ref 146) _) _ _ _); refine Stop.of ?_) | ((show wpAny _ _ (call (Value.ref 153) _) _ _ _); refine Stop.of ?_) | ((show wpAny _ _ (exec (Stmt.For (Expr.Tuple _ _ _) (Expr.Call _ _ _ _) _ [] _) _) _ _ _); refine Stop.of ?_) | ((show wpAny _ _ (call (Value.builtin "len") [Value.ref _]) _ _ _); refine Stop.of ?_) | ((show wpAny _ _ (binaryOp Operator.Mult (Value.ref _) (Value.int _ _)) _ _ _); refine Stop.of ?_) | ((show wpAny _ _ (subscriptTail _ _ (Value.ref _) (Value.int _ _)) _ _ _); refine Stop.of ?_) | ((show wpAny _ _ (setItem (Value.ref _) (Value.int _ _) _) _ _ _); refine Stop.of ?_) | ((show wpAny _ _ (eval (Expr.Constant (Const.int _) _ _) _) _ _ _); refine flat_int ?_) | ((show wpAny _ _ (binaryOp Operator.Add (Value.int _ _) (Value.int _ _)) _ _ _); refine flat_add ?_) | ((show wpAny _ _ (binaryOp Operator.Sub (Value.int _ _) (Value.int _ _)) _ _ _); refine flat_sub ?_) | ((show wpAny _ _ (eval (Expr.BinOp _ _ _ _) _) _ _ _); k_fold; k_dflt walk1) | ((show wpAny _ _ (eval (Expr.Compare _ _ _ _) _) _ _ _); k_fold; k_dflt walk1)) | walk1 | (dsimp only; first | (with_reducible first | ((show wpAny _ _ (call (Value.ref 146) _) _ _ _); refine Stop.of ?_) | ((show wpAny _ _ (call (Value.ref 153) _) _ _ _); refine Stop.of ?_) | ((show wpAny _ _ (exec (Stmt.For (Expr.Tuple _ _ _) (Expr.Call _ _ _ _) _ [] _) _) _ _ _); refine Stop.of ?_) | ((show wpAny _ _ (call (Value.builtin "len") [Value.ref _]) _ _ _); refine Stop.of ?_) | ((show wpAny _ _ (binaryOp Operator.Mult (Value.ref _) (Value.int _ _)) _ _ _); refine Stop.of ?_) | ((show wpAny _ _ (subscriptTail _ _ (Value.ref _) (Value.int _ _)) _ _ _); refine Stop.of ?_) | ((show wpAny _ _ (setItem (Value.ref _) (Value.int _ _) _) _ _ _); refine Stop.of ?_)) | walk1) | (leave1; walk_say "STEP leave1"; try dsimp only) | fail "no step"))
    rename Fr g' _ _ _ => F7
    rename News g' _ _ _ => N7
    refine Stop.go ?_
    (try k_fold)
    refine (Ct.use (seeker_of_ct w o vk vw v1 v2 ko c cb ca t1 _ ho hsk hv1 hv2 (by omega)) (by k_asm) F7 (by k_asm) N7 (by k_asm) rfl (by ktr_room) (by ktr_units) ?_)
    intro r n8 h8 tk8 F8 N8 hz1
    (try k_fold)
    obtain ⟨x, d, es, rfl, rfl, hse, hltd, hdx⟩ := hz1
    have hled : ∀ p ∈ led, p.1 < d := fun p hp => hltd p (by simp [hp])
    have hDd : D < d := hltd (D, listOf (xs.map Value.ref).toArray k) (by simp)
    have hCd : C < d := hltd (C, oC2) (by simp)
    have hId : I < d := hltd (I, oI) (by simp)
    refine CompEnd.mk F8 (fun p hp => N8 p (by
      simp only [own3, List.mem_cons, List.mem_append, List.not_mem_nil, or_false] at hp ⊢
      grind)) (news' := (led ++ [(x, instObj 135 d), (d, dictOf es 6)]) ++ ((L' + 1, oc) :: news)) ?_ ⟨xs ++ [x], led ++ [(x, instObj 135 d), (d, dictOf es 6)], by simp, ?_, rfl, ?_⟩
    · intro p hp
      rcases List.mem_append.mp hp with hp | hp
      · rcases List.mem_append.mp hp with hp | hp
        · exact hoff p (by simp [hp])
        · rcases List.mem_cons.mp hp with rfl | hp
          · exact ⟨Nat.ne_of_gt (Nat.lt_trans hDd hdx), Nat.ne_of_gt (Nat.lt_trans hCd hdx), Nat.ne_of_gt (Nat.lt_trans hId hdx)⟩
          · rw [List.mem_singleton.mp hp]
            exact ⟨Nat.ne_of_gt hDd, Nat.ne_of_gt hCd, Nat.ne_of_gt hId⟩
      · exact hoff p (List.mem_append_right _ hp)
    · rw [List.take_add_one, hci]
      exact hS.snoc hse (Nat.ne_of_gt hdx) fun p hp => ⟨Nat.ne_of_lt (Nat.lt_trans (hled p hp) hdx), Nat.ne_of_lt (hled p hp)⟩
    · intro p hp q hq
      rcases List.mem_append.mp hp with hp | hp
      · exact hle p hp q hq
      · have hqd : q.1 < d := hltd q (by
          rcases List.mem_cons.mp hq with rfl | hq
          · simp
          · simp [hq])
        rcases List.mem_cons.mp hp with rfl | hp
        · exact Nat.lt_trans hqd hdx
        · rw [List.mem_singleton.mp hp]; exact hqd
  · intro s₂ D C h tk ys k nw mC hz1 hCL hC0 hz2 hD hC hlt F5 N5 hns
    (try k_fold)
    obtain ⟨hh, rfl⟩ := hz1
    obtain ⟨xs, led, rfl, hS, rfl, hle⟩ := hz2
    refine' compPost_assign2 (L := L') ?kL ?ky ?kp ?k1 ?k2 ?k3 ?kF ?kN ?kH ?_; (case kL => rfl); (case ky => rfl); (case kp => rfl); (case k1 => exact hCL); (case k2 => exact hC0); (case kF => exact F5); (case kN => exact N5); (case k3 => exact hC); (case kH => exact hns)
    intro h5 tk5 F6 N6
    clear F5 N5 F2 N2
    rw [hlen, List.take_of_length_le (Nat.le_refl _)] at hS
    have N6 : News g' L' h5 ((L' + 1, oc) :: (D, listOf (xs.map Value.ref).toArray k) :: (led ++ news)) := fun p hp => N6 p (by
      simp only [List.mem_cons, List.mem_append, List.not_mem_nil, or_false] at hp ⊢
      grind)
    (repeat' (first | (k_unfold; (try dsimp only)) | (k_end; kc_close) | (with_reducible first | ((show wpAny _ _ (call (Value.ref 146) _) _ _ _); refine Stop.of ?_) | ((show wpAny _ _ (call (Value.ref 153) _) _ _ _); refine Stop.of ?_) | ((show wpAny _ _ (exec (Stmt.For (Expr.Tuple _ _ _) (Expr.Call _ _ _ _) _ [] _) _) _ _ _); refine Stop.of ?_) | ((show wpAny _ _ (call (Value.builtin "len") [Value.ref _]) _ _ _); refine Stop.of ?_) | ((show wpAny _ _ (binaryOp Operator.Mult (Value.ref _) (Value.int _ _)) _ _ _); refine Stop.of ?_) | ((show wpAny _ _ (subscriptTail _ _ (Value.ref _) (Value.int _ _)) _ _ _); refine Stop.of ?_) | ((show wpAny _ _ (setItem (Value.ref _) (Value.int _ _) _) _ _ _); refine Stop.of ?_) | ((show wpAny _ _ (eval (Expr.Constant (Const.int _) _ _) _) _ _ _); refine flat_int ?_) | ((show wpAny _ _ (binaryOp Operator.Add (Value.int _ _) (Value.int _ _)) _ _ _); refine flat_add ?_) | ((show wpAny _ _ (binaryOp Operator.Sub (Value.int _ _) (Value.int _ _)) _ _ _); refine flat_sub ?_) | ((show wpAny _ _ (eval (Expr.BinOp _ _ _ _) _) _ _ _); k_fold; k_dflt walk1) | ((show wpAny _ _ (eval (Expr.Compare _ _ _ _) _) _ _ _); k_fold; k_dflt walk1)) | walk1 | (dsimp only; first | (with_reducible first | ((show wpAny _ _ (call (Value.ref 146) _) _ _ _); refine Stop.of ?_) | ((show wpAny _ _ (call (Value.ref 153) _) _ _ _); refine Stop.of ?_) | ((show wpAny _ _ (exec (Stmt.For (Expr.Tuple _ _ _) (Expr.Call _ _ _ _) _ [] _) _) _ _ _); refine Stop.of ?_) | ((show wpAny _ _ (call (Value.builtin "len") [Value.ref _]) _ _ _); refine Stop.of ?_) | ((show wpAny _ _ (binaryOp Operator.Mult (Value.ref _) (Value.int _ _)) _ _ _); refine Stop.of ?_) | ((show wpAny _ _ (subscriptTail _ _ (Value.ref _) (Value.int _ _)) _ _ _); refine Stop.of ?_) | ((show wpAny _ _ (setItem (Value.ref _) (Value.int _ _) _) _ _ _); refine Stop.of ?_)) | walk1) | (leave1; walk_say "STEP leave1"; try dsimp only) | fail "no step"))
    rename News g' _ _ _ => N7
    refine Stop.go ?_
    (try k_fold)
    refine (len_list (items := rowsA) ⟨_, N7.get (show (R, listOf rowsA kR) ∈ _ by simp [hR]), rfl, kR, rfl⟩ (by omega) ?_)
    (repeat' (first | (k_unfold; (try dsimp only)) | (k_end; kc_close) | (with_reducible first | ((show wpAny _ _ (call (Value.ref 146) _) _ _ _); refine Stop.of ?_) | ((show wpAny _ _ (call (Value.ref 153) _) _ _ _); refine Stop.of ?_) | ((show wpAny _ _ (exec (Stmt.For (Expr.Tuple _ _ _) (Expr.Call _ _ _ _) _ [] _) _) _ _ _); refine Stop.of ?_) | ((show wpAny _ _ (call (Value.builtin "len") [Value.ref _]) _ _ _); refine Stop.of ?_) | ((show wpAny _ _ (binaryOp Operator.Mult (Value.ref _) (Value.int _ _)) _ _ _); refine Stop.of ?_) | ((show wpAny _ _ (subscriptTail _ _ (Value.ref _) (Value.int _ _)) _ _ _); refine Stop.of ?_) | ((show wpAny _ _ (setItem (Value.ref _) (Value.int _ _) _) _ _ _); refine Stop.of ?_) | ((show wpAny _ _ (eval (Expr.Constant (Const.int _) _ _) _) _ _ _); refine flat_int ?_) | ((show wpAny _ _ (binaryOp Operator.Add (Value.int _ _) (Value.int _ _)) _ _ _); refine flat_add ?_) | ((show wpAny _ _ (binaryOp Operator.Sub (Value.int _ _) (Value.int _ _)) _ _ _); refine flat_sub ?_) | ((show wpAny _ _ (eval (Expr.BinOp _ _ _ _) _) _ _ _); k_fold; k_dflt walk1) | ((show wpAny _ _ (eval (Expr.Compare _ _ _ _) _) _ _ _); k_fold; k_dflt walk1)) | walk1 | (dsimp only; first | (with_reducible first | ((show wpAny _ _ (call (Value.ref 146) _) _ _ _); refine Stop.of ?_) | ((show wpAny _ _ (call (Value.ref 153) _) _ _ _); refine Stop.of ?_) | ((show wpAny _ _ (exec (Stmt.For (Expr.Tuple _ _ _) (Expr.Call _ _ _ _) _ [] _) _) _ _ _); refine Stop.of ?_) | ((show wpAny _ _ (call (Value.builtin "len") [Value.ref _]) _ _ _); refine Stop.of ?_) | ((show wpAny _ _ (binaryOp Operator.Mult (Value.ref _) (Value.int _ _)) _ _ _); refine Stop.of ?_) | ((show wpAny _ _ (subscriptTail _ _ (Value.ref _) (Value.int _ _)) _ _ _); refine Stop.of ?_) | ((show wpAny _ _ (setItem (Value.ref _) (Value.int _ _) _) _ _ _); refine Stop.of ?_)) | walk1) | (leave1; walk_say "STEP leave1"; try dsimp only) | fail "no step"))
    rename Fr g' _ _ _ => F8
    rename News g' _ _ _ => N8
    refine Stop.go ?_
    (try k_fold)
    refine (KM.mul (vs := [.int 0 _]) (ns := [0]) F8 N8 ⟨_, N8.get (List.mem_cons_self ..), rfl, _, rfl⟩ (.cons _ _ .nil) (by omega) (by omega) (by simp; omega) ?_)
    intro Cn h6 F9 N9 hltC hiC _ _ _ _ _
    clear F8 N8
    have erep : (List.replicate ((rowsA.size : Int)).toNat [(0 : Int)]).flatten = List.replicate cks.length 0 := by rw [rep_flat, Int.toNat_natCast, hlen]
    rw [erep] at hiC
    generalize List.flatten _ = vC at N9 hiC
    (repeat' (first | (k_unfold; (try dsimp only)) | (k_end; kc_close) | (with_reducible first | ((show wpAny _ _ (call (Value.ref 146) _) _ _ _); refine Stop.of ?_) | ((show wpAny _ _ (call (Value.ref 153) _) _ _ _); refine Stop.of ?_) | ((show wpAny _ _ (exec (Stmt.For (Expr.Tuple _ _ _) (Expr.Call _ _ _ _) _ [] _) _) _ _ _); refine Stop.of ?_) | ((show wpAny _ _ (call (Value.builtin "len") [Value.ref _]) _ _ _); refine Stop.of ?_) | ((show wpAny _ _ (binaryOp Operator.Mult (Value.ref _) (Value.int _ _)) _ _ _); refine Stop.of ?_) | ((show wpAny _ _ (subscriptTail _ _ (Value.ref _) (Value.int _ _)) _ _ _); refine Stop.of ?_) | ((show wpAny _ _ (setItem (Value.ref _) (Value.int _ _) _) _ _ _); refine Stop.of ?_) | ((show wpAny _ _ (eval (Expr.Constant (Const.int _) _ _) _) _ _ _); refine flat_int ?_) | ((show wpAny _ _ (binaryOp Operator.Add (Value.int _ _) (Value.int _ _)) _ _ _); refine flat_add ?_) | ((show wpAny _ _ (binaryOp Operator.Sub (Value.int _ _) (Value.int _ _)) _ _ _); refine flat_sub ?_) | ((show wpAny _ _ (eval (Expr.BinOp _ _ _ _) _) _ _ _); k_fold; k_dflt walk1) | ((show wpAny _ _ (eval (Expr.Compare _ _ _ _) _) _ _ _); k_fold; k_dflt walk1)) | walk1 | (dsimp only; first | (with_reducible first | ((show wpAny _ _ (call (Value.ref 146) _) _ _ _); refine Stop.of ?_) | ((show wpAny _ _ (call (Value.ref 153) _) _ _ _); refine Stop.of ?_) | ((show wpAny _ _ (exec (Stmt.For (Expr.Tuple _ _ _) (Expr.Call _ _ _ _) _ [] _) _) _ _ _); refine Stop.of ?_) | ((show wpAny _ _ (call (Value.builtin "len") [Value.ref _]) _ _ _); refine Stop.of ?_) | ((show wpAny _ _ (binaryOp Operator.Mult (Value.ref _) (Value.int _ _)) _ _ _); refine Stop.of ?_) | ((show wpAny _ _ (subscriptTail _ _ (Value.ref _) (Value.int _ _)) _ _ _); refine Stop.of ?_) | ((show wpAny _ _ (setItem (Value.ref _) (Value.int _ _) _) _ _ _); refine Stop.of ?_)) | walk1) | (leave1; walk_say "STEP leave1"; try dsimp only) | fail "no step"))
    refine Stop.go ?_
    (try k_fold)
    refine (wpAny_For ?_)
    (repeat' (first | (k_unfold; (try dsimp only)) | (k_end; kc_close) | (with_reducible first | ((show wpAny _ _ (call (Value.ref 146) _) _ _ _); refine Stop.of ?_) | ((show wpAny _ _ (call (Value.ref 153) _) _ _ _); refine Stop.of ?_) | ((show wpAny _ _ (exec (Stmt.For (Expr.Tuple _ _ _) (Expr.Call _ _ _ _) _ [] _) _) _ _ _); refine Stop.of ?_) | ((show wpAny _ _ (call (Value.builtin "len") [Value.ref _]) _ _ _); refine Stop.of ?_) | ((show wpAny _ _ (binaryOp Operator.Mult (Value.ref _) (Value.int _ _)) _ _ _); refine Stop.of ?_) | ((show wpAny _ _ (subscriptTail _ _ (Value.ref _) (Value.int _ _)) _ _ _); refine Stop.of ?_) | ((show wpAny _ _ (setItem (Value.ref _) (Value.int _ _) _) _ _ _); refine Stop.of ?_) | ((show wpAny _ _ (eval (Expr.Constant (Const.int _) _ _) _) _ _ _); refine flat_int ?_) | ((show wpAny _ _ (binaryOp Operator.Add (Value.int _ _) (Value.int _ _)) _ _ _); refine flat_add ?_) | ((show wpAny _ _ (binaryOp Operator.Sub (Value.int _ _) (Value.int _ _)) _ _ _); refine flat_sub ?_) | ((show wpAny _ _ (eval (Expr.BinOp _ _ _ _) _) _ _ _); k_fold; k_dflt walk1) | ((show wpAny _ _ (eval (Expr.Compare _ _ _ _) _) _ _ _); k_fold; k_dflt walk1)) | walk1 | (dsimp only; first | (with_reducible first | ((show wpAny _ _ (call (Value.ref 146) _) _ _ _); refine Stop.of ?_) | ((show wpAny _ _ (call (Value.ref 153) _) _ _ _); refine Stop.of ?_) | ((show wpAny _ _ (exec (Stmt.For (Expr.Tuple _ _ _) (Expr.Call _ _ _ _) _ [] _) _) _ _ _); refine Stop.of ?_) | ((show wpAny _ _ (call (Value.builtin "len") [Value.ref _]) _ _ _); refine Stop.of ?_) | ((show wpAny _ _ (binaryOp Operator.Mult (Value.ref _) (Value.int _ _)) _ _ _); refine Stop.of ?_) | ((show wpAny _ _ (subscriptTail _ _ (Value.ref _) (Value.int _ _)) _ _ _); refine Stop.of ?_) | ((show wpAny _ _ (setItem (Value.ref _) (Value.int _ _) _) _ _ _); refine Stop.of ?_)) | walk1) | (leave1; walk_say "STEP leave1"; try dsimp only) | fail "no step"))
    rename Fr g' _ _ _ => F10
    rename News g' _ _ _ => N10
    have N11 : News g' L' _ ((D, listOf (xs.map Value.ref).toArray k) :: (led ++ ((Cn, listOf vC.toArray 0) :: (L' + 1, oc) :: news))) := fun p hp => N10 p (by
      simp only [List.mem_cons, List.mem_append] at hp ⊢
      grind)
    have hltC2 : ∀ p ∈ (D, listOf (xs.map Value.ref).toArray k) :: (led ++ ((L' + 1, oc) :: news)), p.1 < Cn := fun p hp => hltC p (by
      simp only [List.mem_cons, List.mem_append] at hp ⊢
      grind)
    have hDC2 : D < Cn := hltC2 (D, _) (List.mem_cons_self ..)
    have hDL : L' + 1 < D := hlt (L' + 1, oc) (List.mem_cons_self ..)
    clear N10
    refine Stop.go ?_
    (try k_fold)
    refine (Ct.use (fits_in_ct w o ko (beginOf ko ca) (endOf ko cb) cks xs led ((Cn, listOf vC.toArray 0) :: (L' + 1, oc) :: news) D k t1 ho (by omega) hS (by omega) ?_ ?_) (by k_asm) F10 (by k_asm) N11 (by k_asm) rfl (by ktr_room) (by ktr_units) ?_)
    · intro p hp
      rcases List.mem_append.mp hp with hp | hp
      · exact hD p (List.mem_append_left _ hp)
      · rcases List.mem_cons.mp hp with rfl | hp
        · exact Nat.ne_of_gt hDC2
        · exact Nat.ne_of_lt (hlt p hp)
    · intro p hp q hq
      rcases List.mem_cons.mp hp with rfl | hp
      · exact Nat.ne_of_gt (hltC2 q (by simp [hq]))
      · exact Nat.ne_of_lt (hle q hq p hp)
    intro r n12 h12 tk12 F12 N12 hz1
    (try k_fold)
    obtain ⟨Ff, Ts, tl', led', k', rfl, hS', hadr, rfl, hT, hfr⟩ := hz1
    clear F10 N11
    have N13 : News g' L' h12 ((Cn, listOf vC.toArray 0) :: (Ff, listOf (Ts.map Value.ref).toArray k') :: (tl' ++ news)) := fun p hp => N12 p (by
      simp only [List.mem_cons, List.mem_append] at hp ⊢
      grind)
    clear N12
    have hCnT : ∀ p ∈ (Ff, listOf (Ts.map Value.ref).toArray k') :: tl', Cn < p.1 := fun p hp => hfr p hp (Cn, listOf vC.toArray 0) (by simp)
    have hneC : ∀ p ∈ (Ff, listOf (Ts.map Value.ref).toArray k') :: (tl' ++ news), p.1 ≠ Cn := by
      intro p hp
      rcases List.mem_cons.mp hp with rfl | hp
      · exact Nat.ne_of_gt (hCnT _ (List.mem_cons_self ..))
      · rcases List.mem_append.mp hp with hp | hp
        · exact Nat.ne_of_gt (hCnT p (List.mem_cons_of_mem _ hp))
        · exact Nat.ne_of_lt (hltC2 p (by simp [hp]))
    have hfl : (fitsL ko cks (beginOf ko ca) (endOf ko cb) ko.length).length ≤ ko.length := fitsL_len
    obtain ⟨m0, hm0, F12⟩ : ∃ m0, m0 = _ ∧ Fr g' L' _ m0 := ⟨_, rfl, F12⟩
    (repeat' (first | (k_unfold; (try dsimp only)) | (k_end; kc_close) | (with_reducible first | ((show wpAny _ _ (call (Value.ref 146) _) _ _ _); refine Stop.of ?_) | ((show wpAny _ _ (call (Value.ref 153) _) _ _ _); refine Stop.of ?_) | ((show wpAny _ _ (exec (Stmt.For (Expr.Tuple _ _ _) (Expr.Call _ _ _ _) _ [] _) _) _ _ _); refine Stop.of ?_) | ((show wpAny _ _ (call (Value.builtin "len") [Value.ref _]) _ _ _); refine Stop.of ?_) | ((show wpAny _ _ (binaryOp Operator.Mult (Value.ref _) (Value.int _ _)) _ _ _); refine Stop.of ?_) | ((show wpAny _ _ (subscriptTail _ _ (Value.ref _) (Value.int _ _)) _ _ _); refine Stop.of ?_) | ((show wpAny _ _ (setItem (Value.ref _) (Value.int _ _) _) _ _ _); refine Stop.of ?_) | ((show wpAny _ _ (eval (Expr.Constant (Const.int _) _ _) _) _ _ _); refine flat_int ?_) | ((show wpAny _ _ (binaryOp Operator.Add (Value.int _ _) (Value.int _ _)) _ _ _); refine flat_add ?_) | ((show wpAny _ _ (binaryOp Operator.Sub (Value.int _ _) (Value.int _ _)) _ _ _); refine flat_sub ?_) | ((show wpAny _ _ (eval (Expr.BinOp _ _ _ _) _) _ _ _); k_fold; k_dflt walk1) | ((show wpAny _ _ (eval (Expr.Compare _ _ _ _) _) _ _ _); k_fold; k_dflt walk1)) | walk1 | (dsimp only; first | (with_reducible first | ((show wpAny _ _ (call (Value.ref 146) _) _ _ _); refine Stop.of ?_) | ((show wpAny _ _ (call (Value.ref 153) _) _ _ _); refine Stop.of ?_) | ((show wpAny _ _ (exec (Stmt.For (Expr.Tuple _ _ _) (Expr.Call _ _ _ _) _ [] _) _) _ _ _); refine Stop.of ?_) | ((show wpAny _ _ (call (Value.builtin "len") [Value.ref _]) _ _ _); refine Stop.of ?_) | ((show wpAny _ _ (binaryOp Operator.Mult (Value.ref _) (Value.int _ _)) _ _ _); refine Stop.of ?_) | ((show wpAny _ _ (subscriptTail _ _ (Value.ref _) (Value.int _ _)) _ _ _); refine Stop.of ?_) | ((show wpAny _ _ (setItem (Value.ref _) (Value.int _ _) _) _ _ _); refine Stop.of ?_)) | walk1) | (leave1; walk_say "STEP leave1"; try dsimp only) | fail "no step"))
    let J9 : Nat → (Str → Option Value) → List (Addr × Obj) → Prop := (fun i m₁ news₁ => ∃ vs2 k2, news₁ = (Cn, listOf vs2 k2) :: (Ff, listOf (Ts.map Value.ref).toArray k') :: (tl' ++ news) ∧ IntsAre vs2.toList (tallyAll (List.replicate cks.length 0) ((fitsL ko cks (beginOf ko ca) (endOf ko cb) ko.length).take i)) ∧
      ∃ va vb, m₁ = fun y => if y = Str.ofString "number" then vb else if y = Str.ofString "at" then va else m0 y)
    refine Stop.go (iter_listJ (lo := listOf (Ts.map Value.ref).toArray k') (vs := Ts.map Value.ref) J9
      rfl rfl rfl ?_ F12 N13 ⟨_, _, rfl, hiC, norm2 fun _ _ _ => rfl⟩ ?_ ?_)
    · rintro i m₁ news₁ ⟨vs2, k2, rfl, _⟩
      simp
    · intro I oI i v m₁ news₁ h3 tk3 hv hz1 hoff F14 N14
      (try k_fold)
      obtain ⟨vs2, k2, rfl, hi2, va, vb, rfl⟩ := hz1
      clear F12 N13
      obtain ⟨T, hTi, rfl⟩ : ∃ T, Ts[i]? = some T ∧ v = .ref T := by
        rw [List.getElem?_map] at hv
        obtain ⟨T, h1, h2⟩ := Option.map_eq_some_iff.mp hv
        exact ⟨T, h1, h2.symm⟩
      have hil : i < (fitsL ko cks (beginOf ko ca) (endOf ko cb) ko.length).length := by rw [← hT.1]; exact (List.getElem?_eq_some_iff.mp hTi).1
      obtain ⟨pi, pj, hp⟩ : ∃ pi pj, (fitsL ko cks (beginOf ko ca) (endOf ko cb) ko.length)[i]? = some (pi, pj) := ⟨_, _, List.getElem?_eq_getElem hil⟩
      obtain ⟨T', u1, u2, hT1, hT2⟩ := hT.2 i pi pj hp
      obtain rfl : T' = T := Option.some.inj (hT1.symm.trans hTi)
      have hpj := (fitsL_mem (List.mem_of_getElem? hp)).2
      replace F14 : Fr g' L' h3 _ := F14
      have N15 : News g' L' h3 ((T', tup2 (.int pi u1) (.int pj u2)) :: (Cn, listOf vs2 k2) :: (Ff, listOf (Ts.map Value.ref).toArray k') :: (tl' ++ news) ++ [(I, oI)]) := fun p hp => N14 p (by
        simp only [List.mem_cons, List.mem_append, List.not_mem_nil, or_false] at hp ⊢
        grind)
      clear N14
      subst hm0
      simp only [List.cons_append] at N15
      (repeat' (first | (k_unfold; (try dsimp only)) | (k_end; kc_close) | (with_reducible first | ((show wpAny _ _ (call (Value.ref 146) _) _ _ _); refine Stop.of ?_) | ((show wpAny _ _ (call (Value.ref 153) _) _ _ _); refine Stop.of ?_) | ((show wpAny _ _ (exec (Stmt.For (Expr.Tuple _ _ _) (Expr.Call _ _ _ _) _ [] _) _) _ _ _); refine Stop.of ?_) | ((show wpAny _ _ (call (Value.builtin "len") [Value.ref _]) _ _ _); refine Stop.of ?_) | ((show wpAny _ _ (binaryOp Operator.Mult (Value.ref _) (Value.int _ _)) _ _ _); refine Stop.of ?_) | ((show wpAny _ _ (subscriptTail _ _ (Value.ref _) (Value.int _ _)) _ _ _); refine Stop.of ?_) | ((show wpAny _ _ (setItem (Value.ref _) (Value.int _ _) _) _ _ _); refine Stop.of ?_) | ((show wpAny _ _ (eval (Expr.Constant (Const.int _) _ _) _) _ _ _); refine flat_int ?_) | ((show wpAny _ _ (binaryOp Operator.Add (Value.int _ _) (Value.int _ _)) _ _ _); refine flat_add ?_) | ((show wpAny _ _ (binaryOp Operator.Sub (Value.int _ _) (Value.int _ _)) _ _ _); refine flat_sub ?_) | ((show wpAny _ _ (eval (Expr.BinOp _ _ _ _) _) _ _ _); k_fold; k_dflt walk1) | ((show wpAny _ _ (eval (Expr.Compare _ _ _ _) _) _ _ _); k_fold; k_dflt walk1)) | walk1 | (dsimp only; first | (with_reducible first | ((show wpAny _ _ (call (Value.ref 146) _) _ _ _); refine Stop.of ?_) | ((show wpAny _ _ (call (Value.ref 153) _) _ _ _); refine Stop.of ?_) | ((show wpAny _ _ (exec (Stmt.For (Expr.Tuple _ _ _) (Expr.Call _ _ _ _) _ [] _) _) _ _ _); refine Stop.of ?_) | ((show wpAny _ _ (call (Value.builtin "len") [Value.ref _]) _ _ _); refine Stop.of ?_) | ((show wpAny _ _ (binaryOp Operator.Mult (Value.ref _) (Value.int _ _)) _ _ _); refine Stop.of ?_) | ((show wpAny _ _ (subscriptTail _ _ (Value.ref _) (Value.int _ _)) _ _ _); refine Stop.of ?_) | ((show wpAny _ _ (setItem (Value.ref _) (Value.int _ _) _) _ _ _); refine Stop.of ?_)) | walk1) | (leave1; walk_say "STEP leave1"; try dsimp only) | fail "no step"))
      rename News g' _ _ _ => N16
      have hlt2 : pj < (tallyAll (List.replicate cks.length 0) ((fitsL ko cks (beginOf ko ca) (endOf ko cb) ko.length).take i)).length := by rw [tallyAll_len]; simpa using hpj
      obtain ⟨tq, hq⟩ := ints_get hi2 hlt2
      have hsz2 := ints_size hi2
      rw [tallyAll_len, List.length_replicate] at hsz2
      refine Stop.go ?_
      (try k_fold)
      refine (list_item (vs := vs2) ⟨_, N16.get (show (Cn, listOf vs2 k2) ∈ _ by simp), rfl, k2, rfl⟩ (by omega) (by omega) (by rw [Int.toNat_natCast, ← Array.getElem?_toList]; exact hq) ?_)
      (repeat' (first | (k_unfold; (try dsimp only)) | (k_end; kc_close) | (with_reducible first | ((show wpAny _ _ (call (Value.ref 146) _) _ _ _); refine Stop.of ?_) | ((show wpAny _ _ (call (Value.ref 153) _) _ _ _); refine Stop.of ?_) | ((show wpAny _ _ (exec (Stmt.For (Expr.Tuple _ _ _) (Expr.Call _ _ _ _) _ [] _) _) _ _ _); refine Stop.of ?_) | ((show wpAny _ _ (call (Value.builtin "len") [Value.ref _]) _ _ _); refine Stop.of ?_) | ((show wpAny _ _ (binaryOp Operator.Mult (Value.ref _) (Value.int _ _)) _ _ _); refine Stop.of ?_) | ((show wpAny _ _ (subscriptTail _ _ (Value.ref _) (Value.int _ _)) _ _ _); refine Stop.of ?_) | ((show wpAny _ _ (setItem (Value.ref _) (Value.int _ _) _) _ _ _); refine Stop.of ?_) | ((show wpAny _ _ (eval (Expr.Constant (Const.int _) _ _) _) _ _ _); refine flat_int ?_) | ((show wpAny _ _ (binaryOp Operator.Add (Value.int _ _) (Value.int _ _)) _ _ _); refine flat_add ?_) | ((show wpAny _ _ (binaryOp Operator.Sub (Value.int _ _) (Value.int _ _)) _ _ _); refine flat_sub ?_) | ((show wpAny _ _ (eval (Expr.BinOp _ _ _ _) _) _ _ _); k_fold; k_dflt walk1) | ((show wpAny _ _ (eval (Expr.Compare _ _ _ _) _) _ _ _); k_fold; k_dflt walk1)) | walk1 | (dsimp only; first | (with_reducible first | ((show wpAny _ _ (call (Value.ref 146) _) _ _ _); refine Stop.of ?_) | ((show wpAny _ _ (call (Value.ref 153) _) _ _ _); refine Stop.of ?_) | ((show wpAny _ _ (exec (Stmt.For (Expr.Tuple _ _ _) (Expr.Call _ _ _ _) _ [] _) _) _ _ _); refine Stop.of ?_) | ((show wpAny _ _ (call (Value.builtin "len") [Value.ref _]) _ _ _); refine Stop.of ?_) | ((show wpAny _ _ (binaryOp Operator.Mult (Value.ref _) (Value.int _ _)) _ _ _); refine Stop.of ?_) | ((show wpAny _ _ (subscriptTail _ _ (Value.ref _) (Value.int _ _)) _ _ _); refine Stop.of ?_) | ((show wpAny _ _ (setItem (Value.ref _) (Value.int _ _) _) _ _ _); refine Stop.of ?_)) | walk1) | (leave1; walk_say "STEP leave1"; try dsimp only) | fail "no step"))
      rename Fr g' _ _ _ => F17
      rename News g' _ _ _ => N17
      replace N17 : News g' L' _ ((Cn, listOf vs2 k2) :: ((Ff, listOf (Ts.map Value.ref).toArray k') :: (tl' ++ news) ++ [(I, oI)])) := fun p hp => N17 p (by
        simp only [List.mem_cons, List.mem_append, List.not_mem_nil, or_false] at hp ⊢
        grind)
      refine Stop.go ?_
      (try k_fold)
      refine (set_list F17 N17 rfl (by simp) (Upd.head ?_) (by omega) (by omega) (by omega) ?_)
      · intro p hp
        rcases List.mem_append.mp hp with hp | hp
        · exact hneC p hp
        · rw [List.mem_singleton.mp hp]; exact Ne.symm (hoff (Cn, listOf vs2 k2) (List.mem_cons_self ..))
      intro h8 F18 N18
      clear F17 N17
      (repeat' (first | (k_unfold; (try dsimp only)) | (k_end; kc_close) | (with_reducible first | ((show wpAny _ _ (call (Value.ref 146) _) _ _ _); refine Stop.of ?_) | ((show wpAny _ _ (call (Value.ref 153) _) _ _ _); refine Stop.of ?_) | ((show wpAny _ _ (exec (Stmt.For (Expr.Tuple _ _ _) (Expr.Call _ _ _ _) _ [] _) _) _ _ _); refine Stop.of ?_) | ((show wpAny _ _ (call (Value.builtin "len") [Value.ref _]) _ _ _); refine Stop.of ?_) | ((show wpAny _ _ (binaryOp Operator.Mult (Value.ref _) (Value.int _ _)) _ _ _); refine Stop.of ?_) | ((show wpAny _ _ (subscriptTail _ _ (Value.ref _) (Value.int _ _)) _ _ _); refine Stop.of ?_) | ((show wpAny _ _ (setItem (Value.ref _) (Value.int _ _) _) _ _ _); refine Stop.of ?_) | ((show wpAny _ _ (eval (Expr.Constant (Const.int _) _ _) _) _ _ _); refine flat_int ?_) | ((show wpAny _ _ (binaryOp Operator.Add (Value.int _ _) (Value.int _ _)) _ _ _); refine flat_add ?_) | ((show wpAny _ _ (binaryOp Operator.Sub (Value.int _ _) (Value.int _ _)) _ _ _); refine flat_sub ?_) | ((show wpAny _ _ (eval (Expr.BinOp _ _ _ _) _) _ _ _); k_fold; k_dflt walk1) | ((show wpAny _ _ (eval (Expr.Compare _ _ _ _) _) _ _ _); k_fold; k_dflt walk1)) | walk1 | (dsimp only; first | (with_reducible first | ((show wpAny _ _ (call (Value.ref 146) _) _ _ _); refine Stop.of ?_) | ((show wpAny _ _ (call (Value.ref 153) _) _ _ _); refine Stop.of ?_) | ((show wpAny _ _ (exec (Stmt.For (Expr.Tuple _ _ _) (Expr.Call _ _ _ _) _ [] _) _) _ _ _); refine Stop.of ?_) | ((show wpAny _ _ (call (Value.builtin "len") [Value.ref _]) _ _ _); refine Stop.of ?_) | ((show wpAny _ _ (binaryOp Operator.Mult (Value.ref _) (Value.int _ _)) _ _ _); refine Stop.of ?_) | ((show wpAny _ _ (subscriptTail _ _ (Value.ref _) (Value.int _ _)) _ _ _); refine Stop.of ?_) | ((show wpAny _ _ (setItem (Value.ref _) (Value.int _ _) _) _ _ _); refine Stop.of ?_)) | walk1) | (leave1; walk_say "STEP leave1"; try dsimp only) | fail "no step"))
      refine TurnEnd.next (news' := (Cn, listOf _ k2) :: (Ff, listOf (Ts.map Value.ref).toArray k') :: (tl' ++ news)) (by k_asm) (by k_asm) ?_ ⟨_, _, rfl, ?_, norm2 fun z h1 h2 => by simp only [if_neg h1, if_neg h2]⟩
      · intro p hp
        rcases List.mem_cons.mp hp with rfl | hp
        · exact hoff (Cn, listOf vs2 k2) (List.mem_cons_self ..)
        · exact hoff p (List.mem_cons_of_mem _ hp)
      · rw [tally_step hp, Int.toNat_natCast, Array.toList_setIfInBounds]
        exact ints_set hi2 _ _ _
    · intro m₁ news₁ h3 tk3 hz1 F14 N14
      (try k_fold)
      obtain ⟨vs2, k2, rfl, hi2, va, vb, rfl⟩ := hz1
      clear F12 N13
      replace F14 : Fr g' L' h3 _ := F14
      replace N14 : News g' L' h3 _ := N14
      rw [List.length_map, hT.1, List.take_length, tallyAll_counts] at hi2
      subst hm0
      (repeat' (first | (k_unfold; (try dsimp only)) | (k_end; kc_close) | (with_reducible first | ((show wpAny _ _ (call (Value.ref 146) _) _ _ _); refine Stop.of ?_) | ((show wpAny _ _ (call (Value.ref 153) _) _ _ _); refine Stop.of ?_) | ((show wpAny _ _ (exec (Stmt.For (Expr.Tuple _ _ _) (Expr.Call _ _ _ _) _ [] _) _) _ _ _); refine Stop.of ?_) | ((show wpAny _ _ (call (Value.builtin "len") [Value.ref _]) _ _ _); refine Stop.of ?_) | ((show wpAny _ _ (binaryOp Operator.Mult (Value.ref _) (Value.int _ _)) _ _ _); refine Stop.of ?_) | ((show wpAny _ _ (subscriptTail _ _ (Value.ref _) (Value.int _ _)) _ _ _); refine Stop.of ?_) | ((show wpAny _ _ (setItem (Value.ref _) (Value.int _ _) _) _ _ _); refine Stop.of ?_) | ((show wpAny _ _ (eval (Expr.Constant (Const.int _) _ _) _) _ _ _); refine flat_int ?_) | ((show wpAny _ _ (binaryOp Operator.Add (Value.int _ _) (Value.int _ _)) _ _ _); refine flat_add ?_) | ((show wpAny _ _ (binaryOp Operator.Sub (Value.int _ _) (Value.int _ _)) _ _ _); refine flat_sub ?_) | ((show wpAny _ _ (eval (Expr.BinOp _ _ _ _) _) _ _ _); k_fold; k_dflt walk1) | ((show wpAny _ _ (eval (Expr.Compare _ _ _ _) _) _ _ _); k_fold; k_dflt walk1)) | walk1 | (dsimp only; first | (with_reducible first | ((show wpAny _ _ (call (Value.ref 146) _) _ _ _); refine Stop.of ?_) | ((show wpAny _ _ (call (Value.ref 153) _) _ _ _); refine Stop.of ?_) | ((show wpAny _ _ (exec (Stmt.For (Expr.Tuple _ _ _) (Expr.Call _ _ _ _) _ [] _) _) _ _ _); refine Stop.of ?_) | ((show wpAny _ _ (call (Value.builtin "len") [Value.ref _]) _ _ _); refine Stop.of ?_) | ((show wpAny _ _ (binaryOp Operator.Mult (Value.ref _) (Value.int _ _)) _ _ _); refine Stop.of ?_) | ((show wpAny _ _ (subscriptTail _ _ (Value.ref _) (Value.int _ _)) _ _ _); refine Stop.of ?_) | ((show wpAny _ _ (setItem (Value.ref _) (Value.int _ _) _) _ _ _); refine Stop.of ?_)) | walk1) | (leave1; walk_say "STEP leave1"; try dsimp only) | fail "no step"))
      exact hret _ _ _ _ (by k_asm) (fun p hp => (by k_asm : News h₀ L _ ((Cn, listOf vs2 k2) :: (Ff, listOf (Ts.map Value.ref).toArray k') :: (tl' ++ news))) p (by
        simp only [List.mem_cons, List.mem_append] at hp ⊢
        grind)) ⟨Cn, vs2, k2, rfl, rfl, hi2, fun p hp => hltC2 p (by simp [hp])⟩
end



noncomputable abbrev tup5 (a b c d e : Value) : Obj := { cls := .type "tuple", data := .seq #[a, b, c, d, e] }
theorem tup_item {prog : Program} {w : World} {A : Around} {E : Value → Shared → Prop} {s : Shared} {value slice : PySem.Expr} {T : Addr} {items : Array Value} {k : Nat} {u : Tok} {v : Value} {Q : Value → Shared → Prop}
    (ht : IsTup s.heap T items) (hk : k < items.size) (hs9 : items.size ≤ 100) (hx : items[k]? = some v) (h : Q v s)
    (hs : subscripted slice false (.ref T) (.int k u) = operate [.ref T, .int k u] (getItem (.ref T) (.int k u)) := by with_unfolding_all rfl) :
    wpAny (model prog w) A (subscriptTail value slice (.ref T) (.int k u)) Q E s :=
  tail_any ht.typeIs slot_tuple_getitem.lookup (getItem_tuple (j := k) ht (by omega) (by omega) (by unfold seqIndex?; simp; omega) hx h) hs
theorem set_step {kg l : List Int} {ps : List (Nat × Nat)} {i pi pj : Nat} (h : ps[i]? = some (pi, pj)) : setAll kg l (ps.take (i + 1)) = (setAll kg l (ps.take i)).set pi (kg.getD pj 0) := by
  rw [List.take_add_one, h]
  unfold setAll
  rw [List.foldl_append]
  rfl
theorem slice_set {kl : List Int} {pi : Nat} {v : Int} (h : pi < kl.length) : List.take (min pi kl.length) kl ++ [v] ++ List.take (kl.length - clipAt kl.length ((pi : Int) + 1)) (List.drop (clipAt kl.length ((pi : Int) + 1)) kl) = kl.set pi v := by
  rw [clip_nat (by omega), show ((pi : Int) + 1).toNat = pi + 1 by omega, Nat.min_eq_left (by omega), Nat.min_eq_left (by omega), List.set_eq_take_append_cons_drop, if_pos h, List.take_of_length_le (l := List.drop (pi + 1) kl) (by simp), List.append_assoc]
  rfl
theorem setAll_len {kg l : List Int} {ps : List (Nat × Nat)} : (setAll kg l ps).length = l.length := by
  unfold setAll
  induction ps generalizing l with
  | nil => rfl
  | cons p r ih => rw [List.foldl_cons, ih]; simp
section
theorem replaced_ct (w : World) (o : Array UInt8) (ko kg : List Int) (cks : List (Option Int)) (cb ca : Option Int) (v1 v2 : Value) (R : Addr) (rowsA : Array Value) (kR : Nat) (t1 : Tok) (news : List (Addr × Obj)) (ho : KBw.bInts o = ko) (hz : ko.length ≤ 500)
    (hv1 : OptB v1 cb) (hv2 : OptB v2 ca) (hR : (R, listOf rowsA kR) ∈ news) (hlen : rowsA.size = cks.length) (hcs : cks.length ≤ 90)
    (hrow : ∀ (i : Nat) (c : Option Int), cks[i]? = some c → ∃ T vk vw by' tby, rowsA[i]? = some (.ref T) ∧ (T, tup5 vk vw (.bytes by' tby) v1 v2) ∈ news ∧ SKind vk vw c ∧ KBw.bInts by' = [kg.getD i 0]) :
    Ct w 163 [.bytes o t1, .ref R] 16 300 news (Pure news fun r => ∃ y t, r = .bytes y t ∧ KBw.bInts y = setAll kg ko (fitsL ko cks (beginOf ko ca) (endOf ko cb) ko.length)) := by
  unfold Ct
  k_fill
  intro loose mean mg mb dp un gd cn cs a ccd cl outer A₀ base h₀ L m s Q E B F X N T hk hd hu hret
  refine wpAny_call ?_
  k_dflt (refine' code_defC (binds := [(Str.ofString "octets", .bytes o t1), (Str.ofString "rows", .ref R)]) ?k1 ?k2 ?k3 ?k4 ?k5 ?kA ?kF ?kK ?k6 ?k7 ?k8 ?k9 ?kB ?kD ?_ ?c2 ?c3 ?c4; (case kA => exact rfl); (case kF => exact rfl); (case kK => assumption); (case k1 => k_asm); (case k2 => k_asm); (case k3 => k_asm); (case k4 => k_asm); (case k5 => k_asm); (case k6 => k_is); (case k7 => k_is); (case k8 => ktr_room); (case k9 => exact BindsTo.of_eq rfl); (case kB => exact rfl); (case kD => decide +kernel); (case c2 => exact rfl); (case c3 => exact rfl); (case c4 => exact rfl); k_whole)
  intro g' L' h' tk' cells' FG' F' N' Y' B' X' T' l1
  k_cells Y'
  (try simp only [List.cons_append, List.nil_append] at N')
  (try dsimp only)
  (try k_fold)
  rename_i oc ec
  have hcell : ∀ p ∈ news, p.1 < L' + 1 := fun p hp => Nat.lt_succ_of_lt (l1 p hp)
  (repeat' (first | (k_unfold; (try dsimp only)) | (k_end; kc_close) | (with_reducible first | ((show wpAny _ _ (call (Value.ref 146) _) _ _ _); refine Stop.of ?_) | ((show wpAny _ _ (call (Value.ref 153) _) _ _ _); refine Stop.of ?_) | ((show wpAny _ _ (call (Value.ref 111) _) _ _ _); refine Stop.of ?_) | ((show wpAny _ _ (exec (Stmt.For _ (Expr.Call (Expr.Name (Str.ofString "fits_in") _) _ _ _) _ _ _) _) _ _ _); refine Stop.of ?_) | ((show wpAny _ _ (subscriptTail _ _ (Value.ref _) (Value.int _ _)) _ _ _); refine Stop.of ?_) | (k_here; (show wpAny _ _ (call (Value.ref 60) _) _ _ _); (try k_fold); (k_dflt (refine' Ct.use (fault_ct _ _ _ _) ?k1 ?k2 ?k3 ?k4 ?k5 ?kK ?kd ?ku ?_; (case k1 => k_asm); (case k2 => k_asm); (case k3 => k_asm); (case k4 => k_asm); (case k5 => k_asm); (case kK => first | exact rfl | assumption); (case kd => ktr_room); (case ku => ktr_units))); (intro _ _ _ _ _ _ hp9; obtain ⟨_, _, _, _, hr9, hn9, _⟩ := hp9; subst hr9; subst hn9); (try dsimp only); (try k_fold)) | ((show wpAny _ _ (exec (Stmt.Raise (some _) none _) _) _ _ _); (with_reducible refine raise_fault rfl ?_)) | ((show FaultUp _ _ _); k_dflt (refine ⟨_, _, _, _, _, _, _, _, _, rfl, (Frag.In.keeps (K := Mine.hd.heap_39 _) (by k_asm) (Fr.keep (by k_asm))) 60 _ rfl, News.get (by k_asm) (List.mem_cons_self ..), ?_⟩)) | ((show wpAny _ _ (eval (Expr.Constant (Const.int _) _ _) _) _ _ _); refine flat_int ?_) | ((show wpAny _ _ (binaryOp Operator.Add (Value.int _ _) (Value.int _ _)) _ _ _); refine flat_add ?_) | ((show wpAny _ _ (binaryOp Operator.Sub (Value.int _ _) (Value.int _ _)) _ _ _); refine flat_sub ?_) | ((show wpAny _ _ (eval (Expr.BinOp _ _ _ _) _) _ _ _); k_fold; k_dflt walk1) | ((show wpAny _ _ (eval (Expr.Compare _ _ _ _) _) _ _ _); k_fold; k_dflt walk1)) | walk1 | (dsimp only; first | (with_reducible first | ((show wpAny _ _ (call (Value.ref 146) _) _ _ _); refine Stop.of ?_) | ((show wpAny _ _ (call (Value.ref 153) _) _ _ _); refine Stop.of ?_) | ((show wpAny _ _ (call (Value.ref 111) _) _ _ _); refine Stop.of ?_) | ((show wpAny _ _ (exec (Stmt.For _ (Expr.Call (Expr.Name (Str.ofString "fits_in") _) _ _ _) _ _ _) _) _ _ _); refine Stop.of ?_) | ((show wpAny _ _ (subscriptTail _ _ (Value.ref _) (Value.int _ _)) _ _ _); refine Stop.of ?_) | (k_here; (show wpAny _ _ (call (Value.ref 60) _) _ _ _); (try k_fold); (k_dflt (refine' Ct.use (fault_ct _ _ _ _) ?k1 ?k2 ?k3 ?k4 ?k5 ?kK ?kd ?ku ?_; (case k1 => k_asm); (case k2 => k_asm); (case k3 => k_asm); (case k4 => k_asm); (case k5 => k_asm); (case kK => first | exact rfl | assumption); (case kd => ktr_room); (case ku => ktr_units))); (intro _ _ _ _ _ _ hp9; obtain ⟨_, _, _, _, hr9, hn9, _⟩ := hp9; subst hr9; subst hn9); (try dsimp only); (try k_fold)) | ((show wpAny _ _ (exec (Stmt.Raise (some _) none _) _) _ _ _); (with_reducible refine raise_fault rfl ?_)) | ((show FaultUp _ _ _); k_dflt (refine ⟨_, _, _, _, _, _, _, _, _, rfl, (Frag.In.keeps (K := Mine.hd.heap_39 _) (by k_asm) (Fr.keep (by k_asm))) 60 _ rfl, News.get (by k_asm) (List.mem_cons_self ..), ?_⟩))) | walk1) | (leave1; walk_say "STEP leave1"; try dsimp only) | fail "no step"))
  refine Stop.go ?_
  (try k_fold)
  refine (assign_comp (h₀ := g') (L := L') (by with_unfolding_all rfl) (by with_unfolding_all rfl) (by decide) rfl (by decide) ?_)
  (repeat' (first | (k_unfold; (try dsimp only)) | (k_end; kc_close) | (with_reducible first | ((show wpAny _ _ (call (Value.ref 146) _) _ _ _); refine Stop.of ?_) | ((show wpAny _ _ (call (Value.ref 153) _) _ _ _); refine Stop.of ?_) | ((show wpAny _ _ (call (Value.ref 111) _) _ _ _); refine Stop.of ?_) | ((show wpAny _ _ (exec (Stmt.For _ (Expr.Call (Expr.Name (Str.ofString "fits_in") _) _ _ _) _ _ _) _) _ _ _); refine Stop.of ?_) | ((show wpAny _ _ (subscriptTail _ _ (Value.ref _) (Value.int _ _)) _ _ _); refine Stop.of ?_) | (k_here; (show wpAny _ _ (call (Value.ref 60) _) _ _ _); (try k_fold); (k_dflt (refine' Ct.use (fault_ct _ _ _ _) ?k1 ?k2 ?k3 ?k4 ?k5 ?kK ?kd ?ku ?_; (case k1 => k_asm); (case k2 => k_asm); (case k3 => k_asm); (case k4 => k_asm); (case k5 => k_asm); (case kK => first | exact rfl | assumption); (case kd => ktr_room); (case ku => ktr_units))); (intro _ _ _ _ _ _ hp9; obtain ⟨_, _, _, _, hr9, hn9, _⟩ := hp9; subst hr9; subst hn9); (try dsimp only); (try k_fold)) | ((show wpAny _ _ (exec (Stmt.Raise (some _) none _) _) _ _ _); (with_reducible refine raise_fault rfl ?_)) | ((show FaultUp _ _ _); k_dflt (refine ⟨_, _, _, _, _, _, _, _, _, rfl, (Frag.In.keeps (K := Mine.hd.heap_39 _) (by k_asm) (Fr.keep (by k_asm))) 60 _ rfl, News.get (by k_asm) (List.mem_cons_self ..), ?_⟩)) | ((show wpAny _ _ (eval (Expr.Constant (Const.int _) _ _) _) _ _ _); refine flat_int ?_) | ((show wpAny _ _ (binaryOp Operator.Add (Value.int _ _) (Value.int _ _)) _ _ _); refine flat_add ?_) | ((show wpAny _ _ (binaryOp Operator.Sub (Value.int _ _) (Value.int _ _)) _ _ _); refine flat_sub ?_) | ((show wpAny _ _ (eval (Expr.BinOp _ _ _ _) _) _ _ _); k_fold; k_dflt walk1) | ((show wpAny _ _ (eval (Expr.Compare _ _ _ _) _) _ _ _); k_fold; k_dflt walk1)) | walk1 | (dsimp only; first | (with_reducible first | ((show wpAny _ _ (call (Value.ref 146) _) _ _ _); refine Stop.of ?_) | ((show wpAny _ _ (call (Value.ref 153) _) _ _ _); refine Stop.of ?_) | ((show wpAny _ _ (call (Value.ref 111) _) _ _ _); refine Stop.of ?_) | ((show wpAny _ _ (exec (Stmt.For _ (Expr.Call (Expr.Name (Str.ofString "fits_in") _) _ _ _) _ _ _) _) _ _ _); refine Stop.of ?_) | ((show wpAny _ _ (subscriptTail _ _ (Value.ref _) (Value.int _ _)) _ _ _); refine Stop.of ?_) | (k_here; (show wpAny _ _ (call (Value.ref 60) _) _ _ _); (try k_fold); (k_dflt (refine' Ct.use (fault_ct _ _ _ _) ?k1 ?k2 ?k3 ?k4 ?k5 ?kK ?kd ?ku ?_; (case k1 => k_asm); (case k2 => k_asm); (case k3 => k_asm); (case k4 => k_asm); (case k5 => k_asm); (case kK => first | exact rfl | assumption); (case kd => ktr_room); (case ku => ktr_units))); (intro _ _ _ _ _ _ hp9; obtain ⟨_, _, _, _, hr9, hn9, _⟩ := hp9; subst hr9; subst hn9); (try dsimp only); (try k_fold)) | ((show wpAny _ _ (exec (Stmt.Raise (some _) none _) _) _ _ _); (with_reducible refine raise_fault rfl ?_)) | ((show FaultUp _ _ _); k_dflt (refine ⟨_, _, _, _, _, _, _, _, _, rfl, (Frag.In.keeps (K := Mine.hd.heap_39 _) (by k_asm) (Fr.keep (by k_asm))) 60 _ rfl, News.get (by k_asm) (List.mem_cons_self ..), ?_⟩))) | walk1) | (leave1; walk_say "STEP leave1"; try dsimp only) | fail "no step"))
  rename Fr g' _ _ _ => F2
  rename News g' _ _ _ => N2
  let J9 : Nat → Array Value → List (Addr × Obj) → Prop := (fun i ys nw => ∃ xs led, ys = (xs.map Value.ref).toArray ∧ SeekL w.params (beginOf ko ca) (endOf ko cb) (cks.take i) xs led ∧ nw = led ++ ((L' + 1, oc) :: news) ∧ ∀ p ∈ led, ∀ q ∈ (L' + 1, oc) :: news, q.1 < p.1)
  refine Stop.go (compAt_list (items := rowsA) news J9 rfl hR rfl rfl
    (asg_tuple (xs := [(Str.ofString "kind", _), (Str.ofString "wanted", _), (Str.ofString "by", _), (Str.ofString "before", _), (Str.ofString "after", _)]) (Tup := fun i vs => ∃ vk vw vy c, vs = [vk, vw, vy, v1, v2] ∧ cks[i]? = some c ∧ SKind vk vw c) rfl rfl (by decide) (fun _ => rfl) (fun _ => rfl) (fun _ => rfl) ?_) ?_ (by omega) ?_ F2 N2 ⟨[], [], rfl, .nil, rfl, fun p hp => nomatch hp⟩ ?_ ?_)
  · intro i v hv
    have hi : i < cks.length := by rw [← hlen]; exact (Array.getElem?_eq_some_iff.mp hv).1
    obtain ⟨T, vk, vw, y', ty', h1, h2, h3, _⟩ := hrow i _ (List.getElem?_eq_getElem hi)
    obtain rfl := Option.some.inj (hv.symm.trans h1)
    exact ⟨T, _, _, [vk, vw, _, v1, v2], rfl, h2, rfl, rfl, ⟨vk, vw, _, _, rfl, List.getElem?_eq_getElem hi, h3⟩, rfl⟩
  · rintro i ys nw h ⟨xs, led, _, _, rfl, _⟩ Nh _ p hp
    exact Nh.get (List.mem_append_right _ (List.mem_cons_of_mem _ hp))
  · rintro i ys nw ⟨xs, led, rfl, hS, _⟩
    have := hS.len
    simp at this ⊢
    omega
  · intro s₂ D C I i v ys k nw oC2 oI _ h tk E hz1 hv hz2 hoff hns hz3 F5 N5 hlt hDC
    (try k_fold)
    obtain ⟨hh, rfl⟩ := hz1
    obtain ⟨xs, led, rfl, hS, rfl, hle⟩ := hz2
    obtain ⟨mC0, vs, ⟨vk, vw, vy, c, rfl, hci, hsk⟩, rfl⟩ := hz3
    clear F2 N2
    obtain ⟨mC1, hns1, e1, e2, _, e3, e4⟩ := put5 hns (by decide) (by decide) (by decide) (by decide) (by decide) (by decide) (by decide) (by decide) (by decide) (by decide)
    clear hns
    have N6 : News g' L' h ((D, listOf (xs.map Value.ref).toArray k) :: (C, oC2) :: (I, oI) :: (L' + 1, oc) :: (led ++ news)) := fun p hp => N5 p (by
      simp only [own3, List.mem_cons, List.mem_append, List.not_mem_nil, or_false] at hp ⊢
      grind)
    clear N5
    refine wpAny_pure ?_
    (try (k_unfold; (try dsimp only)))
    rw [if_pos rfl]
    (repeat' (first | (k_unfold; (try dsimp only)) | (k_end; kc_close) | (with_reducible first | ((show wpAny _ _ (call (Value.ref 146) _) _ _ _); refine Stop.of ?_) | ((show wpAny _ _ (call (Value.ref 153) _) _ _ _); refine Stop.of ?_) | ((show wpAny _ _ (call (Value.ref 111) _) _ _ _); refine Stop.of ?_) | ((show wpAny _ _ (exec (Stmt.For _ (Expr.Call (Expr.Name (Str.ofString "fits_in") _) _ _ _) _ _ _) _) _ _ _); refine Stop.of ?_) | ((show wpAny _ _ (subscriptTail _ _ (Value.ref _) (Value.int _ _)) _ _ _); refine Stop.of ?_) | (k_here; (show wpAny _ _ (call (Value.ref 60) _) _ _ _); (try k_fold); (k_dflt (refine' Ct.use (fault_ct _ _ _ _) ?k1 ?k2 ?k3 ?k4 ?k5 ?kK ?kd ?ku ?_; (case k1 => k_asm); (case k2 => k_asm); (case k3 => k_asm); (case k4 => k_asm); (case k5 => k_asm); (case kK => first | exact rfl | assumption); (case kd => ktr_room); (case ku => ktr_units))); (intro _ _ _ _ _ _ hp9; obtain ⟨_, _, _, _, hr9, hn9, _⟩ := hp9; subst hr9; subst hn9); (try dsimp only); (try k_fold)) | ((show wpAny _ _ (exec (Stmt.Raise (some _) none _) _) _ _ _); (with_reducible refine raise_fault rfl ?_)) | ((show FaultUp _ _ _); k_dflt (refine ⟨_, _, _, _, _, _, _, _, _, rfl, (Frag.In.keeps (K := Mine.hd.heap_39 _) (by k_asm) (Fr.keep (by k_asm))) 60 _ rfl, News.get (by k_asm) (List.mem_cons_self ..), ?_⟩)) | ((show wpAny _ _ (eval (Expr.Constant (Const.int _) _ _) _) _ _ _); refine flat_int ?_) | ((show wpAny _ _ (binaryOp Operator.Add (Value.int _ _) (Value.int _ _)) _ _ _); refine flat_add ?_) | ((show wpAny _ _ (binaryOp Operator.Sub (Value.int _ _) (Value.int _ _)) _ _ _); refine flat_sub ?_) | ((show wpAny _ _ (eval (Expr.BinOp _ _ _ _) _) _ _ _); k_fold; k_dflt walk1) | ((show wpAny _ _ (eval (Expr.Compare _ _ _ _) _) _ _ _); k_fold; k_dflt walk1)) | walk1 | (dsimp only; first | (with_reducible first | ((show wpAny _ _ (call (Value.ref 146) _) _ _ _); refine Stop.of ?_) | ((show wpAny _ _ (call (Value.ref 153) _) _ _ _); refine Stop.of ?_) | ((show wpAny _ _ (call (Value.ref 111) _) _ _ _); refine Stop.of ?_) | ((show wpAny _ _ (exec (Stmt.For _ (Expr.Call (Expr.Name (Str.ofString "fits_in") _) _ _ _) _ _ _) _) _ _ _); refine Stop.of ?_) | ((show wpAny _ _ (subscriptTail _ _ (Value.ref _) (Value.int _ _)) _ _ _); refine Stop.of ?_) | (k_here; (show wpAny _ _ (call (Value.ref 60) _) _ _ _); (try k_fold); (k_dflt (refine' Ct.use (fault_ct _ _ _ _) ?k1 ?k2 ?k3 ?k4 ?k5 ?kK ?kd ?ku ?_; (case k1 => k_asm); (case k2 => k_asm); (case k3 => k_asm); (case k4 => k_asm); (case k5 => k_asm); (case kK => first | exact rfl | assumption); (case kd => ktr_room); (case ku => ktr_units))); (intro _ _ _ _ _ _ hp9; obtain ⟨_, _, _, _, hr9, hn9, _⟩ := hp9; subst hr9; subst hn9); (try dsimp only); (try k_fold)) | ((show wpAny _ _ (exec (Stmt.Raise (some _) none _) _) _ _ _); (with_reducible refine raise_fault rfl ?_)) | ((show FaultUp _ _ _); k_dflt (refine ⟨_, _, _, _, _, _, _, _, _, rfl, (Frag.In.keeps (K := Mine.hd.heap_39 _) (by k_asm) (Fr.keep (by k_asm))) 60 _ rfl, News.get (by k_asm) (List.mem_cons_self ..), ?_⟩))) | walk1) | (leave1; walk_say "STEP leave1"; try dsimp only) | fail "no step"))
    rename Fr g' _ _ _ => F7
    rename News g' _ _ _ => N7
    refine Stop.go ?_
    (try k_fold)
    refine (Ct.use (seeker_of_ct w o vk vw v1 v2 ko c cb ca t1 _ ho hsk hv1 hv2 (by omega)) (by k_asm) F7 (by k_asm) N7 (by k_asm) rfl (by ktr_room) (by ktr_units) ?_)
    intro r n8 h8 tk8 F8 N8 hz1
    (try k_fold)
    obtain ⟨x, d, es, rfl, rfl, hse, hltd, hdx⟩ := hz1
    have hled : ∀ p ∈ led, p.1 < d := fun p hp => hltd p (by simp [hp])
    have hDd : D < d := hltd (D, listOf (xs.map Value.ref).toArray k) (by simp)
    have hCd : C < d := hltd (C, oC2) (by simp)
    have hId : I < d := hltd (I, oI) (by simp)
    refine CompEnd.mk F8 (fun p hp => N8 p (by
      simp only [own3, List.mem_cons, List.mem_append, List.not_mem_nil, or_false] at hp ⊢
      grind)) (news' := (led ++ [(x, instObj 135 d), (d, dictOf es 6)]) ++ ((L' + 1, oc) :: news)) ?_ ⟨xs ++ [x], led ++ [(x, instObj 135 d), (d, dictOf es 6)], by simp, ?_, rfl, ?_⟩
    · intro p hp
      rcases List.mem_append.mp hp with hp | hp
      · rcases List.mem_append.mp hp with hp | hp
        · exact hoff p (by simp [hp])
        · rcases List.mem_cons.mp hp with rfl | hp
          · exact ⟨Nat.ne_of_gt (Nat.lt_trans hDd hdx), Nat.ne_of_gt (Nat.lt_trans hCd hdx), Nat.ne_of_gt (Nat.lt_trans hId hdx)⟩
          · rw [List.mem_singleton.mp hp]
            exact ⟨Nat.ne_of_gt hDd, Nat.ne_of_gt hCd, Nat.ne_of_gt hId⟩
      · exact hoff p (List.mem_append_right _ hp)
    · rw [List.take_add_one, hci]
      exact hS.snoc hse (Nat.ne_of_gt hdx) fun p hp => ⟨Nat.ne_of_lt (Nat.lt_trans (hled p hp) hdx), Nat.ne_of_lt (hled p hp)⟩
    · intro p hp q hq
      rcases List.mem_append.mp hp with hp | hp
      · exact hle p hp q hq
      · have hqd : q.1 < d := hltd q (by
          rcases List.mem_cons.mp hq with rfl | hq
          · simp
          · simp [hq])
        rcases List.mem_cons.mp hp with rfl | hp
        · exact Nat.lt_trans hqd hdx
        · rw [List.mem_singleton.mp hp]; exact hqd
  · intro s₂ D C h tk ys k nw mC hz1 hCL hC0 hz2 hD hC hlt F5 N5 hns
    (try k_fold)
    obtain ⟨hh, rfl⟩ := hz1
    obtain ⟨xs, led, rfl, hS, rfl, hle⟩ := hz2
    refine' compPost_assign2 (L := L') ?kL ?ky ?kp ?k1 ?k2 ?k3 ?kF ?kN ?kH ?_; (case kL => rfl); (case ky => rfl); (case kp => rfl); (case k1 => exact hCL); (case k2 => exact hC0); (case kF => exact F5); (case kN => exact N5); (case k3 => exact hC); (case kH => exact hns)
    intro h5 tk5 F6 N6
    clear F5 N5 F2 N2
    rw [hlen, List.take_of_length_le (Nat.le_refl _)] at hS
    have N6 : News g' L' h5 ((L' + 1, oc) :: (D, listOf (xs.map Value.ref).toArray k) :: (led ++ news)) := fun p hp => N6 p (by
      simp only [List.mem_cons, List.mem_append, List.not_mem_nil, or_false] at hp ⊢
      grind)
    have hlen2 := hS.len
    have hDne : (D : Addr) ≠ L' := (N6 (D, listOf (xs.map Value.ref).toArray k) (by simp)).2.1
    (repeat' (first | (k_unfold; (try dsimp only)) | (k_end; kc_close) | (with_reducible first | ((show wpAny _ _ (call (Value.ref 146) _) _ _ _); refine Stop.of ?_) | ((show wpAny _ _ (call (Value.ref 153) _) _ _ _); refine Stop.of ?_) | ((show wpAny _ _ (call (Value.ref 111) _) _ _ _); refine Stop.of ?_) | ((show wpAny _ _ (exec (Stmt.For _ (Expr.Call (Expr.Name (Str.ofString "fits_in") _) _ _ _) _ _ _) _) _ _ _); refine Stop.of ?_) | ((show wpAny _ _ (subscriptTail _ _ (Value.ref _) (Value.int _ _)) _ _ _); refine Stop.of ?_) | (k_here; (show wpAny _ _ (call (Value.ref 60) _) _ _ _); (try k_fold); (k_dflt (refine' Ct.use (fault_ct _ _ _ _) ?k1 ?k2 ?k3 ?k4 ?k5 ?kK ?kd ?ku ?_; (case k1 => k_asm); (case k2 => k_asm); (case k3 => k_asm); (case k4 => k_asm); (case k5 => k_asm); (case kK => first | exact rfl | assumption); (case kd => ktr_room); (case ku => ktr_units))); (intro _ _ _ _ _ _ hp9; obtain ⟨_, _, _, _, hr9, hn9, _⟩ := hp9; subst hr9; subst hn9); (try dsimp only); (try k_fold)) | ((show wpAny _ _ (exec (Stmt.Raise (some _) none _) _) _ _ _); (with_reducible refine raise_fault rfl ?_)) | ((show FaultUp _ _ _); k_dflt (refine ⟨_, _, _, _, _, _, _, _, _, rfl, (Frag.In.keeps (K := Mine.hd.heap_39 _) (by k_asm) (Fr.keep (by k_asm))) 60 _ rfl, News.get (by k_asm) (List.mem_cons_self ..), ?_⟩)) | ((show wpAny _ _ (eval (Expr.Constant (Const.int _) _ _) _) _ _ _); refine flat_int ?_) | ((show wpAny _ _ (binaryOp Operator.Add (Value.int _ _) (Value.int _ _)) _ _ _); refine flat_add ?_) | ((show wpAny _ _ (binaryOp Operator.Sub (Value.int _ _) (Value.int _ _)) _ _ _); refine flat_sub ?_) | ((show wpAny _ _ (eval (Expr.BinOp _ _ _ _) _) _ _ _); k_fold; k_dflt walk1) | ((show wpAny _ _ (eval (Expr.Compare _ _ _ _) _) _ _ _); k_fold; k_dflt walk1)) | walk1 | (dsimp only; first | (with_reducible first | ((show wpAny _ _ (call (Value.ref 146) _) _ _ _); refine Stop.of ?_) | ((show wpAny _ _ (call (Value.ref 153) _) _ _ _); refine Stop.of ?_) | ((show wpAny _ _ (call (Value.ref 111) _) _ _ _); refine Stop.of ?_) | ((show wpAny _ _ (exec (Stmt.For _ (Expr.Call (Expr.Name (Str.ofString "fits_in") _) _ _ _) _ _ _) _) _ _ _); refine Stop.of ?_) | ((show wpAny _ _ (subscriptTail _ _ (Value.ref _) (Value.int _ _)) _ _ _); refine Stop.of ?_) | (k_here; (show wpAny _ _ (call (Value.ref 60) _) _ _ _); (try k_fold); (k_dflt (refine' Ct.use (fault_ct _ _ _ _) ?k1 ?k2 ?k3 ?k4 ?k5 ?kK ?kd ?ku ?_; (case k1 => k_asm); (case k2 => k_asm); (case k3 => k_asm); (case k4 => k_asm); (case k5 => k_asm); (case kK => first | exact rfl | assumption); (case kd => ktr_room); (case ku => ktr_units))); (intro _ _ _ _ _ _ hp9; obtain ⟨_, _, _, _, hr9, hn9, _⟩ := hp9; subst hr9; subst hn9); (try dsimp only); (try k_fold)) | ((show wpAny _ _ (exec (Stmt.Raise (some _) none _) _) _ _ _); (with_reducible refine raise_fault rfl ?_)) | ((show FaultUp _ _ _); k_dflt (refine ⟨_, _, _, _, _, _, _, _, _, rfl, (Frag.In.keeps (K := Mine.hd.heap_39 _) (by k_asm) (Fr.keep (by k_asm))) 60 _ rfl, News.get (by k_asm) (List.mem_cons_self ..), ?_⟩))) | walk1) | (leave1; walk_say "STEP leave1"; try dsimp only) | fail "no step"))
    rename Fr g' _ _ _ => F6
    rename News g' _ _ _ => N6
    obtain ⟨m1, hm1, F6⟩ : ∃ m1, m1 = _ ∧ Fr g' L' _ m1 := ⟨_, rfl, F6⟩
    let J9 : Nat → (Str → Option Value) → List (Addr × Obj) → Prop := (fun j m₁ news₁ => news₁ = (L' + 1, oc) :: (D, listOf (xs.map Value.ref).toArray k) :: (led ++ news) ∧ ∃ vn vs, m₁ = fun y => if y = Str.ofString "seeker" then vs else if y = Str.ofString "number" then vn else m1 y)
    refine Stop.go (enum_list J9
      rfl (by exact ⟨_, N6.get (show (D, listOf (xs.map Value.ref).toArray k) ∈ _ by simp), rfl, k, rfl⟩) (by exact (N6 (D, listOf (xs.map Value.ref).toArray k) (by simp)).2.2) (by exact hDne) (by exact F6) (by exact N6) ⟨rfl, norm2 fun _ _ _ => rfl⟩ ?_ ?_)
    · intro j v t m₁ news₁ h7 tk7 own hv hz1 hadr hoff F7 N7
      (try k_fold)
      obtain ⟨rfl, vn, vs, rfl⟩ := hz1
      obtain ⟨x, hx, rfl⟩ : ∃ x, xs[j]? = some x ∧ v = .ref x := by
        rw [List.getElem?_toArray, List.getElem?_map] at hv
        obtain ⟨x, h1, h2⟩ := Option.map_eq_some_iff.mp hv
        exact ⟨x, h1, h2.symm⟩
      obtain ⟨c, hc⟩ : ∃ c, cks[j]? = some c := by
        have : j < xs.length := (List.getElem?_eq_some_iff.mp hx).1
        exact ⟨cks[j]'(by omega), List.getElem?_eq_getElem (by omega)⟩
      have hjl : j < cks.length := (List.getElem?_eq_some_iff.mp hc).1
      obtain ⟨T, vk, vw, by', tby, hT1, hT2, hsk, hby⟩ := hrow j c hc
      obtain ⟨d, es, hm1', hm2', k91, k92, k93, k94, k95, k96, vk9, vw9, tb9, te9, vl9, rfl, hk9, hl9⟩ := hS.here (P := w.params) (hd := [(L' + 1, oc), (D, listOf (xs.map Value.ref).toArray k)]) (tl := news ++ own) hc hx
      clear F6 N6
      replace F7 : Fr g' L' h7 _ := F7
      replace N7 : News g' L' h7 _ := N7
      subst hm1
      simp only [List.cons_append, List.nil_append, List.append_assoc] at N7 hm1' hm2'
      have hby1 : ([kg.getD j 0] : List Int).length = 1 := rfl
      (repeat' (first | (k_unfold; (try dsimp only)) | (k_end; kc_close) | (with_reducible first | ((show wpAny _ _ (call (Value.ref 146) _) _ _ _); refine Stop.of ?_) | ((show wpAny _ _ (call (Value.ref 153) _) _ _ _); refine Stop.of ?_) | ((show wpAny _ _ (call (Value.ref 111) _) _ _ _); refine Stop.of ?_) | ((show wpAny _ _ (exec (Stmt.For _ (Expr.Call (Expr.Name (Str.ofString "fits_in") _) _ _ _) _ _ _) _) _ _ _); refine Stop.of ?_) | ((show wpAny _ _ (subscriptTail _ _ (Value.ref _) (Value.int _ _)) _ _ _); refine Stop.of ?_) | (k_here; (show wpAny _ _ (call (Value.ref 60) _) _ _ _); (try k_fold); (k_dflt (refine' Ct.use (fault_ct _ _ _ _) ?k1 ?k2 ?k3 ?k4 ?k5 ?kK ?kd ?ku ?_; (case k1 => k_asm); (case k2 => k_asm); (case k3 => k_asm); (case k4 => k_asm); (case k5 => k_asm); (case kK => first | exact rfl | assumption); (case kd => ktr_room); (case ku => ktr_units))); (intro _ _ _ _ _ _ hp9; obtain ⟨_, _, _, _, hr9, hn9, _⟩ := hp9; subst hr9; subst hn9); (try dsimp only); (try k_fold)) | ((show wpAny _ _ (exec (Stmt.Raise (some _) none _) _) _ _ _); (with_reducible refine raise_fault rfl ?_)) | ((show FaultUp _ _ _); k_dflt (refine ⟨_, _, _, _, _, _, _, _, _, rfl, (Frag.In.keeps (K := Mine.hd.heap_39 _) (by k_asm) (Fr.keep (by k_asm))) 60 _ rfl, News.get (by k_asm) (List.mem_cons_self ..), ?_⟩)) | ((show wpAny _ _ (eval (Expr.Constant (Const.int _) _ _) _) _ _ _); refine flat_int ?_) | ((show wpAny _ _ (binaryOp Operator.Add (Value.int _ _) (Value.int _ _)) _ _ _); refine flat_add ?_) | ((show wpAny _ _ (binaryOp Operator.Sub (Value.int _ _) (Value.int _ _)) _ _ _); refine flat_sub ?_) | ((show wpAny _ _ (eval (Expr.BinOp _ _ _ _) _) _ _ _); k_fold; k_dflt walk1) | ((show wpAny _ _ (eval (Expr.Compare _ _ _ _) _) _ _ _); k_fold; k_dflt walk1)) | walk1 | (dsimp only; first | (with_reducible first | ((show wpAny _ _ (call (Value.ref 146) _) _ _ _); refine Stop.of ?_) | ((show wpAny _ _ (call (Value.ref 153) _) _ _ _); refine Stop.of ?_) | ((show wpAny _ _ (call (Value.ref 111) _) _ _ _); refine Stop.of ?_) | ((show wpAny _ _ (exec (Stmt.For _ (Expr.Call (Expr.Name (Str.ofString "fits_in") _) _ _ _) _ _ _) _) _ _ _); refine Stop.of ?_) | ((show wpAny _ _ (subscriptTail _ _ (Value.ref _) (Value.int _ _)) _ _ _); refine Stop.of ?_) | (k_here; (show wpAny _ _ (call (Value.ref 60) _) _ _ _); (try k_fold); (k_dflt (refine' Ct.use (fault_ct _ _ _ _) ?k1 ?k2 ?k3 ?k4 ?k5 ?kK ?kd ?ku ?_; (case k1 => k_asm); (case k2 => k_asm); (case k3 => k_asm); (case k4 => k_asm); (case k5 => k_asm); (case kK => first | exact rfl | assumption); (case kd => ktr_room); (case ku => ktr_units))); (intro _ _ _ _ _ _ hp9; obtain ⟨_, _, _, _, hr9, hn9, _⟩ := hp9; subst hr9; subst hn9); (try dsimp only); (try k_fold)) | ((show wpAny _ _ (exec (Stmt.Raise (some _) none _) _) _ _ _); (with_reducible refine raise_fault rfl ?_)) | ((show FaultUp _ _ _); k_dflt (refine ⟨_, _, _, _, _, _, _, _, _, rfl, (Frag.In.keeps (K := Mine.hd.heap_39 _) (by k_asm) (Fr.keep (by k_asm))) 60 _ rfl, News.get (by k_asm) (List.mem_cons_self ..), ?_⟩))) | walk1) | (leave1; walk_say "STEP leave1"; try dsimp only) | fail "no step"))
      rename News g' _ _ _ => N8
      refine Stop.go ?_
      (try k_fold)
      refine (list_item (vs := rowsA) ⟨_, N8.get (show (R, listOf rowsA kR) ∈ _ by simp [hR]), rfl, kR, rfl⟩ (by omega) (by omega) (by rw [Int.toNat_natCast]; exact hT1) ?_)
      (repeat' (first | (k_unfold; (try dsimp only)) | (k_end; kc_close) | (with_reducible first | ((show wpAny _ _ (call (Value.ref 146) _) _ _ _); refine Stop.of ?_) | ((show wpAny _ _ (call (Value.ref 153) _) _ _ _); refine Stop.of ?_) | ((show wpAny _ _ (call (Value.ref 111) _) _ _ _); refine Stop.of ?_) | ((show wpAny _ _ (exec (Stmt.For _ (Expr.Call (Expr.Name (Str.ofString "fits_in") _) _ _ _) _ _ _) _) _ _ _); refine Stop.of ?_) | ((show wpAny _ _ (subscriptTail _ _ (Value.ref _) (Value.int _ _)) _ _ _); refine Stop.of ?_) | (k_here; (show wpAny _ _ (call (Value.ref 60) _) _ _ _); (try k_fold); (k_dflt (refine' Ct.use (fault_ct _ _ _ _) ?k1 ?k2 ?k3 ?k4 ?k5 ?kK ?kd ?ku ?_; (case k1 => k_asm); (case k2 => k_asm); (case k3 => k_asm); (case k4 => k_asm); (case k5 => k_asm); (case kK => first | exact rfl | assumption); (case kd => ktr_room); (case ku => ktr_units))); (intro _ _ _ _ _ _ hp9; obtain ⟨_, _, _, _, hr9, hn9, _⟩ := hp9; subst hr9; subst hn9); (try dsimp only); (try k_fold)) | ((show wpAny _ _ (exec (Stmt.Raise (some _) none _) _) _ _ _); (with_reducible refine raise_fault rfl ?_)) | ((show FaultUp _ _ _); k_dflt (refine ⟨_, _, _, _, _, _, _, _, _, rfl, (Frag.In.keeps (K := Mine.hd.heap_39 _) (by k_asm) (Fr.keep (by k_asm))) 60 _ rfl, News.get (by k_asm) (List.mem_cons_self ..), ?_⟩)) | ((show wpAny _ _ (eval (Expr.Constant (Const.int _) _ _) _) _ _ _); refine flat_int ?_) | ((show wpAny _ _ (binaryOp Operator.Add (Value.int _ _) (Value.int _ _)) _ _ _); refine flat_add ?_) | ((show wpAny _ _ (binaryOp Operator.Sub (Value.int _ _) (Value.int _ _)) _ _ _); refine flat_sub ?_) | ((show wpAny _ _ (eval (Expr.BinOp _ _ _ _) _) _ _ _); k_fold; k_dflt walk1) | ((show wpAny _ _ (eval (Expr.Compare _ _ _ _) _) _ _ _); k_fold; k_dflt walk1)) | walk1 | (dsimp only; first | (with_reducible first | ((show wpAny _ _ (call (Value.ref 146) _) _ _ _); refine Stop.of ?_) | ((show wpAny _ _ (call (Value.ref 153) _) _ _ _); refine Stop.of ?_) | ((show wpAny _ _ (call (Value.ref 111) _) _ _ _); refine Stop.of ?_) | ((show wpAny _ _ (exec (Stmt.For _ (Expr.Call (Expr.Name (Str.ofString "fits_in") _) _ _ _) _ _ _) _) _ _ _); refine Stop.of ?_) | ((show wpAny _ _ (subscriptTail _ _ (Value.ref _) (Value.int _ _)) _ _ _); refine Stop.of ?_) | (k_here; (show wpAny _ _ (call (Value.ref 60) _) _ _ _); (try k_fold); (k_dflt (refine' Ct.use (fault_ct _ _ _ _) ?k1 ?k2 ?k3 ?k4 ?k5 ?kK ?kd ?ku ?_; (case k1 => k_asm); (case k2 => k_asm); (case k3 => k_asm); (case k4 => k_asm); (case k5 => k_asm); (case kK => first | exact rfl | assumption); (case kd => ktr_room); (case ku => ktr_units))); (intro _ _ _ _ _ _ hp9; obtain ⟨_, _, _, _, hr9, hn9, _⟩ := hp9; subst hr9; subst hn9); (try dsimp only); (try k_fold)) | ((show wpAny _ _ (exec (Stmt.Raise (some _) none _) _) _ _ _); (with_reducible refine raise_fault rfl ?_)) | ((show FaultUp _ _ _); k_dflt (refine ⟨_, _, _, _, _, _, _, _, _, rfl, (Frag.In.keeps (K := Mine.hd.heap_39 _) (by k_asm) (Fr.keep (by k_asm))) 60 _ rfl, News.get (by k_asm) (List.mem_cons_self ..), ?_⟩))) | walk1) | (leave1; walk_say "STEP leave1"; try dsimp only) | fail "no step"))
      rename News g' _ _ _ => N9
      refine Stop.go ?_
      (try k_fold)
      refine (tup_item (v := .bytes by' tby) (k := 2) (items := #[vk, vw, .bytes by' tby, v1, v2]) ⟨_, N9.get (show (T, tup5 vk vw (.bytes by' tby) v1 v2) ∈ _ by simp [hT2]), rfl, _, rfl⟩ (by simp) (by simp) rfl ?_)
      (repeat' (first | (k_unfold; (try dsimp only)) | (k_end; kc_close) | (with_reducible first | ((show wpAny _ _ (call (Value.ref 146) _) _ _ _); refine Stop.of ?_) | ((show wpAny _ _ (call (Value.ref 153) _) _ _ _); refine Stop.of ?_) | ((show wpAny _ _ (call (Value.ref 111) _) _ _ _); refine Stop.of ?_) | ((show wpAny _ _ (exec (Stmt.For _ (Expr.Call (Expr.Name (Str.ofString "fits_in") _) _ _ _) _ _ _) _) _ _ _); refine Stop.of ?_) | ((show wpAny _ _ (subscriptTail _ _ (Value.ref _) (Value.int _ _)) _ _ _); refine Stop.of ?_) | (k_here; (show wpAny _ _ (call (Value.ref 60) _) _ _ _); (try k_fold); (k_dflt (refine' Ct.use (fault_ct _ _ _ _) ?k1 ?k2 ?k3 ?k4 ?k5 ?kK ?kd ?ku ?_; (case k1 => k_asm); (case k2 => k_asm); (case k3 => k_asm); (case k4 => k_asm); (case k5 => k_asm); (case kK => first | exact rfl | assumption); (case kd => ktr_room); (case ku => ktr_units))); (intro _ _ _ _ _ _ hp9; obtain ⟨_, _, _, _, hr9, hn9, _⟩ := hp9; subst hr9; subst hn9); (try dsimp only); (try k_fold)) | ((show wpAny _ _ (exec (Stmt.Raise (some _) none _) _) _ _ _); (with_reducible refine raise_fault rfl ?_)) | ((show FaultUp _ _ _); k_dflt (refine ⟨_, _, _, _, _, _, _, _, _, rfl, (Frag.In.keeps (K := Mine.hd.heap_39 _) (by k_asm) (Fr.keep (by k_asm))) 60 _ rfl, News.get (by k_asm) (List.mem_cons_self ..), ?_⟩)) | ((show wpAny _ _ (eval (Expr.Constant (Const.int _) _ _) _) _ _ _); refine flat_int ?_) | ((show wpAny _ _ (binaryOp Operator.Add (Value.int _ _) (Value.int _ _)) _ _ _); refine flat_add ?_) | ((show wpAny _ _ (binaryOp Operator.Sub (Value.int _ _) (Value.int _ _)) _ _ _); refine flat_sub ?_) | ((show wpAny _ _ (eval (Expr.BinOp _ _ _ _) _) _ _ _); k_fold; k_dflt walk1) | ((show wpAny _ _ (eval (Expr.Compare _ _ _ _) _) _ _ _); k_fold; k_dflt walk1)) | walk1 | (dsimp only; first | (with_reducible first | ((show wpAny _ _ (call (Value.ref 146) _) _ _ _); refine Stop.of ?_) | ((show wpAny _ _ (call (Value.ref 153) _) _ _ _); refine Stop.of ?_) | ((show wpAny _ _ (call (Value.ref 111) _) _ _ _); refine Stop.of ?_) | ((show wpAny _ _ (exec (Stmt.For _ (Expr.Call (Expr.Name (Str.ofString "fits_in") _) _ _ _) _ _ _) _) _ _ _); refine Stop.of ?_) | ((show wpAny _ _ (subscriptTail _ _ (Value.ref _) (Value.int _ _)) _ _ _); refine Stop.of ?_) | (k_here; (show wpAny _ _ (call (Value.ref 60) _) _ _ _); (try k_fold); (k_dflt (refine' Ct.use (fault_ct _ _ _ _) ?k1 ?k2 ?k3 ?k4 ?k5 ?kK ?kd ?ku ?_; (case k1 => k_asm); (case k2 => k_asm); (case k3 => k_asm); (case k4 => k_asm); (case k5 => k_asm); (case kK => first | exact rfl | assumption); (case kd => ktr_room); (case ku => ktr_units))); (intro _ _ _ _ _ _ hp9; obtain ⟨_, _, _, _, hr9, hn9, _⟩ := hp9; subst hr9; subst hn9); (try dsimp only); (try k_fold)) | ((show wpAny _ _ (exec (Stmt.Raise (some _) none _) _) _ _ _); (with_reducible refine raise_fault rfl ?_)) | ((show FaultUp _ _ _); k_dflt (refine ⟨_, _, _, _, _, _, _, _, _, rfl, (Frag.In.keeps (K := Mine.hd.heap_39 _) (by k_asm) (Fr.keep (by k_asm))) 60 _ rfl, News.get (by k_asm) (List.mem_cons_self ..), ?_⟩))) | walk1) | (leave1; walk_say "STEP leave1"; try dsimp only) | fail "no step"))
      rename Fr g' _ _ _ => F10
      rename News g' _ _ _ => N10
      refine Stop.go ?_
      (try k_fold)
      refine (Ct.use (width_led (hd := [(L' + 1, oc), (D, listOf (xs.map Value.ref).toArray k)]) (tl := news ++ own) hS hc hx) (by k_asm) F10 (by k_asm) (by simpa using N10) (by k_asm) rfl (by ktr_room) (by ktr_units) ?_)
      intro r n11 h11 tk11 F11 N11 hz1
      (try k_fold)
      obtain ⟨rfl, t11, rfl⟩ := hz1
      clear F10 N10
      (repeat' (first | (k_unfold; (try dsimp only)) | (k_end; kc_close) | (with_reducible first | ((show wpAny _ _ (call (Value.ref 146) _) _ _ _); refine Stop.of ?_) | ((show wpAny _ _ (call (Value.ref 153) _) _ _ _); refine Stop.of ?_) | ((show wpAny _ _ (call (Value.ref 111) _) _ _ _); refine Stop.of ?_) | ((show wpAny _ _ (exec (Stmt.For _ (Expr.Call (Expr.Name (Str.ofString "fits_in") _) _ _ _) _ _ _) _) _ _ _); refine Stop.of ?_) | ((show wpAny _ _ (subscriptTail _ _ (Value.ref _) (Value.int _ _)) _ _ _); refine Stop.of ?_) | (k_here; (show wpAny _ _ (call (Value.ref 60) _) _ _ _); (try k_fold); (k_dflt (refine' Ct.use (fault_ct _ _ _ _) ?k1 ?k2 ?k3 ?k4 ?k5 ?kK ?kd ?ku ?_; (case k1 => k_asm); (case k2 => k_asm); (case k3 => k_asm); (case k4 => k_asm); (case k5 => k_asm); (case kK => first | exact rfl | assumption); (case kd => ktr_room); (case ku => ktr_units))); (intro _ _ _ _ _ _ hp9; obtain ⟨_, _, _, _, hr9, hn9, _⟩ := hp9; subst hr9; subst hn9); (try dsimp only); (try k_fold)) | ((show wpAny _ _ (exec (Stmt.Raise (some _) none _) _) _ _ _); (with_reducible refine raise_fault rfl ?_)) | ((show FaultUp _ _ _); k_dflt (refine ⟨_, _, _, _, _, _, _, _, _, rfl, (Frag.In.keeps (K := Mine.hd.heap_39 _) (by k_asm) (Fr.keep (by k_asm))) 60 _ rfl, News.get (by k_asm) (List.mem_cons_self ..), ?_⟩)) | ((show wpAny _ _ (eval (Expr.Constant (Const.int _) _ _) _) _ _ _); refine flat_int ?_) | ((show wpAny _ _ (binaryOp Operator.Add (Value.int _ _) (Value.int _ _)) _ _ _); refine flat_add ?_) | ((show wpAny _ _ (binaryOp Operator.Sub (Value.int _ _) (Value.int _ _)) _ _ _); refine flat_sub ?_) | ((show wpAny _ _ (eval (Expr.BinOp _ _ _ _) _) _ _ _); k_fold; k_dflt walk1) | ((show wpAny _ _ (eval (Expr.Compare _ _ _ _) _) _ _ _); k_fold; k_dflt walk1)) | walk1 | (dsimp only; first | (with_reducible first | ((show wpAny _ _ (call (Value.ref 146) _) _ _ _); refine Stop.of ?_) | ((show wpAny _ _ (call (Value.ref 153) _) _ _ _); refine Stop.of ?_) | ((show wpAny _ _ (call (Value.ref 111) _) _ _ _); refine Stop.of ?_) | ((show wpAny _ _ (exec (Stmt.For _ (Expr.Call (Expr.Name (Str.ofString "fits_in") _) _ _ _) _ _ _) _) _ _ _); refine Stop.of ?_) | ((show wpAny _ _ (subscriptTail _ _ (Value.ref _) (Value.int _ _)) _ _ _); refine Stop.of ?_) | (k_here; (show wpAny _ _ (call (Value.ref 60) _) _ _ _); (try k_fold); (k_dflt (refine' Ct.use (fault_ct _ _ _ _) ?k1 ?k2 ?k3 ?k4 ?k5 ?kK ?kd ?ku ?_; (case k1 => k_asm); (case k2 => k_asm); (case k3 => k_asm); (case k4 => k_asm); (case k5 => k_asm); (case kK => first | exact rfl | assumption); (case kd => ktr_room); (case ku => ktr_units))); (intro _ _ _ _ _ _ hp9; obtain ⟨_, _, _, _, hr9, hn9, _⟩ := hp9; subst hr9; subst hn9); (try dsimp only); (try k_fold)) | ((show wpAny _ _ (exec (Stmt.Raise (some _) none _) _) _ _ _); (with_reducible refine raise_fault rfl ?_)) | ((show FaultUp _ _ _); k_dflt (refine ⟨_, _, _, _, _, _, _, _, _, rfl, (Frag.In.keeps (K := Mine.hd.heap_39 _) (by k_asm) (Fr.keep (by k_asm))) 60 _ rfl, News.get (by k_asm) (List.mem_cons_self ..), ?_⟩))) | walk1) | (leave1; walk_say "STEP leave1"; try dsimp only) | fail "no step"))
      all_goals try (exfalso; omega)
      refine PairEnd.next (news' := (L' + 1, oc) :: (D, listOf (xs.map Value.ref).toArray k) :: (led ++ news)) (by k_asm) (by show News g' L' _ _; simpa using (by k_asm : News g' L' _ ([(L' + 1, oc), (D, listOf (xs.map Value.ref).toArray k)] ++ (led ++ (news ++ own))))) rfl ⟨rfl, norm2 fun z h1 h2 => by simp only [if_neg h1, if_neg h2]⟩
    · intro m₁ news₁ h7 tk7 hz1 hadr F7 N7
      (try k_fold)
      obtain ⟨rfl, vn, vs, rfl⟩ := hz1
      clear F6 N6
      replace F7 : Fr g' L' h7 _ := F7
      replace N7 : News g' L' h7 _ := N7
      subst hm1
      (repeat' (first | (k_unfold; (try dsimp only)) | (k_end; kc_close) | (with_reducible first | ((show wpAny _ _ (call (Value.ref 146) _) _ _ _); refine Stop.of ?_) | ((show wpAny _ _ (call (Value.ref 153) _) _ _ _); refine Stop.of ?_) | ((show wpAny _ _ (call (Value.ref 111) _) _ _ _); refine Stop.of ?_) | ((show wpAny _ _ (exec (Stmt.For _ (Expr.Call (Expr.Name (Str.ofString "fits_in") _) _ _ _) _ _ _) _) _ _ _); refine Stop.of ?_) | ((show wpAny _ _ (subscriptTail _ _ (Value.ref _) (Value.int _ _)) _ _ _); refine Stop.of ?_) | (k_here; (show wpAny _ _ (call (Value.ref 60) _) _ _ _); (try k_fold); (k_dflt (refine' Ct.use (fault_ct _ _ _ _) ?k1 ?k2 ?k3 ?k4 ?k5 ?kK ?kd ?ku ?_; (case k1 => k_asm); (case k2 => k_asm); (case k3 => k_asm); (case k4 => k_asm); (case k5 => k_asm); (case kK => first | exact rfl | assumption); (case kd => ktr_room); (case ku => ktr_units))); (intro _ _ _ _ _ _ hp9; obtain ⟨_, _, _, _, hr9, hn9, _⟩ := hp9; subst hr9; subst hn9); (try dsimp only); (try k_fold)) | ((show wpAny _ _ (exec (Stmt.Raise (some _) none _) _) _ _ _); (with_reducible refine raise_fault rfl ?_)) | ((show FaultUp _ _ _); k_dflt (refine ⟨_, _, _, _, _, _, _, _, _, rfl, (Frag.In.keeps (K := Mine.hd.heap_39 _) (by k_asm) (Fr.keep (by k_asm))) 60 _ rfl, News.get (by k_asm) (List.mem_cons_self ..), ?_⟩)) | ((show wpAny _ _ (eval (Expr.Constant (Const.int _) _ _) _) _ _ _); refine flat_int ?_) | ((show wpAny _ _ (binaryOp Operator.Add (Value.int _ _) (Value.int _ _)) _ _ _); refine flat_add ?_) | ((show wpAny _ _ (binaryOp Operator.Sub (Value.int _ _) (Value.int _ _)) _ _ _); refine flat_sub ?_) | ((show wpAny _ _ (eval (Expr.BinOp _ _ _ _) _) _ _ _); k_fold; k_dflt walk1) | ((show wpAny _ _ (eval (Expr.Compare _ _ _ _) _) _ _ _); k_fold; k_dflt walk1)) | walk1 | (dsimp only; first | (with_reducible first | ((show wpAny _ _ (call (Value.ref 146) _) _ _ _); refine Stop.of ?_) | ((show wpAny _ _ (call (Value.ref 153) _) _ _ _); refine Stop.of ?_) | ((show wpAny _ _ (call (Value.ref 111) _) _ _ _); refine Stop.of ?_) | ((show wpAny _ _ (exec (Stmt.For _ (Expr.Call (Expr.Name (Str.ofString "fits_in") _) _ _ _) _ _ _) _) _ _ _); refine Stop.of ?_) | ((show wpAny _ _ (subscriptTail _ _ (Value.ref _) (Value.int _ _)) _ _ _); refine Stop.of ?_) | (k_here; (show wpAny _ _ (call (Value.ref 60) _) _ _ _); (try k_fold); (k_dflt (refine' Ct.use (fault_ct _ _ _ _) ?k1 ?k2 ?k3 ?k4 ?k5 ?kK ?kd ?ku ?_; (case k1 => k_asm); (case k2 => k_asm); (case k3 => k_asm); (case k4 => k_asm); (case k5 => k_asm); (case kK => first | exact rfl | assumption); (case kd => ktr_room); (case ku => ktr_units))); (intro _ _ _ _ _ _ hp9; obtain ⟨_, _, _, _, hr9, hn9, _⟩ := hp9; subst hr9; subst hn9); (try dsimp only); (try k_fold)) | ((show wpAny _ _ (exec (Stmt.Raise (some _) none _) _) _ _ _); (with_reducible refine raise_fault rfl ?_)) | ((show FaultUp _ _ _); k_dflt (refine ⟨_, _, _, _, _, _, _, _, _, rfl, (Frag.In.keeps (K := Mine.hd.heap_39 _) (by k_asm) (Fr.keep (by k_asm))) 60 _ rfl, News.get (by k_asm) (List.mem_cons_self ..), ?_⟩))) | walk1) | (leave1; walk_say "STEP leave1"; try dsimp only) | fail "no step"))
      refine Stop.go ?_
      (try k_fold)
      refine (wpAny_For ?_)
      (repeat' (first | (k_unfold; (try dsimp only)) | (k_end; kc_close) | (with_reducible first | ((show wpAny _ _ (call (Value.ref 146) _) _ _ _); refine Stop.of ?_) | ((show wpAny _ _ (call (Value.ref 153) _) _ _ _); refine Stop.of ?_) | ((show wpAny _ _ (call (Value.ref 111) _) _ _ _); refine Stop.of ?_) | ((show wpAny _ _ (exec (Stmt.For _ (Expr.Call (Expr.Name (Str.ofString "fits_in") _) _ _ _) _ _ _) _) _ _ _); refine Stop.of ?_) | ((show wpAny _ _ (subscriptTail _ _ (Value.ref _) (Value.int _ _)) _ _ _); refine Stop.of ?_) | (k_here; (show wpAny _ _ (call (Value.ref 60) _) _ _ _); (try k_fold); (k_dflt (refine' Ct.use (fault_ct _ _ _ _) ?k1 ?k2 ?k3 ?k4 ?k5 ?kK ?kd ?ku ?_; (case k1 => k_asm); (case k2 => k_asm); (case k3 => k_asm); (case k4 => k_asm); (case k5 => k_asm); (case kK => first | exact rfl | assumption); (case kd => ktr_room); (case ku => ktr_units))); (intro _ _ _ _ _ _ hp9; obtain ⟨_, _, _, _, hr9, hn9, _⟩ := hp9; subst hr9; subst hn9); (try dsimp only); (try k_fold)) | ((show wpAny _ _ (exec (Stmt.Raise (some _) none _) _) _ _ _); (with_reducible refine raise_fault rfl ?_)) | ((show FaultUp _ _ _); k_dflt (refine ⟨_, _, _, _, _, _, _, _, _, rfl, (Frag.In.keeps (K := Mine.hd.heap_39 _) (by k_asm) (Fr.keep (by k_asm))) 60 _ rfl, News.get (by k_asm) (List.mem_cons_self ..), ?_⟩)) | ((show wpAny _ _ (eval (Expr.Constant (Const.int _) _ _) _) _ _ _); refine flat_int ?_) | ((show wpAny _ _ (binaryOp Operator.Add (Value.int _ _) (Value.int _ _)) _ _ _); refine flat_add ?_) | ((show wpAny _ _ (binaryOp Operator.Sub (Value.int _ _) (Value.int _ _)) _ _ _); refine flat_sub ?_) | ((show wpAny _ _ (eval (Expr.BinOp _ _ _ _) _) _ _ _); k_fold; k_dflt walk1) | ((show wpAny _ _ (eval (Expr.Compare _ _ _ _) _) _ _ _); k_fold; k_dflt walk1)) | walk1 | (dsimp only; first | (with_reducible first | ((show wpAny _ _ (call (Value.ref 146) _) _ _ _); refine Stop.of ?_) | ((show wpAny _ _ (call (Value.ref 153) _) _ _ _); refine Stop.of ?_) | ((show wpAny _ _ (call (Value.ref 111) _) _ _ _); refine Stop.of ?_) | ((show wpAny _ _ (exec (Stmt.For _ (Expr.Call (Expr.Name (Str.ofString "fits_in") _) _ _ _) _ _ _) _) _ _ _); refine Stop.of ?_) | ((show wpAny _ _ (subscriptTail _ _ (Value.ref _) (Value.int _ _)) _ _ _); refine Stop.of ?_) | (k_here; (show wpAny _ _ (call (Value.ref 60) _) _ _ _); (try k_fold); (k_dflt (refine' Ct.use (fault_ct _ _ _ _) ?k1 ?k2 ?k3 ?k4 ?k5 ?kK ?kd ?ku ?_; (case k1 => k_asm); (case k2 => k_asm); (case k3 => k_asm); (case k4 => k_asm); (case k5 => k_asm); (case kK => first | exact rfl | assumption); (case kd => ktr_room); (case ku => ktr_units))); (intro _ _ _ _ _ _ hp9; obtain ⟨_, _, _, _, hr9, hn9, _⟩ := hp9; subst hr9; subst hn9); (try dsimp only); (try k_fold)) | ((show wpAny _ _ (exec (Stmt.Raise (some _) none _) _) _ _ _); (with_reducible refine raise_fault rfl ?_)) | ((show FaultUp _ _ _); k_dflt (refine ⟨_, _, _, _, _, _, _, _, _, rfl, (Frag.In.keeps (K := Mine.hd.heap_39 _) (by k_asm) (Fr.keep (by k_asm))) 60 _ rfl, News.get (by k_asm) (List.mem_cons_self ..), ?_⟩))) | walk1) | (leave1; walk_say "STEP leave1"; try dsimp only) | fail "no step"))
      rename Fr g' _ _ _ => F10
      rename News g' _ _ _ => N10
      have N11 : News g' L' _ ((D, listOf (xs.map Value.ref).toArray k) :: (led ++ ((L' + 1, oc) :: news))) := fun p hp => N10 p (by
        simp only [List.mem_cons, List.mem_append] at hp ⊢
        grind)
      have hDL : L' + 1 < D := hlt (L' + 1, oc) (List.mem_cons_self ..)
      clear N10
      refine Stop.go ?_
      (try k_fold)
      refine (Ct.use (fits_in_ct w o ko (beginOf ko ca) (endOf ko cb) cks xs led ((L' + 1, oc) :: news) D k t1 ho (by omega) hS (by omega) hD ?_) (by k_asm) F10 (by k_asm) N11 (by k_asm) rfl (by ktr_room) (by ktr_units) ?_)
      · intro p hp q hq
        exact Nat.ne_of_lt (hle q hq p hp)
      intro r n12 h12 tk12 F12 N12 hz1
      (try k_fold)
      obtain ⟨Ff, Ts, tl', led', k', rfl, hS', hadr', rfl, hT, hfr⟩ := hz1
      clear F10 N11
      have N13 : News g' L' h12 ((L' + 1, oc) :: (D, listOf (xs.map Value.ref).toArray k) :: (Ff, listOf (Ts.map Value.ref).toArray k') :: (led' ++ (tl' ++ news))) := fun p hp => N12 p (by
        simp only [List.mem_cons, List.mem_append] at hp ⊢
        grind)
      clear N12
      have hneC : ∀ p ∈ (D, listOf (xs.map Value.ref).toArray k) :: (Ff, listOf (Ts.map Value.ref).toArray k') :: (led' ++ (tl' ++ news)), p.1 ≠ L' + 1 := by
        intro p hp
        have hq : ∀ q ∈ (Ff, listOf (Ts.map Value.ref).toArray k') :: tl', q.1 ≠ L' + 1 := fun q hq => Nat.ne_of_gt (hfr q hq (L' + 1, oc) (by simp))
        rcases List.mem_cons.mp hp with rfl | hp
        · exact Nat.ne_of_gt hDL
        · rcases List.mem_cons.mp hp with rfl | hp
          · exact hq _ (List.mem_cons_self ..)
          · rcases List.mem_append.mp hp with hp | hp
            · exact (sep_map hadr' (k := [(L' + 1, oc)]) (fun p hp q hq => by rw [List.mem_singleton.mp hp]; exact Nat.ne_of_lt (hle q hq (L' + 1, oc) (List.mem_cons_self ..))) (L' + 1, oc) (List.mem_singleton_self _) p hp).symm
            · rcases List.mem_append.mp hp with hp | hp
              · exact hq p (List.mem_cons_of_mem _ hp)
              · exact Nat.ne_of_lt (hcell p hp)
      have hfl : (fitsL ko cks (beginOf ko ca) (endOf ko cb) ko.length).length ≤ ko.length := fitsL_len
      have hlen3 := hS'.len
      obtain ⟨m2, hm2, F12⟩ : ∃ m2, m2 = _ ∧ Fr g' L' _ m2 := ⟨_, rfl, F12⟩
      have hec : oc.data = .cell (some (.bytes o t1)) := ec
      (repeat' (first | (k_unfold; (try dsimp only)) | (k_end; kc_close) | (with_reducible first | ((show wpAny _ _ (call (Value.ref 146) _) _ _ _); refine Stop.of ?_) | ((show wpAny _ _ (call (Value.ref 153) _) _ _ _); refine Stop.of ?_) | ((show wpAny _ _ (call (Value.ref 111) _) _ _ _); refine Stop.of ?_) | ((show wpAny _ _ (exec (Stmt.For _ (Expr.Call (Expr.Name (Str.ofString "fits_in") _) _ _ _) _ _ _) _) _ _ _); refine Stop.of ?_) | ((show wpAny _ _ (subscriptTail _ _ (Value.ref _) (Value.int _ _)) _ _ _); refine Stop.of ?_) | (k_here; (show wpAny _ _ (call (Value.ref 60) _) _ _ _); (try k_fold); (k_dflt (refine' Ct.use (fault_ct _ _ _ _) ?k1 ?k2 ?k3 ?k4 ?k5 ?kK ?kd ?ku ?_; (case k1 => k_asm); (case k2 => k_asm); (case k3 => k_asm); (case k4 => k_asm); (case k5 => k_asm); (case kK => first | exact rfl | assumption); (case kd => ktr_room); (case ku => ktr_units))); (intro _ _ _ _ _ _ hp9; obtain ⟨_, _, _, _, hr9, hn9, _⟩ := hp9; subst hr9; subst hn9); (try dsimp only); (try k_fold)) | ((show wpAny _ _ (exec (Stmt.Raise (some _) none _) _) _ _ _); (with_reducible refine raise_fault rfl ?_)) | ((show FaultUp _ _ _); k_dflt (refine ⟨_, _, _, _, _, _, _, _, _, rfl, (Frag.In.keeps (K := Mine.hd.heap_39 _) (by k_asm) (Fr.keep (by k_asm))) 60 _ rfl, News.get (by k_asm) (List.mem_cons_self ..), ?_⟩)) | ((show wpAny _ _ (eval (Expr.Constant (Const.int _) _ _) _) _ _ _); refine flat_int ?_) | ((show wpAny _ _ (binaryOp Operator.Add (Value.int _ _) (Value.int _ _)) _ _ _); refine flat_add ?_) | ((show wpAny _ _ (binaryOp Operator.Sub (Value.int _ _) (Value.int _ _)) _ _ _); refine flat_sub ?_) | ((show wpAny _ _ (eval (Expr.BinOp _ _ _ _) _) _ _ _); k_fold; k_dflt walk1) | ((show wpAny _ _ (eval (Expr.Compare _ _ _ _) _) _ _ _); k_fold; k_dflt walk1)) | walk1 | (dsimp only; first | (with_reducible first | ((show wpAny _ _ (call (Value.ref 146) _) _ _ _); refine Stop.of ?_) | ((show wpAny _ _ (call (Value.ref 153) _) _ _ _); refine Stop.of ?_) | ((show wpAny _ _ (call (Value.ref 111) _) _ _ _); refine Stop.of ?_) | ((show wpAny _ _ (exec (Stmt.For _ (Expr.Call (Expr.Name (Str.ofString "fits_in") _) _ _ _) _ _ _) _) _ _ _); refine Stop.of ?_) | ((show wpAny _ _ (subscriptTail _ _ (Value.ref _) (Value.int _ _)) _ _ _); refine Stop.of ?_) | (k_here; (show wpAny _ _ (call (Value.ref 60) _) _ _ _); (try k_fold); (k_dflt (refine' Ct.use (fault_ct _ _ _ _) ?k1 ?k2 ?k3 ?k4 ?k5 ?kK ?kd ?ku ?_; (case k1 => k_asm); (case k2 => k_asm); (case k3 => k_asm); (case k4 => k_asm); (case k5 => k_asm); (case kK => first | exact rfl | assumption); (case kd => ktr_room); (case ku => ktr_units))); (intro _ _ _ _ _ _ hp9; obtain ⟨_, _, _, _, hr9, hn9, _⟩ := hp9; subst hr9; subst hn9); (try dsimp only); (try k_fold)) | ((show wpAny _ _ (exec (Stmt.Raise (some _) none _) _) _ _ _); (with_reducible refine raise_fault rfl ?_)) | ((show FaultUp _ _ _); k_dflt (refine ⟨_, _, _, _, _, _, _, _, _, rfl, (Frag.In.keeps (K := Mine.hd.heap_39 _) (by k_asm) (Fr.keep (by k_asm))) 60 _ rfl, News.get (by k_asm) (List.mem_cons_self ..), ?_⟩))) | walk1) | (leave1; walk_say "STEP leave1"; try dsimp only) | fail "no step"))
      let J9 : Nat → (Str → Option Value) → List (Addr × Obj) → Prop := (fun i m₁ news₁ => ∃ oc2 y ty, news₁ = (L' + 1, oc2) :: (D, listOf (xs.map Value.ref).toArray k) :: (Ff, listOf (Ts.map Value.ref).toArray k') :: (led' ++ (tl' ++ news)) ∧ oc2.data = .cell (some (.bytes y ty)) ∧ KBw.bInts y = setAll kg ko ((fitsL ko cks (beginOf ko ca) (endOf ko cb) ko.length).take i) ∧
        ∃ va vb, m₁ = fun y => if y = Str.ofString "number" then vb else if y = Str.ofString "at" then va else m2 y)
      refine Stop.go (iter_listJ (lo := listOf (Ts.map Value.ref).toArray k') (vs := Ts.map Value.ref) J9
        rfl rfl rfl ?_ F12 N13 ⟨oc, o, t1, rfl, hec, ho, norm2 fun _ _ _ => rfl⟩ ?_ ?_)
      · rintro i m₁ news₁ ⟨oc2, y, ty, rfl, _⟩
        simp
      · intro I oI i v m₁ news₁ h3 tk3 hv hz1 hoff F14 N14
        (try k_fold)
        obtain ⟨oc2, y, ty, rfl, hcd, hy, va, vb, rfl⟩ := hz1
        clear F12 N13
        obtain ⟨T, hTi, rfl⟩ : ∃ T, Ts[i]? = some T ∧ v = .ref T := by
          rw [List.getElem?_map] at hv
          obtain ⟨T, h1, h2⟩ := Option.map_eq_some_iff.mp hv
          exact ⟨T, h1, h2.symm⟩
        have hil : i < (fitsL ko cks (beginOf ko ca) (endOf ko cb) ko.length).length := by rw [← hT.1]; exact (List.getElem?_eq_some_iff.mp hTi).1
        obtain ⟨pi, pj, hp⟩ : ∃ pi pj, (fitsL ko cks (beginOf ko ca) (endOf ko cb) ko.length)[i]? = some (pi, pj) := ⟨_, _, List.getElem?_eq_getElem hil⟩
        obtain ⟨T', u1, u2, hT1, hT2⟩ := hT.2 i pi pj hp
        obtain rfl : T' = T := Option.some.inj (hT1.symm.trans hTi)
        have hpm := fitsL_mem (List.mem_of_getElem? hp)
        have hpi : pi < ko.length := hpm.1
        have hpj : pj < cks.length := hpm.2
        have hyl : (setAll kg ko ((fitsL ko cks (beginOf ko ca) (endOf ko cb) ko.length).take i)).length = ko.length := setAll_len
        have hc : cks[pj]? = some (cks[pj]'hpj) := List.getElem?_eq_getElem hpj
        have hx : xs[pj]? = some (xs[pj]'(by omega)) := List.getElem?_eq_getElem (by omega)
        obtain ⟨Tr, vk, vw, by', tby, hR1, hR2, hsk, hby⟩ := hrow pj _ hc
        generalize xs[pj]'(by omega) = x at hx
        generalize cks[pj]'hpj = c at hc hsk
        replace F14 : Fr g' L' h3 _ := F14
        obtain ⟨d, es, hm1', hm2', k91, k92, k93, k94, k95, k96, vk9, vw9, tb9, te9, vl9, rfl, hk9, hl9⟩ := hS'.here (P := w.params) (hd := [(T', tup2 (.int pi u1) (.int pj u2)), (L' + 1, oc2), (D, listOf (xs.map Value.ref).toArray k), (Ff, listOf (Ts.map Value.ref).toArray k')]) (tl := tl' ++ (news ++ [(I, oI)])) hc hx
        have N15 : News g' L' h3 ((T', tup2 (.int pi u1) (.int pj u2)) :: (L' + 1, oc2) :: (D, listOf (xs.map Value.ref).toArray k) :: (Ff, listOf (Ts.map Value.ref).toArray k') :: (led' ++ (tl' ++ (news ++ [(I, oI)])))) := fun p hp => N14 p (by
          simp only [List.mem_cons, List.mem_append, List.not_mem_nil, or_false] at hp ⊢
          grind)
        clear N14
        subst hm2
        simp only [List.cons_append, List.nil_append] at hm1' hm2'
        have hst := set_step (kg := kg) (l := ko) hp
        generalize setAll kg ko ((fitsL ko cks (beginOf ko ca) (endOf ko cb) ko.length).take i) = kl at hy hyl hst
        (repeat' (first | (k_unfold; (try dsimp only)) | (k_end; kc_close) | (with_reducible first | ((show wpAny _ _ (call (Value.ref 146) _) _ _ _); refine Stop.of ?_) | ((show wpAny _ _ (call (Value.ref 153) _) _ _ _); refine Stop.of ?_) | ((show wpAny _ _ (call (Value.ref 111) _) _ _ _); refine Stop.of ?_) | ((show wpAny _ _ (exec (Stmt.For _ (Expr.Call (Expr.Name (Str.ofString "fits_in") _) _ _ _) _ _ _) _) _ _ _); refine Stop.of ?_) | ((show wpAny _ _ (subscriptTail _ _ (Value.ref _) (Value.int _ _)) _ _ _); refine Stop.of ?_) | (k_here; (show wpAny _ _ (call (Value.ref 60) _) _ _ _); (try k_fold); (k_dflt (refine' Ct.use (fault_ct _ _ _ _) ?k1 ?k2 ?k3 ?k4 ?k5 ?kK ?kd ?ku ?_; (case k1 => k_asm); (case k2 => k_asm); (case k3 => k_asm); (case k4 => k_asm); (case k5 => k_asm); (case kK => first | exact rfl | assumption); (case kd => ktr_room); (case ku => ktr_units))); (intro _ _ _ _ _ _ hp9; obtain ⟨_, _, _, _, hr9, hn9, _⟩ := hp9; subst hr9; subst hn9); (try dsimp only); (try k_fold)) | ((show wpAny _ _ (exec (Stmt.Raise (some _) none _) _) _ _ _); (with_reducible refine raise_fault rfl ?_)) | ((show FaultUp _ _ _); k_dflt (refine ⟨_, _, _, _, _, _, _, _, _, rfl, (Frag.In.keeps (K := Mine.hd.heap_39 _) (by k_asm) (Fr.keep (by k_asm))) 60 _ rfl, News.get (by k_asm) (List.mem_cons_self ..), ?_⟩)) | ((show wpAny _ _ (eval (Expr.Constant (Const.int _) _ _) _) _ _ _); refine flat_int ?_) | ((show wpAny _ _ (binaryOp Operator.Add (Value.int _ _) (Value.int _ _)) _ _ _); refine flat_add ?_) | ((show wpAny _ _ (binaryOp Operator.Sub (Value.int _ _) (Value.int _ _)) _ _ _); refine flat_sub ?_) | ((show wpAny _ _ (eval (Expr.BinOp _ _ _ _) _) _ _ _); k_fold; k_dflt walk1) | ((show wpAny _ _ (eval (Expr.Compare _ _ _ _) _) _ _ _); k_fold; k_dflt walk1)) | walk1 | (dsimp only; first | (with_reducible first | ((show wpAny _ _ (call (Value.ref 146) _) _ _ _); refine Stop.of ?_) | ((show wpAny _ _ (call (Value.ref 153) _) _ _ _); refine Stop.of ?_) | ((show wpAny _ _ (call (Value.ref 111) _) _ _ _); refine Stop.of ?_) | ((show wpAny _ _ (exec (Stmt.For _ (Expr.Call (Expr.Name (Str.ofString "fits_in") _) _ _ _) _ _ _) _) _ _ _); refine Stop.of ?_) | ((show wpAny _ _ (subscriptTail _ _ (Value.ref _) (Value.int _ _)) _ _ _); refine Stop.of ?_) | (k_here; (show wpAny _ _ (call (Value.ref 60) _) _ _ _); (try k_fold); (k_dflt (refine' Ct.use (fault_ct _ _ _ _) ?k1 ?k2 ?k3 ?k4 ?k5 ?kK ?kd ?ku ?_; (case k1 => k_asm); (case k2 => k_asm); (case k3 => k_asm); (case k4 => k_asm); (case k5 => k_asm); (case kK => first | exact rfl | assumption); (case kd => ktr_room); (case ku => ktr_units))); (intro _ _ _ _ _ _ hp9; obtain ⟨_, _, _, _, hr9, hn9, _⟩ := hp9; subst hr9; subst hn9); (try dsimp only); (try k_fold)) | ((show wpAny _ _ (exec (Stmt.Raise (some _) none _) _) _ _ _); (with_reducible refine raise_fault rfl ?_)) | ((show FaultUp _ _ _); k_dflt (refine ⟨_, _, _, _, _, _, _, _, _, rfl, (Frag.In.keeps (K := Mine.hd.heap_39 _) (by k_asm) (Fr.keep (by k_asm))) 60 _ rfl, News.get (by k_asm) (List.mem_cons_self ..), ?_⟩))) | walk1) | (leave1; walk_say "STEP leave1"; try dsimp only) | fail "no step"))
        rename News g' _ _ _ => N16
        refine Stop.go ?_
        (try k_fold)
        refine (list_item (vs := rowsA) ⟨_, N16.get (show (R, listOf rowsA kR) ∈ _ by simp [hR]), rfl, kR, rfl⟩ (by omega) (by omega) (by rw [Int.toNat_natCast]; exact hR1) ?_)
        (repeat' (first | (k_unfold; (try dsimp only)) | (k_end; kc_close) | (with_reducible first | ((show wpAny _ _ (call (Value.ref 146) _) _ _ _); refine Stop.of ?_) | ((show wpAny _ _ (call (Value.ref 153) _) _ _ _); refine Stop.of ?_) | ((show wpAny _ _ (call (Value.ref 111) _) _ _ _); refine Stop.of ?_) | ((show wpAny _ _ (exec (Stmt.For _ (Expr.Call (Expr.Name (Str.ofString "fits_in") _) _ _ _) _ _ _) _) _ _ _); refine Stop.of ?_) | ((show wpAny _ _ (subscriptTail _ _ (Value.ref _) (Value.int _ _)) _ _ _); refine Stop.of ?_) | (k_here; (show wpAny _ _ (call (Value.ref 60) _) _ _ _); (try k_fold); (k_dflt (refine' Ct.use (fault_ct _ _ _ _) ?k1 ?k2 ?k3 ?k4 ?k5 ?kK ?kd ?ku ?_; (case k1 => k_asm); (case k2 => k_asm); (case k3 => k_asm); (case k4 => k_asm); (case k5 => k_asm); (case kK => first | exact rfl | assumption); (case kd => ktr_room); (case ku => ktr_units))); (intro _ _ _ _ _ _ hp9; obtain ⟨_, _, _, _, hr9, hn9, _⟩ := hp9; subst hr9; subst hn9); (try dsimp only); (try k_fold)) | ((show wpAny _ _ (exec (Stmt.Raise (some _) none _) _) _ _ _); (with_reducible refine raise_fault rfl ?_)) | ((show FaultUp _ _ _); k_dflt (refine ⟨_, _, _, _, _, _, _, _, _, rfl, (Frag.In.keeps (K := Mine.hd.heap_39 _) (by k_asm) (Fr.keep (by k_asm))) 60 _ rfl, News.get (by k_asm) (List.mem_cons_self ..), ?_⟩)) | ((show wpAny _ _ (eval (Expr.Constant (Const.int _) _ _) _) _ _ _); refine flat_int ?_) | ((show wpAny _ _ (binaryOp Operator.Add (Value.int _ _) (Value.int _ _)) _ _ _); refine flat_add ?_) | ((show wpAny _ _ (binaryOp Operator.Sub (Value.int _ _) (Value.int _ _)) _ _ _); refine flat_sub ?_) | ((show wpAny _ _ (eval (Expr.BinOp _ _ _ _) _) _ _ _); k_fold; k_dflt walk1) | ((show wpAny _ _ (eval (Expr.Compare _ _ _ _) _) _ _ _); k_fold; k_dflt walk1)) | walk1 | (dsimp only; first | (with_reducible first | ((show wpAny _ _ (call (Value.ref 146) _) _ _ _); refine Stop.of ?_) | ((show wpAny _ _ (call (Value.ref 153) _) _ _ _); refine Stop.of ?_) | ((show wpAny _ _ (call (Value.ref 111) _) _ _ _); refine Stop.of ?_) | ((show wpAny _ _ (exec (Stmt.For _ (Expr.Call (Expr.Name (Str.ofString "fits_in") _) _ _ _) _ _ _) _) _ _ _); refine Stop.of ?_) | ((show wpAny _ _ (subscriptTail _ _ (Value.ref _) (Value.int _ _)) _ _ _); refine Stop.of ?_) | (k_here; (show wpAny _ _ (call (Value.ref 60) _) _ _ _); (try k_fold); (k_dflt (refine' Ct.use (fault_ct _ _ _ _) ?k1 ?k2 ?k3 ?k4 ?k5 ?kK ?kd ?ku ?_; (case k1 => k_asm); (case k2 => k_asm); (case k3 => k_asm); (case k4 => k_asm); (case k5 => k_asm); (case kK => first | exact rfl | assumption); (case kd => ktr_room); (case ku => ktr_units))); (intro _ _ _ _ _ _ hp9; obtain ⟨_, _, _, _, hr9, hn9, _⟩ := hp9; subst hr9; subst hn9); (try dsimp only); (try k_fold)) | ((show wpAny _ _ (exec (Stmt.Raise (some _) none _) _) _ _ _); (with_reducible refine raise_fault rfl ?_)) | ((show FaultUp _ _ _); k_dflt (refine ⟨_, _, _, _, _, _, _, _, _, rfl, (Frag.In.keeps (K := Mine.hd.heap_39 _) (by k_asm) (Fr.keep (by k_asm))) 60 _ rfl, News.get (by k_asm) (List.mem_cons_self ..), ?_⟩))) | walk1) | (leave1; walk_say "STEP leave1"; try dsimp only) | fail "no step"))
        rename News g' _ _ _ => N17
        refine Stop.go ?_
        (try k_fold)
        refine (tup_item (v := .bytes by' tby) (k := 2) (items := #[vk, vw, .bytes by' tby, v1, v2]) ⟨_, N17.get (show (Tr, tup5 vk vw (.bytes by' tby) v1 v2) ∈ _ by simp [hR2]), rfl, _, rfl⟩ (by simp) (by simp) rfl ?_)
        (repeat' (first | (k_unfold; (try dsimp only)) | (k_end; kc_close) | (with_reducible first | ((show wpAny _ _ (call (Value.ref 146) _) _ _ _); refine Stop.of ?_) | ((show wpAny _ _ (call (Value.ref 153) _) _ _ _); refine Stop.of ?_) | ((show wpAny _ _ (call (Value.ref 111) _) _ _ _); refine Stop.of ?_) | ((show wpAny _ _ (exec (Stmt.For _ (Expr.Call (Expr.Name (Str.ofString "fits_in") _) _ _ _) _ _ _) _) _ _ _); refine Stop.of ?_) | ((show wpAny _ _ (subscriptTail _ _ (Value.ref _) (Value.int _ _)) _ _ _); refine Stop.of ?_) | (k_here; (show wpAny _ _ (call (Value.ref 60) _) _ _ _); (try k_fold); (k_dflt (refine' Ct.use (fault_ct _ _ _ _) ?k1 ?k2 ?k3 ?k4 ?k5 ?kK ?kd ?ku ?_; (case k1 => k_asm); (case k2 => k_asm); (case k3 => k_asm); (case k4 => k_asm); (case k5 => k_asm); (case kK => first | exact rfl | assumption); (case kd => ktr_room); (case ku => ktr_units))); (intro _ _ _ _ _ _ hp9; obtain ⟨_, _, _, _, hr9, hn9, _⟩ := hp9; subst hr9; subst hn9); (try dsimp only); (try k_fold)) | ((show wpAny _ _ (exec (Stmt.Raise (some _) none _) _) _ _ _); (with_reducible refine raise_fault rfl ?_)) | ((show FaultUp _ _ _); k_dflt (refine ⟨_, _, _, _, _, _, _, _, _, rfl, (Frag.In.keeps (K := Mine.hd.heap_39 _) (by k_asm) (Fr.keep (by k_asm))) 60 _ rfl, News.get (by k_asm) (List.mem_cons_self ..), ?_⟩)) | ((show wpAny _ _ (eval (Expr.Constant (Const.int _) _ _) _) _ _ _); refine flat_int ?_) | ((show wpAny _ _ (binaryOp Operator.Add (Value.int _ _) (Value.int _ _)) _ _ _); refine flat_add ?_) | ((show wpAny _ _ (binaryOp Operator.Sub (Value.int _ _) (Value.int _ _)) _ _ _); refine flat_sub ?_) | ((show wpAny _ _ (eval (Expr.BinOp _ _ _ _) _) _ _ _); k_fold; k_dflt walk1) | ((show wpAny _ _ (eval (Expr.Compare _ _ _ _) _) _ _ _); k_fold; k_dflt walk1)) | walk1 | (dsimp only; first | (with_reducible first | ((show wpAny _ _ (call (Value.ref 146) _) _ _ _); refine Stop.of ?_) | ((show wpAny _ _ (call (Value.ref 153) _) _ _ _); refine Stop.of ?_) | ((show wpAny _ _ (call (Value.ref 111) _) _ _ _); refine Stop.of ?_) | ((show wpAny _ _ (exec (Stmt.For _ (Expr.Call (Expr.Name (Str.ofString "fits_in") _) _ _ _) _ _ _) _) _ _ _); refine Stop.of ?_) | ((show wpAny _ _ (subscriptTail _ _ (Value.ref _) (Value.int _ _)) _ _ _); refine Stop.of ?_) | (k_here; (show wpAny _ _ (call (Value.ref 60) _) _ _ _); (try k_fold); (k_dflt (refine' Ct.use (fault_ct _ _ _ _) ?k1 ?k2 ?k3 ?k4 ?k5 ?kK ?kd ?ku ?_; (case k1 => k_asm); (case k2 => k_asm); (case k3 => k_asm); (case k4 => k_asm); (case k5 => k_asm); (case kK => first | exact rfl | assumption); (case kd => ktr_room); (case ku => ktr_units))); (intro _ _ _ _ _ _ hp9; obtain ⟨_, _, _, _, hr9, hn9, _⟩ := hp9; subst hr9; subst hn9); (try dsimp only); (try k_fold)) | ((show wpAny _ _ (exec (Stmt.Raise (some _) none _) _) _ _ _); (with_reducible refine raise_fault rfl ?_)) | ((show FaultUp _ _ _); k_dflt (refine ⟨_, _, _, _, _, _, _, _, _, rfl, (Frag.In.keeps (K := Mine.hd.heap_39 _) (by k_asm) (Fr.keep (by k_asm))) 60 _ rfl, News.get (by k_asm) (List.mem_cons_self ..), ?_⟩))) | walk1) | (leave1; walk_say "STEP leave1"; try dsimp only) | fail "no step"))
        rename News g' _ _ _ => N18
        refine Stop.go ?_
        (try k_fold)
        refine (list_item (l := D) (vs := (xs.map Value.ref).toArray) ⟨_, N18.get (show (D, listOf (xs.map Value.ref).toArray k) ∈ _ by simp), rfl, k, rfl⟩ (by omega) (by omega) (v := .ref x) (by rw [Int.toNat_natCast, List.getElem?_toArray, List.getElem?_map, hx]; rfl) ?_)
        (repeat' (first | (k_unfold; (try dsimp only)) | (k_end; kc_close) | (with_reducible first | ((show wpAny _ _ (call (Value.ref 146) _) _ _ _); refine Stop.of ?_) | ((show wpAny _ _ (call (Value.ref 153) _) _ _ _); refine Stop.of ?_) | ((show wpAny _ _ (call (Value.ref 111) _) _ _ _); refine Stop.of ?_) | ((show wpAny _ _ (exec (Stmt.For _ (Expr.Call (Expr.Name (Str.ofString "fits_in") _) _ _ _) _ _ _) _) _ _ _); refine Stop.of ?_) | ((show wpAny _ _ (subscriptTail _ _ (Value.ref _) (Value.int _ _)) _ _ _); refine Stop.of ?_) | (k_here; (show wpAny _ _ (call (Value.ref 60) _) _ _ _); (try k_fold); (k_dflt (refine' Ct.use (fault_ct _ _ _ _) ?k1 ?k2 ?k3 ?k4 ?k5 ?kK ?kd ?ku ?_; (case k1 => k_asm); (case k2 => k_asm); (case k3 => k_asm); (case k4 => k_asm); (case k5 => k_asm); (case kK => first | exact rfl | assumption); (case kd => ktr_room); (case ku => ktr_units))); (intro _ _ _ _ _ _ hp9; obtain ⟨_, _, _, _, hr9, hn9, _⟩ := hp9; subst hr9; subst hn9); (try dsimp only); (try k_fold)) | ((show wpAny _ _ (exec (Stmt.Raise (some _) none _) _) _ _ _); (with_reducible refine raise_fault rfl ?_)) | ((show FaultUp _ _ _); k_dflt (refine ⟨_, _, _, _, _, _, _, _, _, rfl, (Frag.In.keeps (K := Mine.hd.heap_39 _) (by k_asm) (Fr.keep (by k_asm))) 60 _ rfl, News.get (by k_asm) (List.mem_cons_self ..), ?_⟩)) | ((show wpAny _ _ (eval (Expr.Constant (Const.int _) _ _) _) _ _ _); refine flat_int ?_) | ((show wpAny _ _ (binaryOp Operator.Add (Value.int _ _) (Value.int _ _)) _ _ _); refine flat_add ?_) | ((show wpAny _ _ (binaryOp Operator.Sub (Value.int _ _) (Value.int _ _)) _ _ _); refine flat_sub ?_) | ((show wpAny _ _ (eval (Expr.BinOp _ _ _ _) _) _ _ _); k_fold; k_dflt walk1) | ((show wpAny _ _ (eval (Expr.Compare _ _ _ _) _) _ _ _); k_fold; k_dflt walk1)) | walk1 | (dsimp only; first | (with_reducible first | ((show wpAny _ _ (call (Value.ref 146) _) _ _ _); refine Stop.of ?_) | ((show wpAny _ _ (call (Value.ref 153) _) _ _ _); refine Stop.of ?_) | ((show wpAny _ _ (call (Value.ref 111) _) _ _ _); refine Stop.of ?_) | ((show wpAny _ _ (exec (Stmt.For _ (Expr.Call (Expr.Name (Str.ofString "fits_in") _) _ _ _) _ _ _) _) _ _ _); refine Stop.of ?_) | ((show wpAny _ _ (subscriptTail _ _ (Value.ref _) (Value.int _ _)) _ _ _); refine Stop.of ?_) | (k_here; (show wpAny _ _ (call (Value.ref 60) _) _ _ _); (try k_fold); (k_dflt (refine' Ct.use (fault_ct _ _ _ _) ?k1 ?k2 ?k3 ?k4 ?k5 ?kK ?kd ?ku ?_; (case k1 => k_asm); (case k2 => k_asm); (case k3 => k_asm); (case k4 => k_asm); (case k5 => k_asm); (case kK => first | exact rfl | assumption); (case kd => ktr_room); (case ku => ktr_units))); (intro _ _ _ _ _ _ hp9; obtain ⟨_, _, _, _, hr9, hn9, _⟩ := hp9; subst hr9; subst hn9); (try dsimp only); (try k_fold)) | ((show wpAny _ _ (exec (Stmt.Raise (some _) none _) _) _ _ _); (with_reducible refine raise_fault rfl ?_)) | ((show FaultUp _ _ _); k_dflt (refine ⟨_, _, _, _, _, _, _, _, _, rfl, (Frag.In.keeps (K := Mine.hd.heap_39 _) (by k_asm) (Fr.keep (by k_asm))) 60 _ rfl, News.get (by k_asm) (List.mem_cons_self ..), ?_⟩))) | walk1) | (leave1; walk_say "STEP leave1"; try dsimp only) | fail "no step"))
        rename Fr g' _ _ _ => F19
        rename News g' _ _ _ => N19
        refine Stop.go ?_
        (try k_fold)
        refine (Ct.use (width_led (hd := [(T', tup2 (.int pi u1) (.int pj u2)), (L' + 1, oc2), (D, listOf (xs.map Value.ref).toArray k), (Ff, listOf (Ts.map Value.ref).toArray k')]) (tl := tl' ++ (news ++ [(I, oI)])) hS' hc hx) (by k_asm) F19 (by k_asm) (by simpa using N19) (by k_asm) rfl (by ktr_room) (by ktr_units) ?_)
        intro r n20 h20 tk20 F20 N20 hz1
        (try k_fold)
        obtain ⟨rfl, t20, rfl⟩ := hz1
        clear F19 N19
        replace N20 : News g' L' h20 ((L' + 1, oc2) :: ((D, listOf (xs.map Value.ref).toArray k) :: (Ff, listOf (Ts.map Value.ref).toArray k') :: (led' ++ (tl' ++ news)) ++ [(I, oI)])) := fun p hp => N20 p (by
          simp only [List.mem_cons, List.mem_append, List.not_mem_nil, or_false] at hp ⊢
          grind)
        have hneC2 : ∀ p ∈ (D, listOf (xs.map Value.ref).toArray k) :: (Ff, listOf (Ts.map Value.ref).toArray k') :: (led' ++ (tl' ++ news)) ++ [(I, oI)], p.1 ≠ L' + 1 := by
          intro p hp
          rcases List.mem_append.mp hp with hp | hp
          · exact hneC p hp
          · rw [List.mem_singleton.mp hp]; exact Ne.symm (hoff (L' + 1, oc2) (List.mem_cons_self ..))
        (repeat' (first | (k_unfold; (try dsimp only)) | (k_end; kc_close) | (with_reducible first | ((show wpAny _ _ (call (Value.ref 146) _) _ _ _); refine Stop.of ?_) | ((show wpAny _ _ (call (Value.ref 153) _) _ _ _); refine Stop.of ?_) | ((show wpAny _ _ (call (Value.ref 111) _) _ _ _); refine Stop.of ?_) | ((show wpAny _ _ (exec (Stmt.For _ (Expr.Call (Expr.Name (Str.ofString "fits_in") _) _ _ _) _ _ _) _) _ _ _); refine Stop.of ?_) | ((show wpAny _ _ (subscriptTail _ _ (Value.ref _) (Value.int _ _)) _ _ _); refine Stop.of ?_) | (k_here; (show wpAny _ _ (call (Value.ref 60) _) _ _ _); (try k_fold); (k_dflt (refine' Ct.use (fault_ct _ _ _ _) ?k1 ?k2 ?k3 ?k4 ?k5 ?kK ?kd ?ku ?_; (case k1 => k_asm); (case k2 => k_asm); (case k3 => k_asm); (case k4 => k_asm); (case k5 => k_asm); (case kK => first | exact rfl | assumption); (case kd => ktr_room); (case ku => ktr_units))); (intro _ _ _ _ _ _ hp9; obtain ⟨_, _, _, _, hr9, hn9, _⟩ := hp9; subst hr9; subst hn9); (try dsimp only); (try k_fold)) | ((show wpAny _ _ (exec (Stmt.Raise (some _) none _) _) _ _ _); (with_reducible refine raise_fault rfl ?_)) | ((show FaultUp _ _ _); k_dflt (refine ⟨_, _, _, _, _, _, _, _, _, rfl, (Frag.In.keeps (K := Mine.hd.heap_39 _) (by k_asm) (Fr.keep (by k_asm))) 60 _ rfl, News.get (by k_asm) (List.mem_cons_self ..), ?_⟩)) | ((show wpAny _ _ (eval (Expr.Constant (Const.int _) _ _) _) _ _ _); refine flat_int ?_) | ((show wpAny _ _ (binaryOp Operator.Add (Value.int _ _) (Value.int _ _)) _ _ _); refine flat_add ?_) | ((show wpAny _ _ (binaryOp Operator.Sub (Value.int _ _) (Value.int _ _)) _ _ _); refine flat_sub ?_) | ((show wpAny _ _ (eval (Expr.BinOp _ _ _ _) _) _ _ _); k_fold; k_dflt walk1) | ((show wpAny _ _ (eval (Expr.Compare _ _ _ _) _) _ _ _); k_fold; k_dflt walk1)) | walk1 | (dsimp only; first | (with_reducible first | ((show wpAny _ _ (call (Value.ref 146) _) _ _ _); refine Stop.of ?_) | ((show wpAny _ _ (call (Value.ref 153) _) _ _ _); refine Stop.of ?_) | ((show wpAny _ _ (call (Value.ref 111) _) _ _ _); refine Stop.of ?_) | ((show wpAny _ _ (exec (Stmt.For _ (Expr.Call (Expr.Name (Str.ofString "fits_in") _) _ _ _) _ _ _) _) _ _ _); refine Stop.of ?_) | ((show wpAny _ _ (subscriptTail _ _ (Value.ref _) (Value.int _ _)) _ _ _); refine Stop.of ?_) | (k_here; (show wpAny _ _ (call (Value.ref 60) _) _ _ _); (try k_fold); (k_dflt (refine' Ct.use (fault_ct _ _ _ _) ?k1 ?k2 ?k3 ?k4 ?k5 ?kK ?kd ?ku ?_; (case k1 => k_asm); (case k2 => k_asm); (case k3 => k_asm); (case k4 => k_asm); (case k5 => k_asm); (case kK => first | exact rfl | assumption); (case kd => ktr_room); (case ku => ktr_units))); (intro _ _ _ _ _ _ hp9; obtain ⟨_, _, _, _, hr9, hn9, _⟩ := hp9; subst hr9; subst hn9); (try dsimp only); (try k_fold)) | ((show wpAny _ _ (exec (Stmt.Raise (some _) none _) _) _ _ _); (with_reducible refine raise_fault rfl ?_)) | ((show FaultUp _ _ _); k_dflt (refine ⟨_, _, _, _, _, _, _, _, _, rfl, (Frag.In.keeps (K := Mine.hd.heap_39 _) (by k_asm) (Fr.keep (by k_asm))) 60 _ rfl, News.get (by k_asm) (List.mem_cons_self ..), ?_⟩))) | walk1) | (leave1; walk_say "STEP leave1"; try dsimp only) | fail "no step"))
        rename KBw.bInts (_ ++ _ ++ _) = _ => hfin
        refine TurnEnd.next (news' := (L' + 1, _) :: (D, listOf (xs.map Value.ref).toArray k) :: (Ff, listOf (Ts.map Value.ref).toArray k') :: (led' ++ (tl' ++ news))) (by k_asm) (by k_asm) ?_ ⟨_, _, _, rfl, by assumption, hfin.trans ((slice_set (by omega)).trans hst.symm), norm2 fun z h1 h2 => by simp only [if_neg h1, if_neg h2]⟩
        intro p hp
        rcases List.mem_cons.mp hp with rfl | hp
        · exact hoff (L' + 1, oc2) (List.mem_cons_self ..)
        · exact hoff p (List.mem_cons_of_mem _ hp)
      · intro m₁ news₁ h3 tk3 hz1 F14 N14
        (try k_fold)
        obtain ⟨oc2, y, ty, rfl, hcd, hy, va, vb, rfl⟩ := hz1
        clear F12 N13
        replace F14 : Fr g' L' h3 _ := F14
        replace N14 : News g' L' h3 _ := N14
        rw [List.length_map, hT.1, List.take_length] at hy
        subst hm2
        (repeat' (first | (k_unfold; (try dsimp only)) | (k_end; kc_close) | (with_reducible first | ((show wpAny _ _ (call (Value.ref 146) _) _ _ _); refine Stop.of ?_) | ((show wpAny _ _ (call (Value.ref 153) _) _ _ _); refine Stop.of ?_) | ((show wpAny _ _ (call (Value.ref 111) _) _ _ _); refine Stop.of ?_) | ((show wpAny _ _ (exec (Stmt.For _ (Expr.Call (Expr.Name (Str.ofString "fits_in") _) _ _ _) _ _ _) _) _ _ _); refine Stop.of ?_) | ((show wpAny _ _ (subscriptTail _ _ (Value.ref _) (Value.int _ _)) _ _ _); refine Stop.of ?_) | (k_here; (show wpAny _ _ (call (Value.ref 60) _) _ _ _); (try k_fold); (k_dflt (refine' Ct.use (fault_ct _ _ _ _) ?k1 ?k2 ?k3 ?k4 ?k5 ?kK ?kd ?ku ?_; (case k1 => k_asm); (case k2 => k_asm); (case k3 => k_asm); (case k4 => k_asm); (case k5 => k_asm); (case kK => first | exact rfl | assumption); (case kd => ktr_room); (case ku => ktr_units))); (intro _ _ _ _ _ _ hp9; obtain ⟨_, _, _, _, hr9, hn9, _⟩ := hp9; subst hr9; subst hn9); (try dsimp only); (try k_fold)) | ((show wpAny _ _ (exec (Stmt.Raise (some _) none _) _) _ _ _); (with_reducible refine raise_fault rfl ?_)) | ((show FaultUp _ _ _); k_dflt (refine ⟨_, _, _, _, _, _, _, _, _, rfl, (Frag.In.keeps (K := Mine.hd.heap_39 _) (by k_asm) (Fr.keep (by k_asm))) 60 _ rfl, News.get (by k_asm) (List.mem_cons_self ..), ?_⟩)) | ((show wpAny _ _ (eval (Expr.Constant (Const.int _) _ _) _) _ _ _); refine flat_int ?_) | ((show wpAny _ _ (binaryOp Operator.Add (Value.int _ _) (Value.int _ _)) _ _ _); refine flat_add ?_) | ((show wpAny _ _ (binaryOp Operator.Sub (Value.int _ _) (Value.int _ _)) _ _ _); refine flat_sub ?_) | ((show wpAny _ _ (eval (Expr.BinOp _ _ _ _) _) _ _ _); k_fold; k_dflt walk1) | ((show wpAny _ _ (eval (Expr.Compare _ _ _ _) _) _ _ _); k_fold; k_dflt walk1)) | walk1 | (dsimp only; first | (with_reducible first | ((show wpAny _ _ (call (Value.ref 146) _) _ _ _); refine Stop.of ?_) | ((show wpAny _ _ (call (Value.ref 153) _) _ _ _); refine Stop.of ?_) | ((show wpAny _ _ (call (Value.ref 111) _) _ _ _); refine Stop.of ?_) | ((show wpAny _ _ (exec (Stmt.For _ (Expr.Call (Expr.Name (Str.ofString "fits_in") _) _ _ _) _ _ _) _) _ _ _); refine Stop.of ?_) | ((show wpAny _ _ (subscriptTail _ _ (Value.ref _) (Value.int _ _)) _ _ _); refine Stop.of ?_) | (k_here; (show wpAny _ _ (call (Value.ref 60) _) _ _ _); (try k_fold); (k_dflt (refine' Ct.use (fault_ct _ _ _ _) ?k1 ?k2 ?k3 ?k4 ?k5 ?kK ?kd ?ku ?_; (case k1 => k_asm); (case k2 => k_asm); (case k3 => k_asm); (case k4 => k_asm); (case k5 => k_asm); (case kK => first | exact rfl | assumption); (case kd => ktr_room); (case ku => ktr_units))); (intro _ _ _ _ _ _ hp9; obtain ⟨_, _, _, _, hr9, hn9, _⟩ := hp9; subst hr9; subst hn9); (try dsimp only); (try k_fold)) | ((show wpAny _ _ (exec (Stmt.Raise (some _) none _) _) _ _ _); (with_reducible refine raise_fault rfl ?_)) | ((show FaultUp _ _ _); k_dflt (refine ⟨_, _, _, _, _, _, _, _, _, rfl, (Frag.In.keeps (K := Mine.hd.heap_39 _) (by k_asm) (Fr.keep (by k_asm))) 60 _ rfl, News.get (by k_asm) (List.mem_cons_self ..), ?_⟩))) | walk1) | (leave1; walk_say "STEP leave1"; try dsimp only) | fail "no step"))
        exact hret _ _ _ _ (by k_asm) (fun p hp => (by k_asm : News h₀ L _ ((L' + 1, oc2) :: (D, listOf (xs.map Value.ref).toArray k) :: (Ff, listOf (Ts.map Value.ref).toArray k') :: (led' ++ (tl' ++ news)))) p (by
          simp only [List.mem_cons, List.mem_append] at hp ⊢
          grind)) ⟨rfl, y, ty, rfl, hy⟩
end


section
open PySem.Spec Builtin PySem.Calls
variable {prog : Program} {w : World} {A : Around} {E : Value → Shared → Prop} {s : Shared} {b : Array UInt8} {t : Tok}
theorem hint_bytes {Q : Bool → Shared → Prop} (h : Q false s) : wpAny (model prog w) A (Builtin.List.listLengthHint (.bytes b t)) Q E s := by
  have hT := typeIs_bytes s b t
  unfold Builtin.List.listLengthHint
  refine wpAny_bind (wpAny_specialOf hT FB.slot_bytes_len.lookup ?_)
  generalize hid : ("bytes.__len__" : String) = id0
  wp_delta
  rw [show splitId id0 = some ("bytes", "__len__") from by subst hid; decide +kernel]
  subst hid
  refine wpAny_bind (wpAny_isInstance (T := "bytes") (b := true) hT (by rw [isSubtype_type]; kernel_rfl) ?_)
  refine wpAny_ite_split (fun hab => absurd hab (by decide)) (fun _ => ?_)
  refine wpAny_ite_split (fun _ => ?_) (fun hab => absurd (by decide +kernel) hab)
  refine wpAny_bind (wpAny_typeOf hT ?_)
  exact wpAny_pure h
abbrev BP (b : Array UInt8) : Nat → Value → Prop := fun i v => ∃ c u, b[i]? = some c ∧ v = .int (c.toNat : Int) u
theorem extend_bytes {R : Result → Shared → Prop} (hh : A.handled = none) (S : Addr) (res : Value) (c₀ : Nat) (hS : s.heap.get? S = some { cls := .type "list", data := .seq #[] c₀ })
    (hR : ∀ h' tk acc' c', (∀ b o, b ≠ S → s.heap.get? b = some o → h'.get? b = some o) → h'.get? S = some { cls := .type "list", dict := none, data := .seq acc' c', slots := #[] } → ItemsOf (BP b) acc' b.size → R (.ok (.ret res)) { s with heap := h', toks := tk }) (hn : b.size ≤ sizeLine) :
    wpAny (model prog w) A.in1 (Builtin.List.listExtendWith (.ref S) (.bytes b t) res)
      (fun fin s' => match fin with | .done f => R (.ok f) s' | .again c' => c'.quiet = true ∧ codeAny (model prog w) A c' R s') (fun e s' => R (.error e) s') s := by
  have hSI : S ≠ s.heap.objs.size := Nat.ne_of_lt (Heap.lt_size hS)
  have hSf : S ∉ [s.heap.objs.size] := by simpa using hSI
  obtain ⟨St, W, hSt⟩ : ∃ St : Nat → Heap → Prop, Walks prog w A.in1 s.heap.objs.size [s.heap.objs.size] [s.heap.objs.size] b.size (BP b) St ∧ ∀ h, KBw.IsBytesIter h s.heap.objs.size b t 0 → St 0 h := ⟨_, KBw.walks (A := A.in1) hh s.heap.objs.size b t, fun _ h => h⟩
  have key : ∀ (h : Heap) (c₁ tk : Nat), St 0 h → (∀ b o, b ≠ S → s.heap.get? b = some o → h.get? b = some o) →
      h.get? S = some { cls := .type "list", data := .seq #[] c₁ } → codeAny (model prog w) A (.builtin "list.extend.loop" ⟨[.ref S, .ref s.heap.objs.size, res], []⟩) R { s with heap := h, toks := tk } := by
    intro h c₁ tk hst hk hS₁
    refine codeAny_extend_loopS W.toS hn S hSf res b.size 0 _ #[] c₁ rfl (Nat.zero_le _) hst hS₁ (ItemsOf.nil _) fun s' acc' c' hm hS' hacc => ?_
    rw [Moved.eq_with hm]
    refine hR s'.heap s'.toks acc' c' (fun b o hb e => hm.heap b o (fun hmem => ?_) (hk b o hb e)) hS' hacc
    rcases List.mem_cons.mp hmem with e' | hmem
    · exact hb e'
    · exact absurd (Heap.lt_size e) (by rw [List.mem_singleton.mp hmem]; exact Nat.lt_irrefl _)
  unfold Builtin.List.listExtendWith
  refine wpAny_bind (wpAny_typeOf (T := "bytes") (typeIs_bytes s b t) ?_)
  have h1 : Builtin.List.listSameRef (.ref S) (.bytes b t) = false := rfl
  have h2 : (Value.type "bytes" == Value.type "list") = false := by decide
  have h3 : (Value.type "bytes" == Value.type "tuple") = false := by decide
  simp only [h1, h2, h3, Bool.or_false, Bool.false_eq_true, if_false]
  refine wpAny_bind (KBw.pyIter_bytes ?_)
  have hS₁ := Heap.get?_push_of_some { cls := .type "bytes_iterator", data := .fields #[.bytes b t, .int 0 0] } hS
  have hst0 : KBw.IsBytesIter (s.heap.push { cls := .type "bytes_iterator", data := .fields #[.bytes b t, .int 0 0] }) s.heap.objs.size b t 0 := ⟨_, Heap.get?_push_size _ rfl, rfl, rfl⟩
  replace hst0 := hSt _ hst0
  refine wpAny_bind (wpAny_holding (hint_bytes ?_))
  refine wpAny_ite_split (fun _ => ?_) (fun _ => wpAny_pure ⟨plainId_quiet PySem.F.plain_extend_loop _, key _ c₀ _ hst0 (fun b o _ e => Heap.get?_push_of_some _ e) hS₁⟩)
  refine wpAny_bind (wpAny_rule ?_)
  refine wpAny_bind ?_
  show wpAny _ _ (updateSeq S (·.push .none) >>= fun _ => updateSeq S (·.pop)) _ _ _
  refine wpAny_bind (wpAny_updateSeq hS₁ rfl ?_)
  have hS₂ := Heap.get?_update_self (Obj.mapSeq (·.push Value.none)) hS₁ rfl
  refine wpAny_updateSeq (hz := by seq_fits) hS₂ rfl ?_
  have hS₃ := Heap.get?_update_self (Obj.mapSeq (·.pop)) hS₂ rfl
  refine wpAny_pure ⟨plainId_quiet PySem.F.plain_extend_loop _, key _ _ _ ?_ (fun b o hb e => ?_) hS₃⟩
  · refine W.frame 0 _ _ hst0 fun b hb o e => ?_
    have hbS : b ≠ S := fun h => hSf (h ▸ hb)
    exact (Heap.get?_update_other _ _ (Ne.symm hbS)).trans ((Heap.get?_update_other _ _ (Ne.symm hbS)).trans e)
  · exact (Heap.get?_update_other _ _ (Ne.symm hb)).trans ((Heap.get?_update_other _ _ (Ne.symm hb)).trans (Heap.get?_push_of_some _ e))
theorem init_bytes {R : Result → Shared → Prop} (hh : A.handled = none) (S : Addr) (hS : s.heap.get? S = some { cls := .type "list", data := .seq #[] })
    (hR : ∀ h' tk acc' c', (∀ b o, b ≠ S → s.heap.get? b = some o → h'.get? b = some o) → h'.get? S = some { cls := .type "list", dict := none, data := .seq acc' c', slots := #[] } → ItemsOf (BP b) acc' b.size → R (.ok (.ret .none)) { s with heap := h', toks := tk }) (hn : b.size ≤ sizeLine) :
    wpAny (model prog w) A.in1 (Builtin.«list.__init__» ⟨[.ref S, .bytes b t], []⟩)
      (fun fin s' => match fin with | .done f => R (.ok f) s' | .again c' => c'.quiet = true ∧ codeAny (model prog w) A c' R s') (fun e s' => R (.error e) s') s := by
  show wpAny _ _ (do let old ← Builtin.List.listItems (.ref S); Builtin.List.listUpdate (.ref S) (fun _ => #[]); letGo old.toList.reverse; Builtin.List.listExtendWith (.ref S) (.bytes b t) .none) _ _ s
  refine wpAny_bind ?_
  unfold Builtin.List.listItems
  refine wpAny_bind (wpAny_seqItems hS rfl (wpAny_pure ?_))
  show wpAny _ _ (updateSeq S (fun _ => #[]) >>= fun _ => letGo (#[] : Array Value).toList.reverse >>= fun _ => Builtin.List.listExtendWith (.ref S) (.bytes b t) .none) _ _ s
  refine wpAny_bind (wpAny_updateSeq hS rfl ?_)
  have hS₂ := Heap.get?_update_self (Obj.mapSeq (fun _ => (#[] : Array Value))) hS rfl
  have oth : ∀ b o, b ≠ S → s.heap.get? b = some o → (s.heap.update S (Obj.mapSeq (fun _ => (#[] : Array Value)))).get? b = some o :=
    fun b o hb e => (Heap.get?_update_other _ _ (Ne.symm hb)).trans e
  refine wpAny_bind (wpAny_letGo ?_)
  refine extend_bytes hh S .none _ hS₂ (fun h' tk acc' c' hk hS' hacc => ?_) hn
  exact hR h' tk acc' c' (fun b o hb e => hk b o hb (oth b o hb e)) hS' hacc
theorem call_list_bytes {h₀ : Heap} {L : Addr} {m : Str → Option Value} {news : List (Addr × Obj)} {ks : List Int} {Q : Value → Shared → Prop} (hh : A.handled = none) (F : Fr h₀ L s.heap m) (N : News h₀ L s.heap news) (hb : KBw.bInts b = ks) (hn : ks.length ≤ 1000)
    (h : ∀ (D : Addr) c h' tk vs, Fr h₀ L h' m → News h₀ L h' ((D, listOf vs c) :: news) → (∀ q ∈ news, q.1 < D) → IntsAre vs.toList ks → Q (.ref D) { s with heap := h', toks := tk }) :
    wpAny (model prog w) A (call (.type "list") [.bytes b t]) Q E s := by
  subst hb
  have hsz : b.size ≤ sizeLine := by rw [KBw.ints_length] at hn; rw [sizeLine_eq]; omega
  refine callType_codes (Q₁ := fun obj s₁ => obj = .ref s.heap.objs.size ∧ s₁ = { s with heap := s.heap.push { cls := .type "list", data := .seq #[] } }) PySem.F.called_list (PySem.F.typeCall_list_1 _) PySem.F.entry_list_init
    (code_list_new _ ⟨rfl, rfl⟩) fun obj s₁ h₁ => ?_
  obtain ⟨rfl, rfl⟩ := h₁
  have hS : (s.heap.push { cls := .type "list", data := .seq #[] }).get? s.heap.objs.size = some { cls := .type "list", data := .seq #[] } := Heap.get?_push_size _ rfl
  refine ⟨⟨_, hS, rfl⟩, PySem.F.args_list_init_2 _ _, init_bytes (A := A.in1) hh _ hS (fun h' tk acc' c' hk hS' hacc => ?_) hsz⟩
  have up : ∀ b o, s.heap.get? b = some o → h'.get? b = some o := fun b o e => hk b o (Nat.ne_of_lt (Heap.lt_size e)) (Heap.get?_push_of_some _ e)
  refine ⟨rfl, h _ c' h' tk acc' (F.keeps up) (news_pushed F N up hS' rfl) (fun q hq => Heap.lt_size (N q hq).1) ?_⟩
  have hl : acc'.toList.length = (KBw.bInts b).length := by rw [KBw.ints_length, Array.length_toList]; exact hacc.1
  have hg : ∀ (i : Nat) v, acc'.toList[i]? = some v → ∃ k t, (KBw.bInts b)[i]? = some k ∧ v = .int k t := by
    intro i v hv
    rw [Array.getElem?_toList] at hv
    obtain ⟨c, u, h1, rfl⟩ := hacc.2 i v hv
    exact ⟨_, u, KBw.ints_get h1, rfl⟩
  generalize acc'.toList = vs at hl hg
  generalize KBw.bInts b = ks at hl hg
  clear hacc hS' hn
  induction vs generalizing ks with
  | nil =>
    cases ks with
    | nil => exact .nil
    | cons _ _ => simp at hl
  | cons v r ih =>
    cases ks with
    | nil => simp at hl
    | cons k q =>
      obtain ⟨k', t', h1, rfl⟩ := hg 0 v rfl
      obtain rfl : k = k' := by simpa using h1
      exact .cons _ _ (ih q (by simpa using hl) fun i v hv => hg (i + 1) v (by simpa using hv))
end


section
open PySem.Spec
variable {prog : Program} {w : World} {A : Around} {E : Value → Shared → Prop} {s : Shared} {env : Env} {h₀ : Heap} {x : Str} {px : Pos} {body : List Stmt} {Q : Flow → Shared → Prop}
/-- for a name, in a cell too, over bytes -/
theorem iter_bytesJ {b : Array UInt8} {tb : Tok} {ks : List Int} {m₀ : Str → Option Value} {news : List (Addr × Obj)} (J : Nat → (Str → Option Value) → List (Addr × Obj) → Prop) (hh : A.handled = none) (hb : KBw.bInts b = ks)
    (F : Fr h₀ env.locals s.heap m₀) (N : News h₀ env.locals s.heap news) (hj : J 0 m₀ news)
    (turn : ∀ I oI i k t m₁ news₁ h tk, ks[i]? = some k → J i m₁ news₁ → (∀ p ∈ news₁, p.1 ≠ I) → Fr h₀ env.locals h m₁ → News h₀ env.locals h (news₁ ++ [(I, oI)]) →
      wpAny (model prog w) A (assign (.Name x px) env (.int k t)) (fun _ s₃ => wpAny (model prog w) A (execs body env) (TurnEnd h₀ env.locals I [(I, oI)] (J (i + 1)) { s with heap := h, toks := tk } Q) E s₃) E { s with heap := h, toks := tk })
    (done : ∀ m₁ news₁ h tk, J ks.length m₁ news₁ → Fr h₀ env.locals h m₁ → News h₀ env.locals h news₁ → Q .next { s with heap := h, toks := tk })
    (hE : PassesOwn (model prog w) A env E := by passes_own) :
    wpAny (model prog w) A (pyIter (.bytes b tb)) (fun it s₂ => codeAny (model prog w) A (.forLoop (.Name x px) it body [] env) (fun r s' => match r with | .ok f => Q f s' | .error e => cameBackBy (model prog w) A env E e s') s₂) E s := by
  subst hb
  rw [KBw.ints_length] at done
  have hI0 := next_is_new F
  have hLI : env.locals ≠ s.heap.objs.size := Nat.ne_of_lt F.ns.lt
  have hN0 : ∀ p ∈ news, p.1 ≠ s.heap.objs.size := fun p hp => Nat.ne_of_lt (Heap.lt_size (N p hp).1)
  obtain ⟨St, W, hSt, hSt2, hStk⟩ : ∃ St : Nat → Heap → Prop, Walks prog w A s.heap.objs.size [s.heap.objs.size] [s.heap.objs.size] b.size (fun i v => ∃ c u, b[i]? = some c ∧ v = .int (c.toNat : Int) u) St ∧ (∀ h, KBw.IsBytesIter h s.heap.objs.size b tb 0 → St 0 h) ∧
      (∀ i h, St i h → ∃ oI, h.get? s.heap.objs.size = some oI) ∧ (∀ i h h' oI, St i h → h.get? s.heap.objs.size = some oI → h'.get? s.heap.objs.size = some oI → St i h') :=
    ⟨_, KBw.walks hh s.heap.objs.size b tb, fun _ h => h, fun i h g => let ⟨oI, a, _⟩ := g; ⟨oI, a⟩, fun i h h' oI g e e' => by
      obtain ⟨oI', a, r⟩ := g
      obtain rfl := Option.some.inj (a.symm.trans e)
      exact ⟨_, e', r⟩⟩
  refine KBw.pyIter_bytes ?_
  refine codeAny_forLoop_any (fun k s' => ∃ h tk i m₁ news₁, s' = { s with heap := h, toks := tk } ∧ i ≤ b.size ∧ k = b.size + 1 - i ∧ J i m₁ news₁ ∧ (∀ p ∈ news₁, p.1 ≠ s.heap.objs.size) ∧ Fr h₀ env.locals h m₁ ∧ News h₀ env.locals h news₁ ∧ St i h) ?_ (b.size + 1)
    ⟨_, s.toks, 0, m₀, news, rfl, Nat.zero_le _, rfl, hj, hN0, F.push _, fun p hp => ⟨Heap.get?_push_of_some _ (N p hp).1, (N p hp).2⟩, hSt _ ⟨_, Heap.get?_push_size _ rfl, rfl, rfl⟩⟩
  rintro k s' ⟨h, tk, i, m₁, news₁, rfl, hi, rfl, hJ, hoff, F₁, N₁, hst⟩
  by_cases hlt : i < b.size
  · refine W.item i _ _ _ hlt hst fun v h₁ tk₁ hP hst1 hk => ?_
    obtain ⟨c, u, hc, rfl⟩ := hP
    have hk' : ∀ b o, b ≠ s.heap.objs.size → h.get? b = some o → h₁.get? b = some o := fun b o hb e => hk b o (fun hm => hb (List.mem_singleton.mp hm)) e
    obtain ⟨oI, hoI⟩ := hSt2 _ _ hst1
    refine wpAny_of_eq (a := ()) rfl ?_
    refine wpAny_mono (turn _ oI i _ u m₁ news₁ h₁ tk₁ (KBw.ints_get hc) hJ hoff ⟨F₁.ns.at' fun o e => hk' _ o hLI e, fun b o e => hk' b o (fun z => by rw [z, hI0] at e; cases e) (F₁.keep b o e), F₁.above⟩ ?_) (fun _ s₃ p => ?_) hE
    · intro p hp
      rcases List.mem_append.mp hp with hp | hp
      · exact ⟨hk' _ _ (hoff p hp) (N₁ p hp).1, (N₁ p hp).2⟩
      · rw [List.mem_singleton.mp hp]; exact ⟨hoI, Ne.symm hLI, hI0⟩
    refine wpAny_passesOwn hE (wpAny_mono p (fun f s₄ q => ?_) fun _ _ x => x)
    have fin : (∃ h' tk' m' news', s₄ = { s with heap := h', toks := tk' } ∧ Fr h₀ env.locals h' m' ∧ News h₀ env.locals h' (news' ++ [(s.heap.objs.size, oI)]) ∧ (∀ p ∈ news', p.1 ≠ s.heap.objs.size) ∧ J (i + 1) m' news') →
        ∃ k', k' < b.size + 1 - i ∧ ∃ h tk i m₁ news₁, s₄ = { s with heap := h, toks := tk } ∧ i ≤ b.size ∧ k' = b.size + 1 - i ∧ J i m₁ news₁ ∧ (∀ p ∈ news₁, p.1 ≠ s.heap.objs.size) ∧ Fr h₀ env.locals h m₁ ∧ News h₀ env.locals h news₁ ∧ St i h := by
      rintro ⟨h', tk', m', news', rfl, F', N', ho, hm⟩
      exact ⟨b.size + 1 - (i + 1), by omega, h', tk', i + 1, m', news', rfl, hlt, rfl, hm, ho, F', fun p hp => N' p (List.mem_append_left _ hp), hStk _ _ _ _ hst1 hoI (N' _ (List.mem_append_right _ (List.mem_singleton_self _))).1⟩
    cases f with
    | ret v => exact q
    | brk => exact q
    | next => exact fin q
    | cont => exact fin q
  · obtain rfl : i = b.size := by omega
    refine W.done _ _ _ hst fun h₁ tk₁ hk => wpAny_execs_nil ?_
    have hk' : ∀ b o, b ≠ s.heap.objs.size → h.get? b = some o → h₁.get? b = some o := fun b o hb e => hk b o (fun hm => hb (List.mem_singleton.mp hm)) e
    exact done m₁ news₁ h₁ tk₁ hJ ⟨F₁.ns.at' fun o e => hk' _ o hLI e, fun b o e => hk' b o (fun z => by rw [z, hI0] at e; cases e) (F₁.keep b o e), F₁.above⟩ fun p hp => ⟨hk' _ _ (hoff p hp) (N₁ p hp).1, (N₁ p hp).2⟩
end



--SMALLF
/-- the rows of all one octet, as a list of tuples -/
def RowsUp (kw : List Int) (v1 v2 : Value) (k : Nat) (ys : Array Value) (ts : List (Addr × Obj)) : Prop := ys.size = k ∧ ∀ j < k, ∃ T vk vw, ys[j]? = some (.ref T) ∧ (T, tup4 vk vw v1 v2) ∈ ts ∧ SKind vk vw (kw[j]?)
theorem RowsUp.snoc {kw : List Int} {v1 v2 vk vw : Value} {k : Nat} {ys : Array Value} {ts : List (Addr × Obj)} {T : Addr} (h : RowsUp kw v1 v2 k ys ts) (hs : SKind vk vw (kw[k]?)) : RowsUp kw v1 v2 (k + 1) (ys ++ [Value.ref T].toArray) ((T, tup4 vk vw v1 v2) :: ts) := by
  refine ⟨by simp [h.1], fun j hj => ?_⟩
  rcases Nat.lt_succ_iff_lt_or_eq.mp hj with hj | rfl
  · obtain ⟨T', a, b, h1, h2, h3⟩ := h.2 j hj
    exact ⟨T', a, b, by rw [Array.getElem?_append_left (by rw [h.1]; exact hj)]; exact h1, List.mem_cons_of_mem _ h2, h3⟩
  · exact ⟨T, vk, vw, by rw [← h.1]; simp, List.mem_cons_self .., hs⟩
theorem RowsUp.rows {kw : List Int} {v1 v2 vk0 vw0 : Value} {ys : Array Value} {ts : List (Addr × Obj)} {T2 : Addr} (h : RowsUp kw v1 v2 kw.length ys ts) (hs : SKind vk0 vw0 none) (i : Nat) (c : Option Int) (hc : (kw.map some ++ [none])[i]? = some c) :
    ∃ T vk vw, (ys.toList ++ [Value.ref T2]).toArray[i]? = some (.ref T) ∧ (T, tup4 vk vw v1 v2) ∈ (T2, tup4 vk0 vw0 v1 v2) :: ts ∧ SKind vk vw c := by
  have hl : ys.toList.length = kw.length := by simpa using h.1
  by_cases hi : i < kw.length
  · obtain ⟨T, a, b, h1, h2, h3⟩ := h.2 i hi
    rw [List.getElem?_append_left (by simpa using hi), List.getElem?_map, List.getElem?_eq_getElem hi, Option.map_some] at hc
    rw [List.getElem?_eq_getElem hi, Option.some.inj hc] at h3
    exact ⟨T, a, b, by rw [List.getElem?_toArray, List.getElem?_append_left (by omega), Array.getElem?_toList]; exact h1, List.mem_cons_of_mem _ h2, h3⟩
  · have hi2 : i = kw.length := by
      have := (List.getElem?_eq_some_iff.mp hc).1
      simp at this
      omega
    subst hi2
    rw [List.getElem?_append_right (by simp)] at hc
    have hcn : none = c := by simpa using hc
    subst hcn
    exact ⟨T2, vk0, vw0, by rw [List.getElem?_toArray, List.getElem?_append_right (by omega), hl]; simp, List.mem_cons_self .., hs⟩
theorem rows_back {h₀ h : Heap} {L : Addr} {a d c i x1 x2 x3 x4 : Addr × Obj} {ts news : List (Addr × Obj)} (N : News h₀ L h (a :: d :: c :: i :: x1 :: x2 :: x3 :: x4 :: (ts ++ news))) : News h₀ L h (((a :: ts) ++ (x4 :: x1 :: x2 :: x3 :: news)) ++ [d, c, i]) := fun p hp => N p (by
  simp only [List.mem_cons, List.mem_append, List.not_mem_nil, or_false] at hp ⊢
  grind)
theorem slice_of_one {kw : List Int} {i : Nat} (hi : i < kw.length) : List.take (clipAt kw.length ((i : Int) + 1) - min i kw.length) (List.drop (min i kw.length) kw) = [kw[i]] := by
  rw [clip_nat (by omega), show ((i : Int) + 1).toNat = i + 1 by omega, Nat.min_eq_left (by omega), Nat.min_eq_left (by omega), show i + 1 - i = 1 by omega, List.drop_eq_getElem_cons hi]
  rfl
theorem slice_left {ko : List Int} {b e : Int} (hb : 0 ≤ b ∧ b ≤ ko.length) (he : 0 ≤ e ∧ e ≤ ko.length) : List.take (clipAt ko.length (if e > b then e else b) - clipAt ko.length b) (List.drop (clipAt ko.length b) ko) = (ko.drop b.toNat).take (e.toNat - b.toNat) := by
  rw [clip_nat hb.1, Nat.min_eq_left (by omega)]
  split
  · rw [clip_nat he.1, Nat.min_eq_left (by omega)]
  · rw [clip_nat hb.1, Nat.min_eq_left (by omega), show e.toNat - b.toNat = 0 by omega, Nat.sub_self]
theorem forIn_one {M : Model} {A : Around} {E : Value → Shared → Prop} {s : Shared} {c : Expr} {env : Env} {Q : Bool → Shared → Prop} (h : wpAny M A (isTrue c env (eval c env)) Q E s) :
    wpAny M A (forIn [c] true fun c r => if r = true then do let ok ← isTrue c env (eval c env); pure (ForInStep.yield ok) else pure (ForInStep.yield r)) Q E s := by
  rw [List.forIn_cons]
  simp only [if_true]
  refine wpAny_bind (wpAny_bind (wpAny_mono h (fun ok s₁ hq => wpAny_pure ?_) fun _ _ e => e))
  dsimp only
  rw [List.forIn_nil]
  exact wpAny_pure hq
theorem cnt_in {h₀ h : Heap} {L : Addr} {o a b w d c i : Addr × Obj} {ts news : List (Addr × Obj)} (N : News h₀ L h ((ts ++ (o :: a :: b :: w :: news)) ++ [d, c, i])) : News h₀ L h (d :: c :: i :: a :: b :: w :: o :: (ts ++ news)) := fun p hp => N p (by
  simp only [List.mem_cons, List.mem_append, List.not_mem_nil, or_false] at hp ⊢
  grind)
theorem cnt_out {h₀ h : Heap} {L : Addr} {o a b w d : Addr × Obj} {ts news : List (Addr × Obj)} (N : News h₀ L h ((ts ++ (o :: a :: b :: w :: news)) ++ [d])) : News h₀ L h (d :: o :: a :: b :: w :: (ts ++ news)) := fun p hp => N p (by
  simp only [List.mem_cons, List.mem_append, List.not_mem_nil, or_false] at hp ⊢
  grind)
theorem cnt_loop {h₀ h : Heap} {L : Addr} {t u l r s t2 d o a b w : Addr × Obj} {ts news : List (Addr × Obj)} (N : News h₀ L h (t :: u :: l :: r :: s :: t2 :: d :: o :: a :: b :: w :: (ts ++ news))) : News h₀ L h (o :: u :: l :: a :: b :: w :: r :: t2 :: (ts ++ news)) := fun p hp => N p (by
  simp only [List.mem_cons] at hp ⊢
  grind)
theorem rot3 {h₀ h : Heap} {L : Addr} {a b c : Addr × Obj} {l : List (Addr × Obj)} (N : News h₀ L h (a :: b :: c :: l)) : News h₀ L h (c :: a :: b :: l) := fun p hp => N p (by
  simp only [List.mem_cons] at hp ⊢
  grind)
theorem due_step {kw left left0 due : List Int} {i : Nat} {k : Int} (hk : kw[i]? = some k) (h : due ++ dueC (kw.drop i) left = dueC kw left0) :
    (due ++ [((left.filter (fun a => a = k)).length : Int)]) ++ dueC (kw.drop (i + 1)) (left.filter (fun a => a ≠ k)) = dueC kw left0 := by
  obtain ⟨hi, rfl⟩ := List.getElem?_eq_some_iff.mp hk
  rw [List.drop_eq_getElem_cons hi, dueC] at h
  rw [← h, List.append_assoc]
  rfl
theorem left_back {h₀ h : Heap} {L : Addr} {u x o l a b w I n : Addr × Obj} {bs : List (Addr × Obj)} (N : News h₀ L h ((u :: x :: o :: l :: a :: b :: w :: (bs ++ [I])) ++ [n])) : News h₀ L h ((o :: u :: n :: a :: b :: w :: bs) ++ [I]) := fun p hp => N p (by
  simp only [List.mem_cons, List.mem_append, List.not_mem_nil, or_false] at hp ⊢
  grind)
theorem filter_take_snoc {l : List Int} {p : Int → Bool} {j : Nat} (hj : j < l.length) : (l.take (j + 1)).filter p = (l.take j).filter p ++ (if p (l.getD j 0) then [l.getD j 0] else []) := by
  rw [List.take_add_one, List.getElem?_eq_getElem hj, List.filter_append, List.getD_eq_getElem?_getD, List.getElem?_eq_getElem hj]
  simp only [Option.toList_some, Option.getD_some, List.filter_cons, List.filter_nil]
section
theorem counts_ct (w : World) (o x : Array UInt8) (ko kw : List Int) (cb ca : Option Int) (v1 v2 : Value) (t1 t2 t3 t4 : Tok) (news : List (Addr × Obj)) (ho : KBw.bInts o = ko) (hx : KBw.bInts x = kw) (hz : ko.length ≤ 500) (hzw : kw.length ≤ 80) (hv1 : OptB v1 cb) (hv2 : OptB v2 ca) :
    Ct w 225 [.bytes o t1, .bytes x t2, v1, v2, .int (beginOf ko ca) t3, .int (endOf ko cb) t4] 24 500 news (Pure news fun r => r = .bool true) := by
  unfold Ct
  k_fill
  intro loose mean mg mb dp un gd cn cs a ccd cl outer A₀ base h₀ L m s Q E B F X N T hk hd hu hret
  refine wpAny_call ?_
  k_dflt (refine' code_defC (binds := [(Str.ofString "octets", .bytes o t1), (Str.ofString "wanted", .bytes x t2), (Str.ofString "before", v1), (Str.ofString "after", v2), (Str.ofString "begin", .int (beginOf ko ca) t3), (Str.ofString "end", .int (endOf ko cb) t4)]) ?k1 ?k2 ?k3 ?k4 ?k5 ?kA ?kF ?kK ?k6 ?k7 ?k8 ?k9 ?kB ?kD ?_ ?c2 ?c3 ?c4; (case kA => exact rfl); (case kF => exact rfl); (case kK => assumption); (case k1 => k_asm); (case k2 => k_asm); (case k3 => k_asm); (case k4 => k_asm); (case k5 => k_asm); (case k6 => k_is); (case k7 => k_is); (case k8 => ktr_room); (case k9 => exact BindsTo.of_eq rfl); (case kB => exact rfl); (case kD => decide +kernel); (case c2 => exact rfl); (case c3 => exact rfl); (case c4 => exact rfl); k_whole)
  intro g' L' h' tk' cells' FG' F' N' Y' B' X' T' l1
  k_cells Y'
  (try simp only [List.cons_append, List.nil_append] at N')
  (try dsimp only)
  (try k_fold)
  rename_i oO oA oB oW dO dA dB dW
  (repeat' (first | (k_unfold; (try dsimp only)) | (k_end; kc_close) | (with_reducible first | ((show wpAny _ _ (exec (Stmt.For (Expr.Name _ _) (Expr.Name _ _) _ [] _) _) _ _ _); refine Stop.of ?_) | ((show wpAny _ _ (call (Value.ref 158) _) _ _ _); refine Stop.of ?_) | ((show wpAny _ _ (call (Value.type "list") [Value.bytes _ _]) _ _ _); refine Stop.of ?_) | ((show wpAny _ _ (compareOp CmpOp.Eq (Value.ref _) (Value.ref _)) _ _ _); refine Stop.of ?_) | ((show wpAny _ _ (binaryOp Operator.Add (Value.ref _) (Value.ref _)) _ _ _); refine Stop.of ?_) | ((show wpAny _ _ (eval (Expr.Constant (Const.int _) _ _) _) _ _ _); refine flat_int ?_) | ((show wpAny _ _ (binaryOp Operator.Add (Value.int _ _) (Value.int _ _)) _ _ _); refine flat_add ?_) | ((show wpAny _ _ (binaryOp Operator.Sub (Value.int _ _) (Value.int _ _)) _ _ _); refine flat_sub ?_) | ((show wpAny _ _ (eval (Expr.BinOp _ _ _ _) _) _ _ _); k_fold; k_dflt walk1) | ((show wpAny _ _ (eval (Expr.Compare _ _ _ _) _) _ _ _); k_fold; k_dflt walk1)) | walk1 | (dsimp only; first | (with_reducible first | ((show wpAny _ _ (exec (Stmt.For (Expr.Name _ _) (Expr.Name _ _) _ [] _) _) _ _ _); refine Stop.of ?_) | ((show wpAny _ _ (call (Value.ref 158) _) _ _ _); refine Stop.of ?_) | ((show wpAny _ _ (call (Value.type "list") [Value.bytes _ _]) _ _ _); refine Stop.of ?_) | ((show wpAny _ _ (compareOp CmpOp.Eq (Value.ref _) (Value.ref _)) _ _ _); refine Stop.of ?_) | ((show wpAny _ _ (binaryOp Operator.Add (Value.ref _) (Value.ref _)) _ _ _); refine Stop.of ?_)) | walk1) | (leave1; walk_say "STEP leave1"; try dsimp only) | fail "no step"))
  refine Stop.go ?_
  (try k_fold)
  refine (eval_comp (h₀ := g') (L := L') (by with_unfolding_all rfl) (by decide) rfl (by decide) ?_)
  (repeat' (first | (k_unfold; (try dsimp only)) | (k_end; kc_close) | (with_reducible first | ((show wpAny _ _ (exec (Stmt.For (Expr.Name _ _) (Expr.Name _ _) _ [] _) _) _ _ _); refine Stop.of ?_) | ((show wpAny _ _ (call (Value.ref 158) _) _ _ _); refine Stop.of ?_) | ((show wpAny _ _ (call (Value.type "list") [Value.bytes _ _]) _ _ _); refine Stop.of ?_) | ((show wpAny _ _ (compareOp CmpOp.Eq (Value.ref _) (Value.ref _)) _ _ _); refine Stop.of ?_) | ((show wpAny _ _ (binaryOp Operator.Add (Value.ref _) (Value.ref _)) _ _ _); refine Stop.of ?_) | ((show wpAny _ _ (eval (Expr.Constant (Const.int _) _ _) _) _ _ _); refine flat_int ?_) | ((show wpAny _ _ (binaryOp Operator.Add (Value.int _ _) (Value.int _ _)) _ _ _); refine flat_add ?_) | ((show wpAny _ _ (binaryOp Operator.Sub (Value.int _ _) (Value.int _ _)) _ _ _); refine flat_sub ?_) | ((show wpAny _ _ (eval (Expr.BinOp _ _ _ _) _) _ _ _); k_fold; k_dflt walk1) | ((show wpAny _ _ (eval (Expr.Compare _ _ _ _) _) _ _ _); k_fold; k_dflt walk1)) | walk1 | (dsimp only; first | (with_reducible first | ((show wpAny _ _ (exec (Stmt.For (Expr.Name _ _) (Expr.Name _ _) _ [] _) _) _ _ _); refine Stop.of ?_) | ((show wpAny _ _ (call (Value.ref 158) _) _ _ _); refine Stop.of ?_) | ((show wpAny _ _ (call (Value.type "list") [Value.bytes _ _]) _ _ _); refine Stop.of ?_) | ((show wpAny _ _ (compareOp CmpOp.Eq (Value.ref _) (Value.ref _)) _ _ _); refine Stop.of ?_) | ((show wpAny _ _ (binaryOp Operator.Add (Value.ref _) (Value.ref _)) _ _ _); refine Stop.of ?_)) | walk1) | (leave1; walk_say "STEP leave1"; try dsimp only) | fail "no step"))
  rename Fr g' _ _ _ => F2
  rename News g' _ _ _ => N2
  rename IsRange _ _ _ _ _ _ _ _ => hrg
  obtain ⟨tl, htl⟩ : ∃ tl, tl = (L' + 1 + 1 + 1 + 1, oO) :: (L' + 1 + 1 + 1, oA) :: (L' + 1 + 1, oB) :: (L' + 1, oW) :: news := ⟨_, rfl⟩
  rw [← htl] at N2
  refine Stop.go (compAt_range kw.length (fun i ys nw => ∃ ts, nw = ts ++ tl ∧ RowsUp kw v1 v2 i ys ts ∧ ∀ p ∈ ts, L' + 1 + 1 + 1 + 1 < p.1)
    rfl rfl rfl hrg (small_one (by decide) (by decide) (by omega) (by omega)) (range1_size _) (by omega) ?_ F2 N2 ⟨[], rfl, ⟨rfl, fun _ h => absurd h (Nat.not_lt_zero _)⟩, fun p hp => nomatch hp⟩ ?_ ?_)
  · rintro i ys nw ⟨ts, _, h, _⟩
    exact Nat.le_of_eq h.1
  · intro s₂ D C I i t6 ys k nw oC2 oI mC h tk E hz1 hi hz2 hoff hns hmC F5 N5 hlt hDC
    (try k_fold)
    obtain ⟨hh, rfl⟩ := hz1
    obtain ⟨ts, rfl, hys, hts⟩ := hz2
    clear F2 N2
    have hi0 : (0 + (i : Int) * 1) = (i : Int) := by omega
    rw [hi0] at hmC
    rw [htl] at N5
    have N6 := cnt_in N5
    clear N5
    refine wpAny_pure ?_
    (try (k_unfold; (try dsimp only)))
    rw [if_pos rfl]
    (repeat' (first | (k_unfold; (try dsimp only)) | (k_end; kc_close) | (with_reducible first | ((show wpAny _ _ (exec (Stmt.For (Expr.Name _ _) (Expr.Name _ _) _ [] _) _) _ _ _); refine Stop.of ?_) | ((show wpAny _ _ (call (Value.ref 158) _) _ _ _); refine Stop.of ?_) | ((show wpAny _ _ (call (Value.type "list") [Value.bytes _ _]) _ _ _); refine Stop.of ?_) | ((show wpAny _ _ (compareOp CmpOp.Eq (Value.ref _) (Value.ref _)) _ _ _); refine Stop.of ?_) | ((show wpAny _ _ (binaryOp Operator.Add (Value.ref _) (Value.ref _)) _ _ _); refine Stop.of ?_) | ((show wpAny _ _ (eval (Expr.Constant (Const.int _) _ _) _) _ _ _); refine flat_int ?_) | ((show wpAny _ _ (binaryOp Operator.Add (Value.int _ _) (Value.int _ _)) _ _ _); refine flat_add ?_) | ((show wpAny _ _ (binaryOp Operator.Sub (Value.int _ _) (Value.int _ _)) _ _ _); refine flat_sub ?_) | ((show wpAny _ _ (eval (Expr.BinOp _ _ _ _) _) _ _ _); k_fold; k_dflt walk1) | ((show wpAny _ _ (eval (Expr.Compare _ _ _ _) _) _ _ _); k_fold; k_dflt walk1)) | walk1 | (dsimp only; first | (with_reducible first | ((show wpAny _ _ (exec (Stmt.For (Expr.Name _ _) (Expr.Name _ _) _ [] _) _) _ _ _); refine Stop.of ?_) | ((show wpAny _ _ (call (Value.ref 158) _) _ _ _); refine Stop.of ?_) | ((show wpAny _ _ (call (Value.type "list") [Value.bytes _ _]) _ _ _); refine Stop.of ?_) | ((show wpAny _ _ (compareOp CmpOp.Eq (Value.ref _) (Value.ref _)) _ _ _); refine Stop.of ?_) | ((show wpAny _ _ (binaryOp Operator.Add (Value.ref _) (Value.ref _)) _ _ _); refine Stop.of ?_)) | walk1) | (leave1; walk_say "STEP leave1"; try dsimp only) | fail "no step"))
    rename D < _ ∧ _ => hT
    rename News g' _ _ _ => N7
    rename Fr g' _ _ _ => F7
    rename KBw.bInts _ = _ => hsl
    rw [slice_of_one hi] at hsl
    have hki : kw[i]? = some kw[i] := List.getElem?_eq_getElem hi
    rw [htl] at hoff ⊢
    refine CompEnd.mk F7 (rows_back N7) ?_ ⟨_, rfl, hys.snoc (by rw [hki]; exact ⟨⟨_, rfl⟩, _, _, rfl, hsl⟩), fun p hp => (List.mem_cons.mp hp).elim (fun e => e ▸ hT.2.2.2.2.2.2.1) (hts p)⟩
    intro p hp
    rcases List.mem_cons.mp hp with rfl | hp
    · exact ⟨Nat.ne_of_gt hT.1, Nat.ne_of_gt hT.2.1, Nat.ne_of_gt hT.2.2.1⟩
    · exact hoff p hp
  · intro s₂ D C h tk ys k nw mC hz1 hCL hC0 hz2 hD hC hlt F5 N5 hns
    (try k_fold)
    obtain ⟨hh, rfl⟩ := hz1
    obtain ⟨ts, rfl, hys, hts⟩ := hz2
    refine compPost_eval hCL hC0 hC F5 N5 hns fun h5 F6 N6 => ?_
    clear F5 N5 F2 N2
    rw [htl] at N6
    replace N6 := cnt_out N6
    (repeat' (first | (k_unfold; (try dsimp only)) | (k_end; kc_close) | (with_reducible first | ((show wpAny _ _ (exec (Stmt.For (Expr.Name _ _) (Expr.Name _ _) _ [] _) _) _ _ _); refine Stop.of ?_) | ((show wpAny _ _ (call (Value.ref 158) _) _ _ _); refine Stop.of ?_) | ((show wpAny _ _ (call (Value.type "list") [Value.bytes _ _]) _ _ _); refine Stop.of ?_) | ((show wpAny _ _ (compareOp CmpOp.Eq (Value.ref _) (Value.ref _)) _ _ _); refine Stop.of ?_) | ((show wpAny _ _ (binaryOp Operator.Add (Value.ref _) (Value.ref _)) _ _ _); refine Stop.of ?_) | ((show wpAny _ _ (eval (Expr.Constant (Const.int _) _ _) _) _ _ _); refine flat_int ?_) | ((show wpAny _ _ (binaryOp Operator.Add (Value.int _ _) (Value.int _ _)) _ _ _); refine flat_add ?_) | ((show wpAny _ _ (binaryOp Operator.Sub (Value.int _ _) (Value.int _ _)) _ _ _); refine flat_sub ?_) | ((show wpAny _ _ (eval (Expr.BinOp _ _ _ _) _) _ _ _); k_fold; k_dflt walk1) | ((show wpAny _ _ (eval (Expr.Compare _ _ _ _) _) _ _ _); k_fold; k_dflt walk1)) | walk1 | (dsimp only; first | (with_reducible first | ((show wpAny _ _ (exec (Stmt.For (Expr.Name _ _) (Expr.Name _ _) _ [] _) _) _ _ _); refine Stop.of ?_) | ((show wpAny _ _ (call (Value.ref 158) _) _ _ _); refine Stop.of ?_) | ((show wpAny _ _ (call (Value.type "list") [Value.bytes _ _]) _ _ _); refine Stop.of ?_) | ((show wpAny _ _ (compareOp CmpOp.Eq (Value.ref _) (Value.ref _)) _ _ _); refine Stop.of ?_) | ((show wpAny _ _ (binaryOp Operator.Add (Value.ref _) (Value.ref _)) _ _ _); refine Stop.of ?_)) | walk1) | (leave1; walk_say "STEP leave1"; try dsimp only) | fail "no step"))
    rename_i T2 hA lT2 S hB FS NS lS
    obtain ⟨oT, ⟨tq, hoT⟩, NS⟩ : ∃ oT, (∃ tq, oT = tup4 (.str (Str.ofString "CHARACTERS") tq) .none v1 v2) ∧ News g' L' _ ((S, listOf #[.ref T2] 0) :: (T2, oT) :: (D, listOf ys k) :: (L' + 1 + 1 + 1 + 1, oO) :: (L' + 1 + 1 + 1, oA) :: (L' + 1 + 1, oB) :: (L' + 1, oW) :: (ts ++ news)) := ⟨_, ⟨_, rfl⟩, NS⟩
    have hysz : ys.size = kw.length := hys.1
    refine Stop.go ?_
    (try k_fold)
    refine (kmk_add_lit (its := ys) (its2 := #[Value.ref T2]) FS NS ⟨_, NS.get (show (D, listOf ys k) ∈ _ by simp), rfl, _, rfl⟩ ⟨_, NS.get (List.mem_cons_self ..), rfl, _, rfl⟩ rfl ?_ (by rw [sizeLine_eq]; simp; omega))
    intro R h7 F7 N7 hltR
    have hrows := hys.rows (T2 := T2) (vk0 := .str (Str.ofString "CHARACTERS") tq) (vw0 := .none) ⟨⟨_, rfl⟩, rfl⟩
    rw [← hoT] at hrows
    have hb1 := beginOf_in ko ca
    have he1 := endOf_in ko cb
    clear FS NS
    (repeat' (first | (k_unfold; (try dsimp only)) | (k_end; kc_close) | (with_reducible first | ((show wpAny _ _ (exec (Stmt.For (Expr.Name _ _) (Expr.Name _ _) _ [] _) _) _ _ _); refine Stop.of ?_) | ((show wpAny _ _ (call (Value.ref 158) _) _ _ _); refine Stop.of ?_) | ((show wpAny _ _ (call (Value.type "list") [Value.bytes _ _]) _ _ _); refine Stop.of ?_) | ((show wpAny _ _ (compareOp CmpOp.Eq (Value.ref _) (Value.ref _)) _ _ _); refine Stop.of ?_) | ((show wpAny _ _ (binaryOp Operator.Add (Value.ref _) (Value.ref _)) _ _ _); refine Stop.of ?_) | ((show wpAny _ _ (eval (Expr.Constant (Const.int _) _ _) _) _ _ _); refine flat_int ?_) | ((show wpAny _ _ (binaryOp Operator.Add (Value.int _ _) (Value.int _ _)) _ _ _); refine flat_add ?_) | ((show wpAny _ _ (binaryOp Operator.Sub (Value.int _ _) (Value.int _ _)) _ _ _); refine flat_sub ?_) | ((show wpAny _ _ (eval (Expr.BinOp _ _ _ _) _) _ _ _); k_fold; k_dflt walk1) | ((show wpAny _ _ (eval (Expr.Compare _ _ _ _) _) _ _ _); k_fold; k_dflt walk1)) | walk1 | (dsimp only; first | (with_reducible first | ((show wpAny _ _ (exec (Stmt.For (Expr.Name _ _) (Expr.Name _ _) _ [] _) _) _ _ _); refine Stop.of ?_) | ((show wpAny _ _ (call (Value.ref 158) _) _ _ _); refine Stop.of ?_) | ((show wpAny _ _ (call (Value.type "list") [Value.bytes _ _]) _ _ _); refine Stop.of ?_) | ((show wpAny _ _ (compareOp CmpOp.Eq (Value.ref _) (Value.ref _)) _ _ _); refine Stop.of ?_) | ((show wpAny _ _ (binaryOp Operator.Add (Value.ref _) (Value.ref _)) _ _ _); refine Stop.of ?_)) | walk1) | (leave1; walk_say "STEP leave1"; try dsimp only) | fail "no step"))
    rename Fr g' _ _ _ => F8
    rename News g' _ _ _ => N8
    rename KBw.bInts _ = _ => hleft
    rw [slice_left hb1 he1] at hleft
    refine Stop.go ?_
    (try k_fold)
    refine (call_list_bytes rfl F8 N8 hleft (by simp; omega) ?_)
    intro Lf c8 h8 tk8 vL F9 N9 hltL hiL
    clear F8 N8
    (repeat' (first | (k_unfold; (try dsimp only)) | (k_end; kc_close) | (with_reducible first | ((show wpAny _ _ (exec (Stmt.For (Expr.Name _ _) (Expr.Name _ _) _ [] _) _) _ _ _); refine Stop.of ?_) | ((show wpAny _ _ (call (Value.ref 158) _) _ _ _); refine Stop.of ?_) | ((show wpAny _ _ (call (Value.type "list") [Value.bytes _ _]) _ _ _); refine Stop.of ?_) | ((show wpAny _ _ (compareOp CmpOp.Eq (Value.ref _) (Value.ref _)) _ _ _); refine Stop.of ?_) | ((show wpAny _ _ (binaryOp Operator.Add (Value.ref _) (Value.ref _)) _ _ _); refine Stop.of ?_) | ((show wpAny _ _ (eval (Expr.Constant (Const.int _) _ _) _) _ _ _); refine flat_int ?_) | ((show wpAny _ _ (binaryOp Operator.Add (Value.int _ _) (Value.int _ _)) _ _ _); refine flat_add ?_) | ((show wpAny _ _ (binaryOp Operator.Sub (Value.int _ _) (Value.int _ _)) _ _ _); refine flat_sub ?_) | ((show wpAny _ _ (eval (Expr.BinOp _ _ _ _) _) _ _ _); k_fold; k_dflt walk1) | ((show wpAny _ _ (eval (Expr.Compare _ _ _ _) _) _ _ _); k_fold; k_dflt walk1)) | walk1 | (dsimp only; first | (with_reducible first | ((show wpAny _ _ (exec (Stmt.For (Expr.Name _ _) (Expr.Name _ _) _ [] _) _) _ _ _); refine Stop.of ?_) | ((show wpAny _ _ (call (Value.ref 158) _) _ _ _); refine Stop.of ?_) | ((show wpAny _ _ (call (Value.type "list") [Value.bytes _ _]) _ _ _); refine Stop.of ?_) | ((show wpAny _ _ (compareOp CmpOp.Eq (Value.ref _) (Value.ref _)) _ _ _); refine Stop.of ?_) | ((show wpAny _ _ (binaryOp Operator.Add (Value.ref _) (Value.ref _)) _ _ _); refine Stop.of ?_)) | walk1) | (leave1; walk_say "STEP leave1"; try dsimp only) | fail "no step"))
    rename_i Du hX lDu Dt hY lDt hZ1 hZ2 hZ3 FX NX
    refine Stop.go ?_
    (try k_fold)
    refine (wpAny_For ?_)
    (repeat' (first | (k_unfold; (try dsimp only)) | (k_end; kc_close) | (with_reducible first | ((show wpAny _ _ (exec (Stmt.For (Expr.Name _ _) (Expr.Name _ _) _ [] _) _) _ _ _); refine Stop.of ?_) | ((show wpAny _ _ (call (Value.ref 158) _) _ _ _); refine Stop.of ?_) | ((show wpAny _ _ (call (Value.type "list") [Value.bytes _ _]) _ _ _); refine Stop.of ?_) | ((show wpAny _ _ (compareOp CmpOp.Eq (Value.ref _) (Value.ref _)) _ _ _); refine Stop.of ?_) | ((show wpAny _ _ (binaryOp Operator.Add (Value.ref _) (Value.ref _)) _ _ _); refine Stop.of ?_) | ((show wpAny _ _ (eval (Expr.Constant (Const.int _) _ _) _) _ _ _); refine flat_int ?_) | ((show wpAny _ _ (binaryOp Operator.Add (Value.int _ _) (Value.int _ _)) _ _ _); refine flat_add ?_) | ((show wpAny _ _ (binaryOp Operator.Sub (Value.int _ _) (Value.int _ _)) _ _ _); refine flat_sub ?_) | ((show wpAny _ _ (eval (Expr.BinOp _ _ _ _) _) _ _ _); k_fold; k_dflt walk1) | ((show wpAny _ _ (eval (Expr.Compare _ _ _ _) _) _ _ _); k_fold; k_dflt walk1)) | walk1 | (dsimp only; first | (with_reducible first | ((show wpAny _ _ (exec (Stmt.For (Expr.Name _ _) (Expr.Name _ _) _ [] _) _) _ _ _); refine Stop.of ?_) | ((show wpAny _ _ (call (Value.ref 158) _) _ _ _); refine Stop.of ?_) | ((show wpAny _ _ (call (Value.type "list") [Value.bytes _ _]) _ _ _); refine Stop.of ?_) | ((show wpAny _ _ (compareOp CmpOp.Eq (Value.ref _) (Value.ref _)) _ _ _); refine Stop.of ?_) | ((show wpAny _ _ (binaryOp Operator.Add (Value.ref _) (Value.ref _)) _ _ _); refine Stop.of ?_)) | walk1) | (leave1; walk_say "STEP leave1"; try dsimp only) | fail "no step"))
    rename Fr g' _ _ _ => FX
    rename News g' _ _ _ => NX
    obtain ⟨m0, hm0, FX⟩ : ∃ m0, m0 = _ ∧ Fr g' L' _ m0 := ⟨_, rfl, FX⟩
    obtain ⟨oR, hoR⟩ : ∃ oR, oR = listOf (ys.toList ++ #[Value.ref T2].toList).toArray 0 := ⟨_, rfl⟩
    obtain ⟨bs, hbs⟩ : ∃ bs, bs = (R, oR) :: (T2, oT) :: (ts ++ news) := ⟨_, rfl⟩
    obtain ⟨left0, hleft0⟩ : ∃ left0, left0 = List.take ((endOf ko cb).toNat - (beginOf ko ca).toNat) (List.drop (beginOf ko ca).toNat ko) := ⟨_, rfl⟩
    have hl0 : left0.length ≤ 500 := by rw [hleft0]; simp; omega
    rw [← hleft0] at hiL
    have hbs4 : ∀ p ∈ (Du, listOf #[] 0) :: (Lf, listOf vL c8) :: (L' + 1 + 1 + 1, oA) :: (L' + 1 + 1, oB) :: (L' + 1, oW) :: bs, p.1 ≠ L' + 1 + 1 + 1 + 1 := by
      have hR4 := hltR (L' + 1 + 1 + 1 + 1, oO) (by simp)
      intro p hp
      simp only [hbs, List.mem_cons, List.mem_append] at hp
      rcases hp with rfl | rfl | rfl | rfl | rfl | rfl | rfl | hp | hp
      · exact Nat.ne_of_gt lDu.2.2.2.2.2.1
      · exact Nat.ne_of_gt (hltL (L' + 1 + 1 + 1 + 1, oO) (by simp))
      · exact Nat.ne_of_lt (Nat.lt_succ_self _)
      · exact Nat.ne_of_lt (Nat.lt_succ_of_lt (Nat.lt_succ_self _))
      · exact Nat.ne_of_lt (Nat.lt_succ_of_lt (Nat.lt_succ_of_lt (Nat.lt_succ_self _)))
      · exact Nat.ne_of_gt hR4
      · exact Nat.ne_of_gt lT2.2.1
      · exact Nat.ne_of_gt (hts p hp)
      · exact Nat.ne_of_lt (Nat.lt_succ_of_lt (Nat.lt_succ_of_lt (Nat.lt_succ_of_lt (Nat.lt_succ_of_lt (l1 p hp)))))
    have hbsD : ∀ p ∈ (L' + 1 + 1 + 1, oA) :: (L' + 1 + 1, oB) :: (L' + 1, oW) :: bs, p.1 < Du := by
      intro p hp
      simp only [hbs, List.mem_cons, List.mem_append] at hp
      obtain ⟨_, a2, _, a4, _, _, a7, a8, a9, a10⟩ := lDu
      rcases hp with rfl | rfl | rfl | rfl | rfl | hp | hp
      · exact a7
      · exact a8
      · exact a9
      · exact a2
      · exact a4
      · exact lt_all a10 p (List.mem_append_left _ hp)
      · exact lt_all a10 p (List.mem_append_right _ hp)
    have NY := cnt_loop NX
    rw [← hoR, ← hbs] at NY
    have hbs4' : ∀ p ∈ (L' + 1 + 1 + 1, oA) :: (L' + 1 + 1, oB) :: (L' + 1, oW) :: bs, p.1 ≠ L' + 1 + 1 + 1 + 1 := fun p hp => hbs4 p (List.mem_cons_of_mem _ (List.mem_cons_of_mem _ hp))
    have hD4 : Du ≠ L' + 1 + 1 + 1 + 1 := hbs4 (Du, _) (List.mem_cons_self ..)
    have hLf4 : Lf ≠ L' + 1 + 1 + 1 + 1 := hbs4 (Lf, listOf vL c8) (by simp)
    have hLD : Lf ≠ Du := Nat.ne_of_lt lDu.1
    have hO : ∃ v, oO.data = .cell v := ⟨_, dO⟩
    clear hbs4 NX
    refine Stop.go (iter_bytesJ (fun i m₁ news₁ => ∃ (Li : Addr) (vl : Array Value) (kl : Nat) (vd : Array Value) (kd : Nat) (oc : Obj) (left due : List Int), news₁ = (L' + 1 + 1 + 1 + 1, oc) :: (Du, listOf vd kd) :: (Li, listOf vl kl) :: (L' + 1 + 1 + 1, oA) :: (L' + 1 + 1, oB) :: (L' + 1, oW) :: bs ∧ Li ≠ Du ∧ Li ≠ L' + 1 + 1 + 1 + 1 ∧ (∃ v, oc.data = .cell v) ∧
        IntsAre vl.toList left ∧ IntsAre vd.toList due ∧ due ++ dueC (kw.drop i) left = dueC kw left0 ∧ left.length ≤ 500 ∧ due.length = i ∧ m₁ = fun y => if y = Str.ofString "left" then some (.ref Li) else m0 y)
      rfl hx FX NY ⟨Lf, vL, c8, #[], 0, oO, left0, [], rfl, hLD, hLf4, hO, hiL, .nil, rfl, hl0, rfl, norm1v (by rw [hm0]; rfl)⟩ ?_ ?_)
    · intro I oI i k t m₁ news₁ h tk hk hz1 hoff F1 N1
      (try k_fold)
      obtain ⟨Li, vl, kl, vd, kd, oc, left, due, rfl, hLD1, hL41, ⟨cv, hcv⟩, hvl, hvd, hsum, hll, hdl, rfl⟩ := hz1
      clear FX NY
      have hne4 : ∀ p ∈ (Du, listOf vd kd) :: (Li, listOf vl kl) :: (L' + 1 + 1 + 1, oA) :: (L' + 1 + 1, oB) :: (L' + 1, oW) :: (bs ++ [(I, oI)]), p.1 ≠ L' + 1 + 1 + 1 + 1 := by
        intro p hp
        rcases List.mem_cons.mp hp with rfl | hp
        · exact hD4
        · rcases List.mem_cons.mp hp with rfl | hp
          · exact hL41
          · rw [← List.cons_append, ← List.cons_append, ← List.cons_append] at hp
            rcases List.mem_append.mp hp with hp | hp
            · exact hbs4' p hp
            · rw [List.mem_singleton.mp hp]
              exact Ne.symm (hoff (L' + 1 + 1 + 1 + 1, oc) (List.mem_cons_self ..))
      have hneD : ∀ p ∈ bs ++ [(I, oI)], p.1 ≠ Du := by
        intro p hp
        rcases List.mem_append.mp hp with hp | hp
        · exact Nat.ne_of_lt (hbsD p (by simp [hp]))
        · rw [List.mem_singleton.mp hp]
          exact Ne.symm (hoff (Du, listOf vd kd) (by simp))
      have hD1 := hbsD (L' + 1 + 1 + 1, oA) (by simp)
      have hD2 := hbsD (L' + 1 + 1, oB) (by simp)
      have hD3 := hbsD (L' + 1, oW) (by simp)
      have hki : i < kw.length := (List.getElem?_eq_some_iff.mp hk).1
      have hszd : vd.size ≤ 80 := by rw [ints_size hvd]; omega
      subst hm0
      replace F1 : Fr g' L' h _ := F1
      replace N1 : News g' L' h _ := N1
      simp only [List.cons_append] at F1 N1
      (repeat' (first | (k_unfold; (try dsimp only)) | (k_end; kc_close) | (with_reducible first | ((show wpAny _ _ (exec (Stmt.For (Expr.Name _ _) (Expr.Name _ _) _ [] _) _) _ _ _); refine Stop.of ?_) | ((show wpAny _ _ (call (Value.ref 158) _) _ _ _); refine Stop.of ?_) | ((show wpAny _ _ (call (Value.type "list") [Value.bytes _ _]) _ _ _); refine Stop.of ?_) | ((show wpAny _ _ (compareOp CmpOp.Eq (Value.ref _) (Value.ref _)) _ _ _); refine Stop.of ?_) | ((show wpAny _ _ (binaryOp Operator.Add (Value.ref _) (Value.ref _)) _ _ _); refine Stop.of ?_) | ((show wpAny _ _ (eval (Expr.Constant (Const.int _) _ _) _) _ _ _); refine flat_int ?_) | ((show wpAny _ _ (binaryOp Operator.Add (Value.int _ _) (Value.int _ _)) _ _ _); refine flat_add ?_) | ((show wpAny _ _ (binaryOp Operator.Sub (Value.int _ _) (Value.int _ _)) _ _ _); refine flat_sub ?_) | ((show wpAny _ _ (eval (Expr.BinOp _ _ _ _) _) _ _ _); k_fold; k_dflt walk1) | ((show wpAny _ _ (eval (Expr.Compare _ _ _ _) _) _ _ _); k_fold; k_dflt walk1)) | walk1 | (dsimp only; first | (with_reducible first | ((show wpAny _ _ (exec (Stmt.For (Expr.Name _ _) (Expr.Name _ _) _ [] _) _) _ _ _); refine Stop.of ?_) | ((show wpAny _ _ (call (Value.ref 158) _) _ _ _); refine Stop.of ?_) | ((show wpAny _ _ (call (Value.type "list") [Value.bytes _ _]) _ _ _); refine Stop.of ?_) | ((show wpAny _ _ (compareOp CmpOp.Eq (Value.ref _) (Value.ref _)) _ _ _); refine Stop.of ?_) | ((show wpAny _ _ (binaryOp Operator.Add (Value.ref _) (Value.ref _)) _ _ _); refine Stop.of ?_)) | walk1) | (leave1; walk_say "STEP leave1"; try dsimp only) | fail "no step"))
      rename Fr g' _ _ _ => F2
      rename News g' _ _ _ => N2
      refine Stop.go ?_
      (try k_fold)
      refine (eval_comp (h₀ := g') (L := L') (by with_unfolding_all rfl) (by decide) rfl (by decide) ?_)
      (repeat' (first | (k_unfold; (try dsimp only)) | (k_end; kc_close) | (with_reducible first | ((show wpAny _ _ (exec (Stmt.For (Expr.Name _ _) (Expr.Name _ _) _ [] _) _) _ _ _); refine Stop.of ?_) | ((show wpAny _ _ (call (Value.ref 158) _) _ _ _); refine Stop.of ?_) | ((show wpAny _ _ (call (Value.type "list") [Value.bytes _ _]) _ _ _); refine Stop.of ?_) | ((show wpAny _ _ (compareOp CmpOp.Eq (Value.ref _) (Value.ref _)) _ _ _); refine Stop.of ?_) | ((show wpAny _ _ (binaryOp Operator.Add (Value.ref _) (Value.ref _)) _ _ _); refine Stop.of ?_) | ((show wpAny _ _ (eval (Expr.Constant (Const.int _) _ _) _) _ _ _); refine flat_int ?_) | ((show wpAny _ _ (binaryOp Operator.Add (Value.int _ _) (Value.int _ _)) _ _ _); refine flat_add ?_) | ((show wpAny _ _ (binaryOp Operator.Sub (Value.int _ _) (Value.int _ _)) _ _ _); refine flat_sub ?_) | ((show wpAny _ _ (eval (Expr.BinOp _ _ _ _) _) _ _ _); k_fold; k_dflt walk1) | ((show wpAny _ _ (eval (Expr.Compare _ _ _ _) _) _ _ _); k_fold; k_dflt walk1)) | walk1 | (dsimp only; first | (with_reducible first | ((show wpAny _ _ (exec (Stmt.For (Expr.Name _ _) (Expr.Name _ _) _ [] _) _) _ _ _); refine Stop.of ?_) | ((show wpAny _ _ (call (Value.ref 158) _) _ _ _); refine Stop.of ?_) | ((show wpAny _ _ (call (Value.type "list") [Value.bytes _ _]) _ _ _); refine Stop.of ?_) | ((show wpAny _ _ (compareOp CmpOp.Eq (Value.ref _) (Value.ref _)) _ _ _); refine Stop.of ?_) | ((show wpAny _ _ (binaryOp Operator.Add (Value.ref _) (Value.ref _)) _ _ _); refine Stop.of ?_)) | walk1) | (leave1; walk_say "STEP leave1"; try dsimp only) | fail "no step"))
      rename Fr g' _ _ _ => F2
      rename News g' _ _ _ => N2
      obtain ⟨tl2, htl2, N2⟩ : ∃ tl2, tl2 = _ ∧ News g' L' _ tl2 := ⟨_, rfl, N2⟩
      have hsz := ints_size hvl
      refine Stop.go (compAt_list (items := vl) [(Li, listOf vl kl)] (fun j ys nw => nw = tl2 ∧ IntsAre ys.toList ((left.take j).filter (fun a => a = k))) rfl (List.mem_singleton_self _) rfl rfl (asg_name (by rfl) rfl) ?_ (by omega) ?_ F2 N2 ⟨rfl, .nil⟩ ?_ ?_)
      · rintro j ys nw h ⟨rfl, _⟩ Nh _ p hp
        rw [List.mem_singleton.mp hp]
        exact Nh.get (by rw [htl2]; simp)
      · rintro j ys nw ⟨_, hys⟩
        rw [ints_size hys]
        exact Nat.le_trans (List.length_filter_le _ _) (by simp; omega)
      · intro s₂ D C I j v ys ky nw oC2 oI mC h tk E hz1 hv hz2 hoff hns hmC F5 N5 hlt hDC
        (try k_fold)
        obtain ⟨hh, rfl⟩ := hz1
        obtain ⟨rfl, hys⟩ := hz2
        have hj : j < left.length := by rw [← hsz]; exact (Array.getElem?_eq_some_iff.mp hv).1
        obtain ⟨ta, hja⟩ : ∃ ta, v = .int (left.getD j 0) ta := by
          obtain ⟨ta, h1⟩ := ints_get hvl hj
          rw [← Array.getElem?_toList] at hv
          exact ⟨ta, Option.some.inj (hv.symm.trans h1)⟩
        subst hja
        clear F2 N2
        rw [htl2] at N5
        replace N5 := news_swap N5
        simp only [own3, List.cons_append, List.nil_append] at N5
        refine forIn_one ?_
        (repeat' (first | (k_unfold; (try dsimp only)) | (k_end; kc_close) | (with_reducible first | ((show wpAny _ _ (exec (Stmt.For (Expr.Name _ _) (Expr.Name _ _) _ [] _) _) _ _ _); refine Stop.of ?_) | ((show wpAny _ _ (call (Value.ref 158) _) _ _ _); refine Stop.of ?_) | ((show wpAny _ _ (call (Value.type "list") [Value.bytes _ _]) _ _ _); refine Stop.of ?_) | ((show wpAny _ _ (compareOp CmpOp.Eq (Value.ref _) (Value.ref _)) _ _ _); refine Stop.of ?_) | ((show wpAny _ _ (binaryOp Operator.Add (Value.ref _) (Value.ref _)) _ _ _); refine Stop.of ?_) | ((show wpAny _ _ (eval (Expr.Constant (Const.int _) _ _) _) _ _ _); refine flat_int ?_) | ((show wpAny _ _ (binaryOp Operator.Add (Value.int _ _) (Value.int _ _)) _ _ _); refine flat_add ?_) | ((show wpAny _ _ (binaryOp Operator.Sub (Value.int _ _) (Value.int _ _)) _ _ _); refine flat_sub ?_) | ((show wpAny _ _ (eval (Expr.BinOp _ _ _ _) _) _ _ _); k_fold; k_dflt walk1) | ((show wpAny _ _ (eval (Expr.Compare _ _ _ _) _) _ _ _); k_fold; k_dflt walk1)) | walk1 | (dsimp only; first | (with_reducible first | ((show wpAny _ _ (exec (Stmt.For (Expr.Name _ _) (Expr.Name _ _) _ [] _) _) _ _ _); refine Stop.of ?_) | ((show wpAny _ _ (call (Value.ref 158) _) _ _ _); refine Stop.of ?_) | ((show wpAny _ _ (call (Value.type "list") [Value.bytes _ _]) _ _ _); refine Stop.of ?_) | ((show wpAny _ _ (compareOp CmpOp.Eq (Value.ref _) (Value.ref _)) _ _ _); refine Stop.of ?_) | ((show wpAny _ _ (binaryOp Operator.Add (Value.ref _) (Value.ref _)) _ _ _); refine Stop.of ?_)) | walk1) | (leave1; walk_say "STEP leave1"; try dsimp only) | fail "no step"))
        · refine CompEnd.mk (by k_asm) (by rw [htl2]; exact news_back (by k_asm)) hoff ⟨rfl, ?_⟩
          rw [filter_take_snoc hj, if_pos (by simpa using (by assumption))]
          exact ints_snoc hys
        · refine CompEnd.mk (by k_asm) (by rw [htl2]; exact news_back (by k_asm)) hoff ⟨rfl, ?_⟩
          rw [filter_take_snoc hj, if_neg (by simpa using (by assumption)), List.append_nil]
          simpa using hys
      · intro s₂ D C h tk ys ky nw mC hz1 hCL hC0 hz2 hD hC hlt F5 N5 hns
        (try k_fold)
        obtain ⟨hh, rfl⟩ := hz1
        obtain ⟨rfl, hys⟩ := hz2
        refine compPost_eval hCL hC0 hC F5 N5 hns fun h5 F6 N6 => ?_
        clear F5 N5 F2 N2
        rw [List.take_of_length_le (by omega)] at hys
        have hcl := ints_size hys
        have hfl := List.length_filter_le (fun a : Int => decide (a = k)) left
        replace N6 := news_last N6
        rw [htl2] at N6 hlt
        replace N6 := rot3 N6
        have hDDu : Du < D := hlt (Du, listOf vd kd) (by simp)
        (repeat' (first | (k_unfold; (try dsimp only)) | (k_end; kc_close) | (with_reducible first | ((show wpAny _ _ (exec (Stmt.For (Expr.Name _ _) (Expr.Name _ _) _ [] _) _) _ _ _); refine Stop.of ?_) | ((show wpAny _ _ (call (Value.ref 158) _) _ _ _); refine Stop.of ?_) | ((show wpAny _ _ (call (Value.type "list") [Value.bytes _ _]) _ _ _); refine Stop.of ?_) | ((show wpAny _ _ (compareOp CmpOp.Eq (Value.ref _) (Value.ref _)) _ _ _); refine Stop.of ?_) | ((show wpAny _ _ (binaryOp Operator.Add (Value.ref _) (Value.ref _)) _ _ _); refine Stop.of ?_) | ((show wpAny _ _ (eval (Expr.Constant (Const.int _) _ _) _) _ _ _); refine flat_int ?_) | ((show wpAny _ _ (binaryOp Operator.Add (Value.int _ _) (Value.int _ _)) _ _ _); refine flat_add ?_) | ((show wpAny _ _ (binaryOp Operator.Sub (Value.int _ _) (Value.int _ _)) _ _ _); refine flat_sub ?_) | ((show wpAny _ _ (eval (Expr.BinOp _ _ _ _) _) _ _ _); k_fold; k_dflt walk1) | ((show wpAny _ _ (eval (Expr.Compare _ _ _ _) _) _ _ _); k_fold; k_dflt walk1)) | walk1 | (dsimp only; first | (with_reducible first | ((show wpAny _ _ (exec (Stmt.For (Expr.Name _ _) (Expr.Name _ _) _ [] _) _) _ _ _); refine Stop.of ?_) | ((show wpAny _ _ (call (Value.ref 158) _) _ _ _); refine Stop.of ?_) | ((show wpAny _ _ (call (Value.type "list") [Value.bytes _ _]) _ _ _); refine Stop.of ?_) | ((show wpAny _ _ (compareOp CmpOp.Eq (Value.ref _) (Value.ref _)) _ _ _); refine Stop.of ?_) | ((show wpAny _ _ (binaryOp Operator.Add (Value.ref _) (Value.ref _)) _ _ _); refine Stop.of ?_)) | walk1) | (leave1; walk_say "STEP leave1"; try dsimp only) | fail "no step"))
        rename Fr g' _ _ _ => F7
        rename News g' _ _ _ => N7
        refine append_K F7 N7 (Upd.head ?_) ?_ (by size_fits)
        · intro p hp
          simp only [List.mem_cons] at hp
          rcases hp with rfl | rfl | rfl | rfl | rfl | rfl | hp
          · exact Nat.ne_of_gt hDDu
          · exact Ne.symm hD4
          · exact hLD1
          · exact Nat.ne_of_lt hD1
          · exact Nat.ne_of_lt hD2
          · exact Nat.ne_of_lt hD3
          · exact hneD p hp
        intro h8 F8 N8
        clear F7 N7
        dsimp only
        (repeat' (first | (k_unfold; (try dsimp only)) | (k_end; kc_close) | (with_reducible first | ((show wpAny _ _ (exec (Stmt.For (Expr.Name _ _) (Expr.Name _ _) _ [] _) _) _ _ _); refine Stop.of ?_) | ((show wpAny _ _ (call (Value.ref 158) _) _ _ _); refine Stop.of ?_) | ((show wpAny _ _ (call (Value.type "list") [Value.bytes _ _]) _ _ _); refine Stop.of ?_) | ((show wpAny _ _ (compareOp CmpOp.Eq (Value.ref _) (Value.ref _)) _ _ _); refine Stop.of ?_) | ((show wpAny _ _ (binaryOp Operator.Add (Value.ref _) (Value.ref _)) _ _ _); refine Stop.of ?_) | ((show wpAny _ _ (eval (Expr.Constant (Const.int _) _ _) _) _ _ _); refine flat_int ?_) | ((show wpAny _ _ (binaryOp Operator.Add (Value.int _ _) (Value.int _ _)) _ _ _); refine flat_add ?_) | ((show wpAny _ _ (binaryOp Operator.Sub (Value.int _ _) (Value.int _ _)) _ _ _); refine flat_sub ?_) | ((show wpAny _ _ (eval (Expr.BinOp _ _ _ _) _) _ _ _); k_fold; k_dflt walk1) | ((show wpAny _ _ (eval (Expr.Compare _ _ _ _) _) _ _ _); k_fold; k_dflt walk1)) | walk1 | (dsimp only; first | (with_reducible first | ((show wpAny _ _ (exec (Stmt.For (Expr.Name _ _) (Expr.Name _ _) _ [] _) _) _ _ _); refine Stop.of ?_) | ((show wpAny _ _ (call (Value.ref 158) _) _ _ _); refine Stop.of ?_) | ((show wpAny _ _ (call (Value.type "list") [Value.bytes _ _]) _ _ _); refine Stop.of ?_) | ((show wpAny _ _ (compareOp CmpOp.Eq (Value.ref _) (Value.ref _)) _ _ _); refine Stop.of ?_) | ((show wpAny _ _ (binaryOp Operator.Add (Value.ref _) (Value.ref _)) _ _ _); refine Stop.of ?_)) | walk1) | (leave1; walk_say "STEP leave1"; try dsimp only) | fail "no step"))
        refine Stop.go ?_
        (try k_fold)
        refine (assign_comp (h₀ := g') (L := L') (by with_unfolding_all rfl) (by with_unfolding_all rfl) (by decide) rfl (by decide) ?_)
        (repeat' (first | (k_unfold; (try dsimp only)) | (k_end; kc_close) | (with_reducible first | ((show wpAny _ _ (exec (Stmt.For (Expr.Name _ _) (Expr.Name _ _) _ [] _) _) _ _ _); refine Stop.of ?_) | ((show wpAny _ _ (call (Value.ref 158) _) _ _ _); refine Stop.of ?_) | ((show wpAny _ _ (call (Value.type "list") [Value.bytes _ _]) _ _ _); refine Stop.of ?_) | ((show wpAny _ _ (compareOp CmpOp.Eq (Value.ref _) (Value.ref _)) _ _ _); refine Stop.of ?_) | ((show wpAny _ _ (binaryOp Operator.Add (Value.ref _) (Value.ref _)) _ _ _); refine Stop.of ?_) | ((show wpAny _ _ (eval (Expr.Constant (Const.int _) _ _) _) _ _ _); refine flat_int ?_) | ((show wpAny _ _ (binaryOp Operator.Add (Value.int _ _) (Value.int _ _)) _ _ _); refine flat_add ?_) | ((show wpAny _ _ (binaryOp Operator.Sub (Value.int _ _) (Value.int _ _)) _ _ _); refine flat_sub ?_) | ((show wpAny _ _ (eval (Expr.BinOp _ _ _ _) _) _ _ _); k_fold; k_dflt walk1) | ((show wpAny _ _ (eval (Expr.Compare _ _ _ _) _) _ _ _); k_fold; k_dflt walk1)) | walk1 | (dsimp only; first | (with_reducible first | ((show wpAny _ _ (exec (Stmt.For (Expr.Name _ _) (Expr.Name _ _) _ [] _) _) _ _ _); refine Stop.of ?_) | ((show wpAny _ _ (call (Value.ref 158) _) _ _ _); refine Stop.of ?_) | ((show wpAny _ _ (call (Value.type "list") [Value.bytes _ _]) _ _ _); refine Stop.of ?_) | ((show wpAny _ _ (compareOp CmpOp.Eq (Value.ref _) (Value.ref _)) _ _ _); refine Stop.of ?_) | ((show wpAny _ _ (binaryOp Operator.Add (Value.ref _) (Value.ref _)) _ _ _); refine Stop.of ?_)) | walk1) | (leave1; walk_say "STEP leave1"; try dsimp only) | fail "no step"))
        rename Fr g' _ _ _ => F9
        rename News g' _ _ _ => N9
        obtain ⟨tl3, htl3, N9⟩ : ∃ tl3, tl3 = _ ∧ News g' L' _ tl3 := ⟨_, rfl, N9⟩
        refine Stop.go (compAt_list (items := vl) [(Li, listOf vl kl)] (fun j ys nw => nw = tl3 ∧ IntsAre ys.toList ((left.take j).filter (fun a => a ≠ k))) rfl (List.mem_singleton_self _) rfl rfl (asg_name (by rfl) rfl) ?_ (by omega) ?_ F9 N9 ⟨rfl, .nil⟩ ?_ ?_)
        · rintro j ys nw h ⟨rfl, _⟩ Nh _ p hp
          rw [List.mem_singleton.mp hp]
          exact Nh.get (by rw [htl3]; simp)
        · rintro j ys nw ⟨_, hys⟩
          rw [ints_size hys]
          exact Nat.le_trans (List.length_filter_le _ _) (by simp; omega)
        · intro s₂ D2 C2 I2 j v ys ky nw oC2 oI2 mC h tk E hz1 hv hz2 hoff hns hmC F5 N5 hlt hDC
          (try k_fold)
          obtain ⟨hh, rfl⟩ := hz1
          obtain ⟨rfl, hys⟩ := hz2
          have hj : j < left.length := by rw [← hsz]; exact (Array.getElem?_eq_some_iff.mp hv).1
          obtain ⟨ta, hja⟩ : ∃ ta, v = .int (left.getD j 0) ta := by
            obtain ⟨ta, h1⟩ := ints_get hvl hj
            rw [← Array.getElem?_toList] at hv
            exact ⟨ta, Option.some.inj (hv.symm.trans h1)⟩
          subst hja
          clear F9 N9
          rw [htl3] at N5
          replace N5 := news_swap N5
          simp only [own3, List.cons_append, List.nil_append] at N5
          refine forIn_one ?_
          (repeat' (first | (k_unfold; (try dsimp only)) | (k_end; kc_close) | (with_reducible first | ((show wpAny _ _ (exec (Stmt.For (Expr.Name _ _) (Expr.Name _ _) _ [] _) _) _ _ _); refine Stop.of ?_) | ((show wpAny _ _ (call (Value.ref 158) _) _ _ _); refine Stop.of ?_) | ((show wpAny _ _ (call (Value.type "list") [Value.bytes _ _]) _ _ _); refine Stop.of ?_) | ((show wpAny _ _ (compareOp CmpOp.Eq (Value.ref _) (Value.ref _)) _ _ _); refine Stop.of ?_) | ((show wpAny _ _ (binaryOp Operator.Add (Value.ref _) (Value.ref _)) _ _ _); refine Stop.of ?_) | ((show wpAny _ _ (eval (Expr.Constant (Const.int _) _ _) _) _ _ _); refine flat_int ?_) | ((show wpAny _ _ (binaryOp Operator.Add (Value.int _ _) (Value.int _ _)) _ _ _); refine flat_add ?_) | ((show wpAny _ _ (binaryOp Operator.Sub (Value.int _ _) (Value.int _ _)) _ _ _); refine flat_sub ?_) | ((show wpAny _ _ (eval (Expr.BinOp _ _ _ _) _) _ _ _); k_fold; k_dflt walk1) | ((show wpAny _ _ (eval (Expr.Compare _ _ _ _) _) _ _ _); k_fold; k_dflt walk1)) | walk1 | (dsimp only; first | (with_reducible first | ((show wpAny _ _ (exec (Stmt.For (Expr.Name _ _) (Expr.Name _ _) _ [] _) _) _ _ _); refine Stop.of ?_) | ((show wpAny _ _ (call (Value.ref 158) _) _ _ _); refine Stop.of ?_) | ((show wpAny _ _ (call (Value.type "list") [Value.bytes _ _]) _ _ _); refine Stop.of ?_) | ((show wpAny _ _ (compareOp CmpOp.Eq (Value.ref _) (Value.ref _)) _ _ _); refine Stop.of ?_) | ((show wpAny _ _ (binaryOp Operator.Add (Value.ref _) (Value.ref _)) _ _ _); refine Stop.of ?_)) | walk1) | (leave1; walk_say "STEP leave1"; try dsimp only) | fail "no step"))
          · refine CompEnd.mk (by k_asm) (by rw [htl3]; exact news_back (by k_asm)) hoff ⟨rfl, ?_⟩
            rw [filter_take_snoc hj, if_pos (by simpa using (by assumption))]
            exact ints_snoc hys
          · refine CompEnd.mk (by k_asm) (by rw [htl3]; exact news_back (by k_asm)) hoff ⟨rfl, ?_⟩
            rw [filter_take_snoc hj, if_neg (by simpa using (by assumption)), List.append_nil]
            simpa using hys
        · intro s₂ D2 C2 h tk ys2 ky2 nw mC hz1 hCL hC0 hz2 hD hC hlt F5 N5 hns
          (try k_fold)
          obtain ⟨hh, rfl⟩ := hz1
          obtain ⟨rfl, hys2⟩ := hz2
          refine' compPost_assign2 (L := L') ?kL ?ky ?kp ?k1 ?k2 ?k3 ?kF ?kN ?kH ?_; (case kL => rfl); (case ky => rfl); (case kp => rfl); (case k1 => exact hCL); (case k2 => exact hC0); (case kF => exact F5); (case kN => exact N5); (case k3 => exact hC); (case kH => exact hns)
          intro h5 tk5 F6 N6
          clear F5 N5 F9 N9
          rw [List.take_of_length_le (by omega)] at hys2
          have hfl2 := List.length_filter_le (fun a : Int => decide (a ≠ k)) left
          rw [htl3] at N6 hlt
          replace N6 := left_back N6
          (repeat' (first | (k_unfold; (try dsimp only)) | (k_end; kc_close) | (with_reducible first | ((show wpAny _ _ (exec (Stmt.For (Expr.Name _ _) (Expr.Name _ _) _ [] _) _) _ _ _); refine Stop.of ?_) | ((show wpAny _ _ (call (Value.ref 158) _) _ _ _); refine Stop.of ?_) | ((show wpAny _ _ (call (Value.type "list") [Value.bytes _ _]) _ _ _); refine Stop.of ?_) | ((show wpAny _ _ (compareOp CmpOp.Eq (Value.ref _) (Value.ref _)) _ _ _); refine Stop.of ?_) | ((show wpAny _ _ (binaryOp Operator.Add (Value.ref _) (Value.ref _)) _ _ _); refine Stop.of ?_) | ((show wpAny _ _ (eval (Expr.Constant (Const.int _) _ _) _) _ _ _); refine flat_int ?_) | ((show wpAny _ _ (binaryOp Operator.Add (Value.int _ _) (Value.int _ _)) _ _ _); refine flat_add ?_) | ((show wpAny _ _ (binaryOp Operator.Sub (Value.int _ _) (Value.int _ _)) _ _ _); refine flat_sub ?_) | ((show wpAny _ _ (eval (Expr.BinOp _ _ _ _) _) _ _ _); k_fold; k_dflt walk1) | ((show wpAny _ _ (eval (Expr.Compare _ _ _ _) _) _ _ _); k_fold; k_dflt walk1)) | walk1 | (dsimp only; first | (with_reducible first | ((show wpAny _ _ (exec (Stmt.For (Expr.Name _ _) (Expr.Name _ _) _ [] _) _) _ _ _); refine Stop.of ?_) | ((show wpAny _ _ (call (Value.ref 158) _) _ _ _); refine Stop.of ?_) | ((show wpAny _ _ (call (Value.type "list") [Value.bytes _ _]) _ _ _); refine Stop.of ?_) | ((show wpAny _ _ (compareOp CmpOp.Eq (Value.ref _) (Value.ref _)) _ _ _); refine Stop.of ?_) | ((show wpAny _ _ (binaryOp Operator.Add (Value.ref _) (Value.ref _)) _ _ _); refine Stop.of ?_)) | walk1) | (leave1; walk_say "STEP leave1"; try dsimp only) | fail "no step"))
          rename _ = Data.cell (some (Value.int k _)) => hcv2
          have hDu2 : Du < D2 := hlt (Du, listOf (vd.push _) _) (List.mem_cons_self ..)
          have h42 : L' + 1 + 1 + 1 + 1 < D2 := hlt (L' + 1 + 1 + 1 + 1, _) (.tail _ (.tail _ (.head _)))
          have hI2 : I < D2 := hlt (I, oI) (by simp)
          refine TurnEnd.next (by k_asm) N6 ?_ ⟨D2, ys2, ky2, _, _, _, left.filter (fun a => a ≠ k), due ++ [((left.filter (fun a => a = k)).length : Int)], rfl, Nat.ne_of_gt hDu2, Nat.ne_of_gt h42, ⟨_, hcv2⟩, hys2, ints_push hvd, due_step hk hsum, by omega, by simp [hdl], ?_⟩
          · intro p hp
            simp only [List.mem_cons] at hp
            rcases hp with rfl | rfl | rfl | hp
            · exact hoff (L' + 1 + 1 + 1 + 1, oc) (by simp)
            · exact hoff (Du, listOf vd kd) (by simp)
            · exact Nat.ne_of_gt hI2
            · exact hoff p (by simp only [List.mem_cons]; exact .inr (.inr (.inr hp)))
          · funext y
            by_cases h : y = Str.ofString "left"
            · simp only [if_pos h]
            · simp only [if_neg h]
    · intro m₁ news₁ h tk hz1 F1 N1
      (try k_fold)
      obtain ⟨Li, vl, kl, vd, kd, oc, left, due, rfl, hLD1, hL41, ⟨cv, hcv⟩, hvl, hvd, hsum, hll, hdl, rfl⟩ := hz1
      clear FX NY
      rw [List.drop_of_length_le (Nat.le_refl _), dueC] at hsum
      subst hm0
      replace F1 : Fr g' L' h _ := F1
      replace N1 : News g' L' h _ := N1
      (repeat' (first | (k_unfold; (try dsimp only)) | (k_end; kc_close) | (with_reducible first | ((show wpAny _ _ (exec (Stmt.For (Expr.Name _ _) (Expr.Name _ _) _ [] _) _) _ _ _); refine Stop.of ?_) | ((show wpAny _ _ (call (Value.ref 158) _) _ _ _); refine Stop.of ?_) | ((show wpAny _ _ (call (Value.type "list") [Value.bytes _ _]) _ _ _); refine Stop.of ?_) | ((show wpAny _ _ (compareOp CmpOp.Eq (Value.ref _) (Value.ref _)) _ _ _); refine Stop.of ?_) | ((show wpAny _ _ (binaryOp Operator.Add (Value.ref _) (Value.ref _)) _ _ _); refine Stop.of ?_) | ((show wpAny _ _ (eval (Expr.Constant (Const.int _) _ _) _) _ _ _); refine flat_int ?_) | ((show wpAny _ _ (binaryOp Operator.Add (Value.int _ _) (Value.int _ _)) _ _ _); refine flat_add ?_) | ((show wpAny _ _ (binaryOp Operator.Sub (Value.int _ _) (Value.int _ _)) _ _ _); refine flat_sub ?_) | ((show wpAny _ _ (eval (Expr.BinOp _ _ _ _) _) _ _ _); k_fold; k_dflt walk1) | ((show wpAny _ _ (eval (Expr.Compare _ _ _ _) _) _ _ _); k_fold; k_dflt walk1)) | walk1 | (dsimp only; first | (with_reducible first | ((show wpAny _ _ (exec (Stmt.For (Expr.Name _ _) (Expr.Name _ _) _ [] _) _) _ _ _); refine Stop.of ?_) | ((show wpAny _ _ (call (Value.ref 158) _) _ _ _); refine Stop.of ?_) | ((show wpAny _ _ (call (Value.type "list") [Value.bytes _ _]) _ _ _); refine Stop.of ?_) | ((show wpAny _ _ (compareOp CmpOp.Eq (Value.ref _) (Value.ref _)) _ _ _); refine Stop.of ?_) | ((show wpAny _ _ (binaryOp Operator.Add (Value.ref _) (Value.ref _)) _ _ _); refine Stop.of ?_)) | walk1) | (leave1; walk_say "STEP leave1"; try dsimp only) | fail "no step"))
      rename Fr g' _ _ _ => F2
      rename News g' _ _ _ => N2
      have hRm : ∀ (q : List (Addr × Obj)), (∀ p ∈ bs, p ∈ q) → (R, listOf (ys.toList ++ [Value.ref T2]).toArray 0) ∈ q := fun q h => h _ (by rw [hbs, hoR]; exact List.mem_cons_self ..)
      have hbq : ∀ p ∈ bs, p ∈ (L' + 1 + 1 + 1 + 1, oc) :: (Du, listOf vd kd) :: (Li, listOf vl kl) :: (L' + 1 + 1 + 1, oA) :: (L' + 1 + 1, oB) :: (L' + 1, oW) :: bs := fun p hp => by simp [hp]
      refine Stop.go ?_
      (try k_fold)
      refine (Ct.use (tallied_ct w o ko (kw.map some ++ [none]) cb ca v1 v2 R (ys.toList ++ [Value.ref T2]).toArray 0 t1 _ ho hz hv1 hv2 (hRm _ hbq) (by simp [hysz]) (by simp; omega) (fun i c hc => ?_)) (by k_asm) F2 (by k_asm) N2 (by k_asm) rfl (by ktr_room) (by ktr_units) ?_)
      · obtain ⟨T, a1, a2, h1, h2, h3⟩ := hrows i c hc
        exact ⟨T, a1, a2, h1, hbq _ (by
          rw [hbs]
          rcases List.mem_cons.mp h2 with h2 | h2
          · rw [h2]; simp
          · simp [h2]), h3⟩
      intro r n9 h9 tk9 F9 N9 hz1
      (try k_fold)
      obtain ⟨D9, vs9, k9, rfl, rfl, hi9, hlt9⟩ := hz1
      clear F2 N2
      have hlv := ints_size hvl
      have hld := ints_size hvd
      (repeat' (first | (k_unfold; (try dsimp only)) | (k_end; kc_close) | (with_reducible first | ((show wpAny _ _ (exec (Stmt.For (Expr.Name _ _) (Expr.Name _ _) _ [] _) _) _ _ _); refine Stop.of ?_) | ((show wpAny _ _ (call (Value.ref 158) _) _ _ _); refine Stop.of ?_) | ((show wpAny _ _ (call (Value.type "list") [Value.bytes _ _]) _ _ _); refine Stop.of ?_) | ((show wpAny _ _ (compareOp CmpOp.Eq (Value.ref _) (Value.ref _)) _ _ _); refine Stop.of ?_) | ((show wpAny _ _ (binaryOp Operator.Add (Value.ref _) (Value.ref _)) _ _ _); refine Stop.of ?_) | ((show wpAny _ _ (eval (Expr.Constant (Const.int _) _ _) _) _ _ _); refine flat_int ?_) | ((show wpAny _ _ (binaryOp Operator.Add (Value.int _ _) (Value.int _ _)) _ _ _); refine flat_add ?_) | ((show wpAny _ _ (binaryOp Operator.Sub (Value.int _ _) (Value.int _ _)) _ _ _); refine flat_sub ?_) | ((show wpAny _ _ (eval (Expr.BinOp _ _ _ _) _) _ _ _); k_fold; k_dflt walk1) | ((show wpAny _ _ (eval (Expr.Compare _ _ _ _) _) _ _ _); k_fold; k_dflt walk1)) | walk1 | (dsimp only; first | (with_reducible first | ((show wpAny _ _ (exec (Stmt.For (Expr.Name _ _) (Expr.Name _ _) _ [] _) _) _ _ _); refine Stop.of ?_) | ((show wpAny _ _ (call (Value.ref 158) _) _ _ _); refine Stop.of ?_) | ((show wpAny _ _ (call (Value.type "list") [Value.bytes _ _]) _ _ _); refine Stop.of ?_) | ((show wpAny _ _ (compareOp CmpOp.Eq (Value.ref _) (Value.ref _)) _ _ _); refine Stop.of ?_) | ((show wpAny _ _ (binaryOp Operator.Add (Value.ref _) (Value.ref _)) _ _ _); refine Stop.of ?_)) | walk1) | (leave1; walk_say "STEP leave1"; try dsimp only) | fail "no step"))
      rename Fr g' _ _ _ => F2
      rename News g' _ _ _ => N2
      refine Stop.go ?_
      (try k_fold)
      refine (kmk_add_ints (vs := vd.toList) (ws := [_]) F2 N2 ⟨_, N2.get (show (Du, listOf vd kd) ∈ _ by simp), rfl, _, rfl⟩ ⟨_, N2.get (List.mem_cons_self ..), rfl, _, rfl⟩ hvd (.cons _ _ .nil) ?_ (by rw [sizeLine_eq]; simp; omega))
      intro De us h10 F10 N10 hlt10 hi10
      rw [hsum] at hi10
      clear F2 N2
      (repeat' (first | (k_unfold; (try dsimp only)) | (k_end; kc_close) | (with_reducible first | ((show wpAny _ _ (exec (Stmt.For (Expr.Name _ _) (Expr.Name _ _) _ [] _) _) _ _ _); refine Stop.of ?_) | ((show wpAny _ _ (call (Value.ref 158) _) _ _ _); refine Stop.of ?_) | ((show wpAny _ _ (call (Value.type "list") [Value.bytes _ _]) _ _ _); refine Stop.of ?_) | ((show wpAny _ _ (compareOp CmpOp.Eq (Value.ref _) (Value.ref _)) _ _ _); refine Stop.of ?_) | ((show wpAny _ _ (binaryOp Operator.Add (Value.ref _) (Value.ref _)) _ _ _); refine Stop.of ?_) | ((show wpAny _ _ (eval (Expr.Constant (Const.int _) _ _) _) _ _ _); refine flat_int ?_) | ((show wpAny _ _ (binaryOp Operator.Add (Value.int _ _) (Value.int _ _)) _ _ _); refine flat_add ?_) | ((show wpAny _ _ (binaryOp Operator.Sub (Value.int _ _) (Value.int _ _)) _ _ _); refine flat_sub ?_) | ((show wpAny _ _ (eval (Expr.BinOp _ _ _ _) _) _ _ _); k_fold; k_dflt walk1) | ((show wpAny _ _ (eval (Expr.Compare _ _ _ _) _) _ _ _); k_fold; k_dflt walk1)) | walk1 | (dsimp only; first | (with_reducible first | ((show wpAny _ _ (exec (Stmt.For (Expr.Name _ _) (Expr.Name _ _) _ [] _) _) _ _ _); refine Stop.of ?_) | ((show wpAny _ _ (call (Value.ref 158) _) _ _ _); refine Stop.of ?_) | ((show wpAny _ _ (call (Value.type "list") [Value.bytes _ _]) _ _ _); refine Stop.of ?_) | ((show wpAny _ _ (compareOp CmpOp.Eq (Value.ref _) (Value.ref _)) _ _ _); refine Stop.of ?_) | ((show wpAny _ _ (binaryOp Operator.Add (Value.ref _) (Value.ref _)) _ _ _); refine Stop.of ?_)) | walk1) | (leave1; walk_say "STEP leave1"; try dsimp only) | fail "no step"))
      rename Fr g' _ _ _ => F2
      rename News g' _ _ _ => N2
      have hcd : countsOf (fitsL ko (kw.map some ++ [none]) (beginOf ko ca) (endOf ko cb) ko.length) (kw.map some ++ [none]).length = dueC kw left0 := by
        have := counts_due (ko := ko) (kw := kw) (b := (beginOf ko ca).toNat) (e := (endOf ko cb).toNat)
        rw [Int.toNat_of_nonneg hb1.1, Int.toNat_of_nonneg he1.1] at this
        rw [hleft0, ← this, List.length_append, List.length_map]
        rfl
      rw [hcd] at hi9
      refine Stop.go ?_
      (try k_fold)
      refine (eq_intsK (vs := vs9.toList) ⟨_, N2.get (show (D9, listOf vs9 k9) ∈ _ by simp), rfl, _, rfl⟩ hi9 ⟨_, N2.get (show (De, listOf us.toArray 0) ∈ _ by simp), rfl, _, rfl⟩ hi10 (by units_room) ?_)
      rw [decide_eq_true rfl]
      (repeat' (first | (k_unfold; (try dsimp only)) | (k_end; kc_close) | (with_reducible first | ((show wpAny _ _ (exec (Stmt.For (Expr.Name _ _) (Expr.Name _ _) _ [] _) _) _ _ _); refine Stop.of ?_) | ((show wpAny _ _ (call (Value.ref 158) _) _ _ _); refine Stop.of ?_) | ((show wpAny _ _ (call (Value.type "list") [Value.bytes _ _]) _ _ _); refine Stop.of ?_) | ((show wpAny _ _ (compareOp CmpOp.Eq (Value.ref _) (Value.ref _)) _ _ _); refine Stop.of ?_) | ((show wpAny _ _ (binaryOp Operator.Add (Value.ref _) (Value.ref _)) _ _ _); refine Stop.of ?_) | ((show wpAny _ _ (eval (Expr.Constant (Const.int _) _ _) _) _ _ _); refine flat_int ?_) | ((show wpAny _ _ (binaryOp Operator.Add (Value.int _ _) (Value.int _ _)) _ _ _); refine flat_add ?_) | ((show wpAny _ _ (binaryOp Operator.Sub (Value.int _ _) (Value.int _ _)) _ _ _); refine flat_sub ?_) | ((show wpAny _ _ (eval (Expr.BinOp _ _ _ _) _) _ _ _); k_fold; k_dflt walk1) | ((show wpAny _ _ (eval (Expr.Compare _ _ _ _) _) _ _ _); k_fold; k_dflt walk1)) | walk1 | (dsimp only; first | (with_reducible first | ((show wpAny _ _ (exec (Stmt.For (Expr.Name _ _) (Expr.Name _ _) _ [] _) _) _ _ _); refine Stop.of ?_) | ((show wpAny _ _ (call (Value.ref 158) _) _ _ _); refine Stop.of ?_) | ((show wpAny _ _ (call (Value.type "list") [Value.bytes _ _]) _ _ _); refine Stop.of ?_) | ((show wpAny _ _ (compareOp CmpOp.Eq (Value.ref _) (Value.ref _)) _ _ _); refine Stop.of ?_) | ((show wpAny _ _ (binaryOp Operator.Add (Value.ref _) (Value.ref _)) _ _ _); refine Stop.of ?_)) | walk1) | (leave1; walk_say "STEP leave1"; try dsimp only) | fail "no step"))
      exact hret _ _ _ _ (by k_asm) (fun p hp => (by k_asm : News h₀ L _ ((De, listOf us.toArray 0) :: _)) p (by simp [hbs, hp])) ⟨rfl, rfl⟩
end



--SMALLJ
noncomputable abbrev ks7 : List Int := [97, 97, 98, 98, 99, 100, 88]
theorem hks7 : KBw.bInts #[97, 97, 98, 98, 99, 100, 88] = ks7 := rfl
noncomputable abbrev ks5 : List Int := [97, 98, 99, 100, 88]
theorem hks5 : KBw.bInts #[97, 98, 99, 100, 88] = ks5 := rfl
noncomputable abbrev ks6 : List Int := [97, 98, 99, 88, 121, 122]
theorem hks6 : KBw.bInts #[97, 98, 99, 88, 121, 122] = ks6 := rfl
theorem opt_of_pick {r : Value} {a b c d : UInt8} {ta tb tc td : Tok} (h : r ∈ (#[Value.none, Value.none, .bytes #[a] ta, .bytes #[b] tb, .bytes #[c] tc, .bytes #[d] td] : Array Value).toList) : ∃ c, OptB r c := by
  simp only [List.mem_cons, List.not_mem_nil, or_false] at h
  rcases h with rfl | rfl | rfl | rfl | rfl | rfl
  · exact ⟨none, rfl⟩
  · exact ⟨none, rfl⟩
  all_goals exact ⟨some _, _, _, rfl, rfl⟩
/-- the rows of all one octet with what each is exchanged for -/
def RowsUp5 (kw kg : List Int) (v1 v2 : Value) (k : Nat) (ys : Array Value) (ts : List (Addr × Obj)) : Prop := ys.size = k ∧ ∀ j < k, ∃ T vk vw by' tby, ys[j]? = some (.ref T) ∧ (T, tup5 vk vw (.bytes by' tby) v1 v2) ∈ ts ∧ SKind vk vw (kw[j]?) ∧ KBw.bInts by' = [kg.getD j 0]
theorem RowsUp5.snoc {kw kg : List Int} {v1 v2 vk vw : Value} {k : Nat} {ys : Array Value} {ts : List (Addr × Obj)} {T : Addr} {y : Array UInt8} {ty : Tok} (h : RowsUp5 kw kg v1 v2 k ys ts) (hs : SKind vk vw (kw[k]?)) (hy : KBw.bInts y = [kg.getD k 0]) :
    RowsUp5 kw kg v1 v2 (k + 1) (ys ++ [Value.ref T].toArray) ((T, tup5 vk vw (.bytes y ty) v1 v2) :: ts) := by
  refine ⟨by simp [h.1], fun j hj => ?_⟩
  rcases Nat.lt_succ_iff_lt_or_eq.mp hj with hj | rfl
  · obtain ⟨T', a, b, y', ty', h1, h2, h3, h4⟩ := h.2 j hj
    exact ⟨T', a, b, y', ty', by rw [Array.getElem?_append_left (by rw [h.1]; exact hj)]; exact h1, List.mem_cons_of_mem _ h2, h3, h4⟩
  · exact ⟨T, vk, vw, y, ty, by rw [← h.1]; simp, List.mem_cons_self .., hs, hy⟩
theorem RowsUp5.rows {kw kg : List Int} {v1 v2 : Value} {ys : Array Value} {ts : List (Addr × Obj)} (h : RowsUp5 kw kg v1 v2 kw.length ys ts) (i : Nat) (c : Option Int) (hc : (kw.map some)[i]? = some c) :
    ∃ T vk vw by' tby, ys[i]? = some (.ref T) ∧ (T, tup5 vk vw (.bytes by' tby) v1 v2) ∈ ts ∧ SKind vk vw c ∧ KBw.bInts by' = [kg.getD i 0] := by
  have hi : i < kw.length := by
    have := (List.getElem?_eq_some_iff.mp hc).1
    simpa using this
  obtain ⟨T, a, b, y', ty', h1, h2, h3, h4⟩ := h.2 i hi
  rw [List.getElem?_map, List.getElem?_eq_getElem hi, Option.map_some] at hc
  rw [List.getElem?_eq_getElem hi, Option.some.inj hc] at h3
  exact ⟨T, a, b, y', ty', h1, h2, h3, h4⟩
theorem rows5_in {h₀ h : Heap} {L : Addr} {d c i p q a b g w n : Addr × Obj} {ts own : List (Addr × Obj)} (N : News h₀ L h ((ts ++ (p :: q :: a :: b :: g :: w :: n :: own)) ++ [d, c, i])) : News h₀ L h (d :: c :: i :: p :: q :: a :: b :: g :: w :: n :: (ts ++ own)) := fun x hx => N x (by
  simp only [List.mem_cons, List.mem_append, List.not_mem_nil, or_false] at hx ⊢
  grind)
theorem rows5_out {h₀ h : Heap} {L : Addr} {z d c i p q a b g w n : Addr × Obj} {ts own : List (Addr × Obj)} (N : News h₀ L h (z :: d :: c :: i :: p :: q :: a :: b :: g :: w :: n :: (ts ++ own))) : News h₀ L h (((z :: ts) ++ (p :: q :: a :: b :: g :: w :: n :: own)) ++ [d, c, i]) := fun x hx => N x (by
  simp only [List.mem_cons, List.mem_append, List.not_mem_nil, or_false] at hx ⊢
  grind)
theorem rows5_done {h₀ h : Heap} {L : Addr} {d p q a b g w n : Addr × Obj} {ts own : List (Addr × Obj)} (N : News h₀ L h ((ts ++ (p :: q :: a :: b :: g :: w :: n :: own)) ++ [d])) : News h₀ L h (p :: q :: a :: b :: g :: w :: n :: d :: (ts ++ own)) := fun x hx => N x (by
  simp only [List.mem_cons, List.mem_append, List.not_mem_nil, or_false] at hx ⊢
  grind)
theorem two_of {ys : Array Value} {v0 v1 : Value} (h : ys.size = 2) (h0 : ys[0]? = some v0) (h1 : ys[1]? = some v1) : ys = #[v0, v1] := by
  apply Array.ext
  · simpa using h
  · intro i hi hi2
    have : i = 0 ∨ i = 1 := by omega
    rcases this with rfl | rfl
    · rw [Array.getElem?_eq_getElem hi] at h0; simpa using h0
    · rw [Array.getElem?_eq_getElem hi] at h1; simpa using h1
/-- what the parts of the octets are turned into -/
def PartsUp (f : Int → Int) (pks : List (List Int)) (k : Nat) (ys : Array Value) : Prop := ys.size = k ∧ ∀ j < k, ∃ b t, ys[j]? = some (.bytes b t) ∧ KBw.bInts b = (pks.getD j []).map f
theorem PartsUp.snoc {f : Int → Int} {pks : List (List Int)} {k : Nat} {ys : Array Value} {b : Array UInt8} {t : Tok} (h : PartsUp f pks k ys) (hb : KBw.bInts b = (pks.getD k []).map f) : PartsUp f pks (k + 1) (ys ++ [Value.bytes b t].toArray) := by
  refine ⟨by simp [h.1], fun j hj => ?_⟩
  rcases Nat.lt_succ_iff_lt_or_eq.mp hj with hj | rfl
  · obtain ⟨b', t', h1, h2⟩ := h.2 j hj
    exact ⟨b', t', by rw [Array.getElem?_append_left (by rw [h.1]; exact hj)]; exact h1, h2⟩
  · exact ⟨b, t, by rw [← h.1]; simp, hb⟩
theorem Ct0.use {w : World} {f : Addr} {vs : List Value} {d u : Nat} {news : List (Addr × Obj)} {Post : Value → List (Addr × Obj) → Prop} (C : Ct0 w f vs d u news Post)
    {loose : List Str} {mean : ExcName → Option Value} {mg mb : Str → Option Value} {dp un : Nat} {gd : Option (List Code)} {cn : Str} {cs : Scope} {a : Addr} {ccd : Value} {cl : List (Str × Addr)} {A₀ : Around} {base h₀ : Heap} {L : Addr} {m : Str → Option Value} {s : Shared} {Q E : Value → Shared → Prop}
    (B : Below A₀ base [] h₀) (F : Fr h₀ L s.heap m) (X : (Mine.hd.heap_39 w.params).In h₀) (N : News h₀ L s.heap news) (T : Top Mine.hd.view_39 loose mean mg mb h₀) (XB : (Mine.hd.heap_39 w.params).In base) (TB : Top Mine.hd.view_39 loose mean mg mb base) (hk : cs.kind = .function) (hd : dp + d < recursionLimit) (hu : un + u < cLine)
    (ret : ∀ r news' h' tk', Fr h₀ L h' m → News h₀ L h' news' → Post r news' → Q r { s with heap := h', toks := tk' }) :
    wpAny (model PySem.Challenge.rw_og0078_01.row.prog w) (ktrTop dp un gd cn cs L a ccd cl []) (call (.ref f) vs) Q E s :=
  C _ _ _ _ _ _ _ _ _ _ _ _ _ _ _ _ _ _ _ _ B F X N T XB TB hk hd hu ret
theorem rows_front {h₀ h : Heap} {L : Addr} {a d c i : Addr × Obj} {nC : List (Addr × Obj)} (N : News h₀ L h (nC ++ [d, c, i])) (ha : a ∈ nC) : News h₀ L h (a :: d :: c :: i :: nC) := fun p hp => N p (by
  simp only [List.mem_cons, List.mem_append, List.not_mem_nil, or_false] at hp ⊢
  rcases hp with rfl | h | h | h | h <;> simp [*])
section
set_option maxHeartbeats 40000000 in
theorem law_holds : PySem.Challenge.rw_og0078_01.Holds := by
  w_on
  refine holds_law said_law fun said => ?_
  refine holds_open (q := hd.view_39) (loose := [Str.ofString "LedgerError"]) (Xt := hd.xt) (XP := XL hd.view_39 []) (Yf := Hook.obs hd.hook) (Ya := Hook.val hd.hook) (YP := Hook.says hd.hook) (N := 3156) hleft (Hook.of hd.hook) (Hook.keeps hd.hook) (fun s e => xl_of s (Bool.and_eq_true_iff.mp e).1) XL.keeps (by rfl) (by rfl) (by rfl) (fun s e => recFacts_of (Bool.and_eq_true_iff.mp e).2) (by rfl) said_row said_chains ⟨rfl, rfl, rfl, rfl, rfl, by decide +kernel⟩ ?hw ?hc
  case hw => w_witness2
  case hc =>
  clear said
  delta hd.hook
  k_fill
  intro w s0 s1 mg mb hG hY fa ob pm cd doc dV kV ho hd hcd hD hmg hg args vals as hpre hlay hrd hwl hlo
  have hX := kIn_of hY
  have X := hX
  have hMX := (Ground.X hG).1
  have hV := (Ground.X hG).2
  refine Ground.open hG ?_
  intro T hTb D hTE hTW
  try (refine guard_noD D (by decide +kernel) ?_; clear D)
  obtain ⟨_, _, hM⟩ := bmod_of_top T
  have hTA := at_of_top T
  try (obtain ⟨_, _, he, B0⟩ := based_of_top T rfl hmg ho hd; have he' : cd = _ := he; subst he'; clear he)
  clear hmg
  wrow_args hpre hlay hrd hwl hlo
  refine enter_call ?_
  w_top on
  try refine codeAny_mono ?_ (fun _ _ g => GoodW.toG g)
  have B := below_caller (Top.heap T)
  w_call any ho hd hcd hD T F0
  clear hd hTA
  k_drop
  all_goals try k_fold
  rename_i wa wb wc wd ns hs hlay0 hLay hr hl2 wl1 wl2 S vs wl3 hL hra hw1 hr0 hI hr2 hlen hcond h1 tk1 o5 o4 o3 o2 o1 d5 d4 d3 d2 d1 N0 hX0
  replace B : Below callerA s1.heap [] s1.heap := B
  have hnl : ns.length ≤ 63 := by omega
  obtain ⟨e5, g5⟩ : ∃ c, o5.data = .cell c := ⟨_, d5⟩
  obtain ⟨e4, g4⟩ : ∃ c, o4.data = .cell c := ⟨_, d4⟩
  obtain ⟨e3, g3⟩ : ∃ c, o3.data = .cell c := ⟨_, d3⟩
  obtain ⟨e2, g2⟩ : ∃ c, o2.data = .cell c := ⟨_, d2⟩
  obtain ⟨e1, g1⟩ : ∃ c, o1.data = .cell c := ⟨_, d1⟩
  have hsc : ∀ (M : Str → Option Value), M (Str.ofString "script") = some (.ref S) → Fr s1.heap s1.heap.objs.size h1 M → ∃ m0 : Str → Option Value, Fr s1.heap s1.heap.objs.size h1 (fun y => if y = Str.ofString "script" then some (.ref S) else m0 y) := fun M e F => ⟨M, by rw [← norm1v e]; exact F⟩
  obtain ⟨m0, F0⟩ := hsc _ (by rfl) F0
  clear hsc d1 d2 d3 d4 d5 hX0 hX hD hcd hY
  (repeat' (first | (k_unfold; (try dsimp only)) | (k_end; kc_close) | (with_reducible first | ((show wpAny _ _ (call (Value.ref _) _) _ _ _); refine Stop.of ?_) | ((show wpAny _ _ (eval (Expr.Constant (Const.int _) _ _) _) _ _ _); refine flat_int ?_) | ((show wpAny _ _ (binaryOp Operator.Add (Value.int _ _) (Value.int _ _)) _ _ _); refine flat_add ?_) | ((show wpAny _ _ (binaryOp Operator.Sub (Value.int _ _) (Value.int _ _)) _ _ _); refine flat_sub ?_) | ((show wpAny _ _ (eval (Expr.BinOp _ _ _ _) _) _ _ _); k_fold; k_dflt walk1) | ((show wpAny _ _ (eval (Expr.Compare _ _ _ _) _) _ _ _); k_fold; k_dflt walk1)) | walk1 | (dsimp only; first | (with_reducible first | ((show wpAny _ _ (call (Value.ref _) _) _ _ _); refine Stop.of ?_)) | walk1) | (leave1; walk_say "STEP leave1"; try dsimp only) | fail "no step"))
  refine Stop.go (eval_comp (h₀ := s1.heap) (L := s1.heap.objs.size) (by with_unfolding_all rfl) (by decide) rfl (by decide) ?_)
  (repeat' (first | (k_unfold; (try dsimp only)) | (k_end; kc_close) | (with_reducible first | ((show wpAny _ _ (call (Value.ref _) _) _ _ _); refine Stop.of ?_) | ((show wpAny _ _ (eval (Expr.Constant (Const.int _) _ _) _) _ _ _); refine flat_int ?_) | ((show wpAny _ _ (binaryOp Operator.Add (Value.int _ _) (Value.int _ _)) _ _ _); refine flat_add ?_) | ((show wpAny _ _ (binaryOp Operator.Sub (Value.int _ _) (Value.int _ _)) _ _ _); refine flat_sub ?_) | ((show wpAny _ _ (eval (Expr.BinOp _ _ _ _) _) _ _ _); k_fold; k_dflt walk1) | ((show wpAny _ _ (eval (Expr.Compare _ _ _ _) _) _ _ _); k_fold; k_dflt walk1)) | walk1 | (dsimp only; first | (with_reducible first | ((show wpAny _ _ (call (Value.ref _) _) _ _ _); refine Stop.of ?_)) | walk1) | (leave1; walk_say "STEP leave1"; try dsimp only) | fail "no step"))
  refine Stop.go ?_
  (try k_fold); (k_dflt (refine' Ct.use (cases_ct _ _) ?k1 ?k2 ?k3 ?k4 ?k5 ?kK ?kd ?ku ?_; (case k1 => k_asm); (case k2 => k_asm); (case k3 => k_asm); (case k4 => k_asm); (case k5 => k_asm); (case kK => first | exact rfl | assumption); (case kd => ktr_room); (case ku => ktr_units)))
  intro r nC h9 tk9 F9 N9 hz1
  (try k_fold)
  obtain ⟨R, rows, kR, rfl, hRm, hRs, hsub, hrows⟩ := hz1
  clear F0 N0
  let J9 : Nat → Array Value → List (Addr × Obj) → Prop := (fun i ys nw => nw = nC ∧ ys = #[])
  refine Stop.go (compAt_list (items := rows) [(R, listOf rows kR)] J9 rfl (List.mem_singleton_self _) rfl rfl (asg_name (by rfl) rfl) ?_ (by omega) ?_ F9 N9 ⟨rfl, rfl⟩ ?_ ?_)
  · rintro i ys nw h ⟨rfl, _⟩ Nh _ p hp
    rw [List.mem_singleton.mp hp]
    exact Nh.get hRm
  · rintro i ys nw ⟨_, rfl⟩
    exact Nat.zero_le _
  · intro s₂ D C I i v ys k nw oC oI mC h tk E hz1 hv hz2 hoff hns hmC F5 N5 hlt hDC
    (try k_fold)
    obtain ⟨hh, rfl⟩ := hz1
    obtain ⟨rfl, rfl⟩ := hz2
    clear F9 N9
    have hvm : v ∈ rows.toList := by
      rw [← Array.getElem?_toList] at hv
      exact List.mem_of_getElem? hv
    obtain ⟨T', o, x, g, r, v1, v2, t1, t2, t3, t4, ko, kw, kg, cb, ca, rfl, hTm, ho, hx, hg, hv1, hv2, hz, hzw, hlen, hres⟩ := hrows v hvm
    replace N5 := rows_front N5 hTm
    refine forIn_one ?_
    (repeat' (first | (k_unfold; (try dsimp only)) | (k_end; kc_close) | (with_reducible first | ((show wpAny _ _ (call (Value.ref _) _) _ _ _); refine Stop.of ?_) | ((show wpAny _ _ (eval (Expr.Constant (Const.int _) _ _) _) _ _ _); refine flat_int ?_) | ((show wpAny _ _ (binaryOp Operator.Add (Value.int _ _) (Value.int _ _)) _ _ _); refine flat_add ?_) | ((show wpAny _ _ (binaryOp Operator.Sub (Value.int _ _) (Value.int _ _)) _ _ _); refine flat_sub ?_) | ((show wpAny _ _ (eval (Expr.BinOp _ _ _ _) _) _ _ _); k_fold; k_dflt walk1) | ((show wpAny _ _ (eval (Expr.Compare _ _ _ _) _) _ _ _); k_fold; k_dflt walk1)) | walk1 | (dsimp only; first | (with_reducible first | ((show wpAny _ _ (call (Value.ref _) _) _ _ _); refine Stop.of ?_)) | walk1) | (leave1; walk_say "STEP leave1"; try dsimp only) | fail "no step"))
    refine Stop.go ?_
    (try k_fold); (k_dflt (refine' Ct.use (converted_ct w o x g v1 v2 ko kw kg cb ca t1 t2 t3 _ ho hx hg hv1 hv2 hz hzw hlen) ?k1 ?k2 ?k3 ?k4 ?k5 ?kK ?kd ?ku ?_; (case k1 => k_asm); (case k2 => k_asm); (case k3 => k_asm); (case k4 => k_asm); (case k5 => k_asm); (case kK => first | exact rfl | assumption); (case kd => ktr_room); (case ku => ktr_units)))
    intro r' n7 h7 tk7 F7 N7 hz1
    (try k_fold)
    obtain ⟨rfl, b7, t7, rfl, hb7⟩ := hz1
    clear N5
    (repeat' (first | (k_unfold; (try dsimp only)) | (k_end; kc_close) | (with_reducible first | ((show wpAny _ _ (call (Value.ref _) _) _ _ _); refine Stop.of ?_) | ((show wpAny _ _ (eval (Expr.Constant (Const.int _) _ _) _) _ _ _); refine flat_int ?_) | ((show wpAny _ _ (binaryOp Operator.Add (Value.int _ _) (Value.int _ _)) _ _ _); refine flat_add ?_) | ((show wpAny _ _ (binaryOp Operator.Sub (Value.int _ _) (Value.int _ _)) _ _ _); refine flat_sub ?_) | ((show wpAny _ _ (eval (Expr.BinOp _ _ _ _) _) _ _ _); k_fold; k_dflt walk1) | ((show wpAny _ _ (eval (Expr.Compare _ _ _ _) _) _ _ _); k_fold; k_dflt walk1)) | walk1 | (dsimp only; first | (with_reducible first | ((show wpAny _ _ (call (Value.ref _) _) _ _ _); refine Stop.of ?_)) | walk1) | (leave1; walk_say "STEP leave1"; try dsimp only) | fail "no step"))
    · rename _ = true => hb
      rw [ne_ints hb7 hres] at hb
      cases hb
    · exact CompEnd.mk (by k_asm) (fun p hp => (by k_asm : News s1.heap s1.heap.objs.size _ ((T', _) :: (D, listOf #[] k) :: (C, oC) :: (I, oI) :: nw)) p (by
        simp only [own3, List.mem_append, List.mem_cons, List.not_mem_nil, or_false] at hp ⊢
        rcases hp with h | h | h | h <;> simp [h])) hoff ⟨rfl, rfl⟩
  · intro s₂ D C h tk ys k nw mC hz1 hCL hC0 hz2 hD hC hlt F5 N5 hns
    (try k_fold)
    obtain ⟨hh, rfl⟩ := hz1
    obtain ⟨rfl, rfl⟩ := hz2
    refine compPost_eval hCL hC0 hC F5 N5 hns fun h5 F6 N6 => ?_
    clear F5 N5 F9 N9
    replace N6 := news_last N6
    replace N6 : News s1.heap s1.heap.objs.size h5 [(D, listOf #[] k), (s1.heap.objs.size + 1 + 1 + 1 + 1 + 1, o5), (s1.heap.objs.size + 1 + 1 + 1 + 1, o4), (s1.heap.objs.size + 1 + 1 + 1, o3), (s1.heap.objs.size + 1 + 1, o2), (s1.heap.objs.size + 1, o1)] := fun p hp => N6 p (by
      rcases List.mem_cons.mp hp with rfl | hp
      · exact List.mem_cons_self ..
      · exact List.mem_cons_of_mem _ (hsub p hp))
    clear hrows hRm hsub hD hC hlt hns hCL hC0
    (repeat' (first | (k_unfold; (try dsimp only)) | (k_end; kc_close) | (with_reducible first | ((show wpAny _ _ (call (Value.ref _) _) _ _ _); refine Stop.of ?_) | ((show wpAny _ _ (eval (Expr.Constant (Const.int _) _ _) _) _ _ _); refine flat_int ?_) | ((show wpAny _ _ (binaryOp Operator.Add (Value.int _ _) (Value.int _ _)) _ _ _); refine flat_add ?_) | ((show wpAny _ _ (binaryOp Operator.Sub (Value.int _ _) (Value.int _ _)) _ _ _); refine flat_sub ?_) | ((show wpAny _ _ (eval (Expr.BinOp _ _ _ _) _) _ _ _); k_fold; k_dflt walk1) | ((show wpAny _ _ (eval (Expr.Compare _ _ _ _) _) _ _ _); k_fold; k_dflt walk1)) | walk1 | (dsimp only; first | (with_reducible first | ((show wpAny _ _ (call (Value.ref _) _) _ _ _); refine Stop.of ?_)) | walk1) | (leave1; walk_say "STEP leave1"; try dsimp only) | fail "no step"))
    rename Fr s1.heap _ _ _ => F1
    rename News s1.heap _ _ _ => N1
    replace N1 : News s1.heap s1.heap.objs.size _ [(s1.heap.objs.size + 1 + 1 + 1 + 1 + 1, o5), (s1.heap.objs.size + 1 + 1 + 1 + 1, o4), (s1.heap.objs.size + 1 + 1 + 1, o3), (s1.heap.objs.size + 1 + 1, o2), (s1.heap.objs.size + 1, o1)] := fun p hp => N1 p (.tail _ (.tail _ hp))
    refine Stop.go (pen_walk w S vs ns hI hnl hL B F1 X N1 T rfl (by ktr_room) (by ktr_units) ?_)
    intro P Cl oP oC h2 tk2 F2 N2 hltC hCP hpen hcells
    clear F1 N1
    have q5 : @LT.lt Nat _ (s1.heap.objs.size + 1 + 1 + 1 + 1 + 1) Cl := hltC (s1.heap.objs.size + 1 + 1 + 1 + 1 + 1, o5) (by simp)
    (repeat' (first | (k_unfold; (try dsimp only)) | (k_end; kc_close) | (with_reducible first | ((show wpAny _ _ (call (Value.ref _) _) _ _ _); refine Stop.of ?_) | ((show wpAny _ _ (eval (Expr.Constant (Const.int _) _ _) _) _ _ _); refine flat_int ?_) | ((show wpAny _ _ (binaryOp Operator.Add (Value.int _ _) (Value.int _ _)) _ _ _); refine flat_add ?_) | ((show wpAny _ _ (binaryOp Operator.Sub (Value.int _ _) (Value.int _ _)) _ _ _); refine flat_sub ?_) | ((show wpAny _ _ (eval (Expr.BinOp _ _ _ _) _) _ _ _); k_fold; k_dflt walk1) | ((show wpAny _ _ (eval (Expr.Compare _ _ _ _) _) _ _ _); k_fold; k_dflt walk1)) | walk1 | (dsimp only; first | (with_reducible first | ((show wpAny _ _ (call (Value.ref _) _) _ _ _); refine Stop.of ?_)) | walk1) | (leave1; walk_say "STEP leave1"; try dsimp only) | fail "no step"))
    rename Fr s1.heap _ _ _ => F1
    rename News s1.heap _ _ _ => N1
    rename _ = Data.cell (some (Value.ref P)) => d1
    rename Obj => oN
    refine Stop.go (For_invV s1.heap rfl rfl ?_)
    (repeat' (first | (k_unfold; (try dsimp only)) | (k_end; kc_close) | (with_reducible first | ((show wpAny _ _ (call (Value.ref _) _) _ _ _); refine Stop.of ?_) | ((show wpAny _ _ (eval (Expr.Constant (Const.int _) _ _) _) _ _ _); refine flat_int ?_) | ((show wpAny _ _ (binaryOp Operator.Add (Value.int _ _) (Value.int _ _)) _ _ _); refine flat_add ?_) | ((show wpAny _ _ (binaryOp Operator.Sub (Value.int _ _) (Value.int _ _)) _ _ _); refine flat_sub ?_) | ((show wpAny _ _ (eval (Expr.BinOp _ _ _ _) _) _ _ _); k_fold; k_dflt walk1) | ((show wpAny _ _ (eval (Expr.Compare _ _ _ _) _) _ _ _); k_fold; k_dflt walk1)) | walk1 | (dsimp only; first | (with_reducible first | ((show wpAny _ _ (call (Value.ref _) _) _ _ _); refine Stop.of ?_)) | walk1) | (leave1; walk_say "STEP leave1"; try dsimp only) | fail "no step"))
    rename IsRange _ _ _ _ _ _ _ _ => hrg
    rename Fr s1.heap _ _ _ => F1
    rename News s1.heap _ _ _ => N1
    let J9 : Nat → (Str → Option Value) → List (Addr × Obj) → Prop := (fun i m₁ news₁ => ∃ (oP o5 o4 o3 o2 : Obj) (c5 c4 c3 c2 : Option Value), news₁ = [(P, oP), (Cl, oC), (s1.heap.objs.size + 1 + 1 + 1 + 1 + 1, o5), (s1.heap.objs.size + 1 + 1 + 1 + 1, o4), (s1.heap.objs.size + 1 + 1 + 1, o3), (s1.heap.objs.size + 1 + 1, o2), (s1.heap.objs.size + 1, oN)] ∧
        PenIs Cl (100 * i) oP ∧ o5.data = .cell c5 ∧ o4.data = .cell c4 ∧ o3.data = .cell c3 ∧ o2.data = .cell c2)
    refine Stop.go (iter_range 2 J9
      rfl hrg (by decide) (by decide) F1 N1 ⟨oP, o5, o4, o3, o2, e5, e4, e3, e2, rfl, hpen, g5, g4, g3, g2⟩ ?_ ?_)
    · clear F1 N1 hrg hpen g5 g4 g3 g2 g1 hltC
      intro I i t m₁ news₁ h tk own hi hz1 hoff hown hsep F1 N1
      (try k_fold)
      obtain ⟨oP, o5, o4, o3, o2, e5, e4, e3, e2, rfl, hpen, g5, g4, g3, g2⟩ := hz1
      clear hr2 hr0 hw1 hra hl2 hr hLay hlay0 hs hM hTW hTE hTb hV hMX ho hG hlen hcond
      have hI5 : ∀ p ∈ own, p.1 ≠ s1.heap.objs.size + 1 + 1 + 1 + 1 + 1 := fun p hp => hsep p hp _ (by simp)
      have hI4 : ∀ p ∈ own, p.1 ≠ s1.heap.objs.size + 1 + 1 + 1 + 1 := fun p hp => hsep p hp _ (by simp)
      have hI3 : ∀ p ∈ own, p.1 ≠ s1.heap.objs.size + 1 + 1 + 1 := fun p hp => hsep p hp _ (by simp)
      have hI2 : ∀ p ∈ own, p.1 ≠ s1.heap.objs.size + 1 + 1 := fun p hp => hsep p hp _ (by simp)
      have hIP : ∀ p ∈ own, p.1 ≠ P := fun p hp => hsep p hp _ (by simp)
      have hcP : ∀ (x5 x4 x3 x2 x1 : Obj), ∀ p ∈ (s1.heap.objs.size + 1 + 1 + 1 + 1 + 1, x5) :: (s1.heap.objs.size + 1 + 1 + 1 + 1, x4) :: (s1.heap.objs.size + 1 + 1 + 1, x3) :: (s1.heap.objs.size + 1 + 1, x2) :: (s1.heap.objs.size + 1, x1) :: own, p.1 ≠ P := by
        intro x5 x4 x3 x2 x1 p hp
        simp only [List.mem_cons] at hp
        rcases hp with rfl | rfl | rfl | rfl | rfl | hp
        · exact neN (by dsimp only; omega)
        · exact neN (by dsimp only; omega)
        · exact neN (by dsimp only; omega)
        · exact neN (by dsimp only; omega)
        · exact neN (by dsimp only; omega)
        · exact hIP p hp
      have hPC : @Ne Nat P Cl := by omega
      replace F1 : Fr s1.heap s1.heap.objs.size h _ := F1
      replace N1 : News s1.heap s1.heap.objs.size h ((P, oP) :: (Cl, oC) :: (s1.heap.objs.size + 1 + 1 + 1 + 1 + 1, o5) :: (s1.heap.objs.size + 1 + 1 + 1 + 1, o4) :: (s1.heap.objs.size + 1 + 1 + 1, o3) :: (s1.heap.objs.size + 1 + 1, o2) :: (s1.heap.objs.size + 1, oN) :: own) := N1
      clear hsep hown
      (repeat' (first | (k_unfold; (try dsimp only)) | (k_end; kc_close) | (with_reducible first | ((show wpAny _ _ (call (Value.ref _) _) _ _ _); refine Stop.of ?_) | ((show wpAny _ _ (eval (Expr.Constant (Const.int _) _ _) _) _ _ _); refine flat_int ?_) | ((show wpAny _ _ (binaryOp Operator.Add (Value.int _ _) (Value.int _ _)) _ _ _); refine flat_add ?_) | ((show wpAny _ _ (binaryOp Operator.Sub (Value.int _ _) (Value.int _ _)) _ _ _); refine flat_sub ?_) | ((show wpAny _ _ (eval (Expr.BinOp _ _ _ _) _) _ _ _); k_fold; k_dflt walk1) | ((show wpAny _ _ (eval (Expr.Compare _ _ _ _) _) _ _ _); k_fold; k_dflt walk1)) | walk1 | (dsimp only; first | (with_reducible first | ((show wpAny _ _ (call (Value.ref _) _) _ _ _); refine Stop.of ?_)) | walk1) | (leave1; walk_say "STEP leave1"; try dsimp only) | fail "no step"))
      refine Stop.go ?_
      (try k_fold); (k_dflt (refine' Ct.use (text_pen (pre := []) w _ ks7 16 _ _ hpen hcells (by omega) hks7 (by decide) (by decide) (by decide) hPC (hcP _ _ _ _ _)) ?k1 ?k2 ?k3 ?k4 ?k5 ?kK ?kd ?ku ?_; (case k1 => k_asm); (case k2 => k_asm); (case k3 => k_asm); (case k4 => k_asm); (case k5 => k_asm); (case kK => first | exact rfl | assumption); (case kd => ktr_room); (case ku => ktr_units)))
      intro r n3 h3 tk3 F3 N3 hz1
      (try k_fold)
      obtain ⟨o, to, oP3, rfl, hoK, hoL, hpen3, rfl⟩ := hz1
      have hoin : ∀ k ∈ KBw.bInts o, 0 ≤ k ∧ k < 256 := fun k hk => KBw.ints_in hk
      obtain ⟨ko, hko⟩ : ∃ ko, KBw.bInts o = ko := ⟨_, rfl⟩
      rw [hko] at hoL
      clear N1 F1 hpen
      simp only [List.nil_append] at N3
      (repeat' (first | (k_unfold; (try dsimp only)) | (k_end; kc_close) | (with_reducible first | ((show wpAny _ _ (call (Value.ref _) _) _ _ _); refine Stop.of ?_) | ((show wpAny _ _ (eval (Expr.Constant (Const.int _) _ _) _) _ _ _); refine flat_int ?_) | ((show wpAny _ _ (binaryOp Operator.Add (Value.int _ _) (Value.int _ _)) _ _ _); refine flat_add ?_) | ((show wpAny _ _ (binaryOp Operator.Sub (Value.int _ _) (Value.int _ _)) _ _ _); refine flat_sub ?_) | ((show wpAny _ _ (eval (Expr.BinOp _ _ _ _) _) _ _ _); k_fold; k_dflt walk1) | ((show wpAny _ _ (eval (Expr.Compare _ _ _ _) _) _ _ _); k_fold; k_dflt walk1)) | walk1 | (dsimp only; first | (with_reducible first | ((show wpAny _ _ (call (Value.ref _) _) _ _ _); refine Stop.of ?_)) | walk1) | (leave1; walk_say "STEP leave1"; try dsimp only) | fail "no step"))
      refine Stop.go ?_
      (try k_fold); (k_dflt (refine' Ct.use (text_pen (pre := []) w _ ks5 6 _ _ hpen3 hcells (by omega) hks5 (by decide) (by decide) (by decide) hPC (hcP _ _ _ _ _)) ?k1 ?k2 ?k3 ?k4 ?k5 ?kK ?kd ?ku ?_; (case k1 => k_asm); (case k2 => k_asm); (case k3 => k_asm); (case k4 => k_asm); (case k5 => k_asm); (case kK => first | exact rfl | assumption); (case kd => ktr_room); (case ku => ktr_units)))
      intro r n4 h4 tk4 F4 N4 hz1
      (try k_fold)
      obtain ⟨x, tx, oP4, rfl, hxK, hxL, hpen4, rfl⟩ := hz1
      obtain ⟨kw, hkw⟩ : ∃ kw, KBw.bInts x = kw := ⟨_, rfl⟩
      rw [hkw] at hxL
      clear N3 F3 hpen3
      simp only [List.nil_append] at N4
      (repeat' (first | (k_unfold; (try dsimp only)) | (k_end; kc_close) | (with_reducible first | ((show wpAny _ _ (call (Value.ref _) _) _ _ _); refine Stop.of ?_) | ((show wpAny _ _ (eval (Expr.Constant (Const.int _) _ _) _) _ _ _); refine flat_int ?_) | ((show wpAny _ _ (binaryOp Operator.Add (Value.int _ _) (Value.int _ _)) _ _ _); refine flat_add ?_) | ((show wpAny _ _ (binaryOp Operator.Sub (Value.int _ _) (Value.int _ _)) _ _ _); refine flat_sub ?_) | ((show wpAny _ _ (eval (Expr.BinOp _ _ _ _) _) _ _ _); k_fold; k_dflt walk1) | ((show wpAny _ _ (eval (Expr.Compare _ _ _ _) _) _ _ _); k_fold; k_dflt walk1)) | walk1 | (dsimp only; first | (with_reducible first | ((show wpAny _ _ (call (Value.ref _) _) _ _ _); refine Stop.of ?_)) | walk1) | (leave1; walk_say "STEP leave1"; try dsimp only) | fail "no step"))
      rename Fr s1.heap _ _ _ => F5
      rename News s1.heap _ _ _ => N5
      rename _ = Data.cell (some (Value.bytes x tx)) => dw
      rename Obj => oW
      replace N5 : News s1.heap s1.heap.objs.size _ ((P, oP4) :: (Cl, oC) :: (s1.heap.objs.size + 1 + 1 + 1 + 1 + 1, o5) :: (s1.heap.objs.size + 1 + 1 + 1 + 1, o4) :: (s1.heap.objs.size + 1 + 1 + 1, o3) :: (s1.heap.objs.size + 1 + 1, oW) :: (s1.heap.objs.size + 1, oN) :: own) := fun p hp => N5 p (List.mem_cons_of_mem _ hp)
      refine Stop.go (eval_comp (h₀ := s1.heap) (L := s1.heap.objs.size) (by with_unfolding_all rfl) (by decide) rfl (by decide) ?_)
      (repeat' (first | (k_unfold; (try dsimp only)) | (k_end; kc_close) | (with_reducible first | ((show wpAny _ _ (call (Value.ref _) _) _ _ _); refine Stop.of ?_) | ((show wpAny _ _ (eval (Expr.Constant (Const.int _) _ _) _) _ _ _); refine flat_int ?_) | ((show wpAny _ _ (binaryOp Operator.Add (Value.int _ _) (Value.int _ _)) _ _ _); refine flat_add ?_) | ((show wpAny _ _ (binaryOp Operator.Sub (Value.int _ _) (Value.int _ _)) _ _ _); refine flat_sub ?_) | ((show wpAny _ _ (eval (Expr.BinOp _ _ _ _) _) _ _ _); k_fold; k_dflt walk1) | ((show wpAny _ _ (eval (Expr.Compare _ _ _ _) _) _ _ _); k_fold; k_dflt walk1)) | walk1 | (dsimp only; first | (with_reducible first | ((show wpAny _ _ (call (Value.ref _) _) _ _ _); refine Stop.of ?_)) | walk1) | (leave1; walk_say "STEP leave1"; try dsimp only) | fail "no step"))
      rename Fr s1.heap _ _ _ => F5
      rename News s1.heap _ _ _ => N5
      let J9 : Nat → Array Value → List (Addr × Obj) → Prop := (fun j ys nw => ∃ oP2 l, nw = (P, oP2) :: (Cl, oC) :: (s1.heap.objs.size + 1 + 1 + 1 + 1 + 1, o5) :: (s1.heap.objs.size + 1 + 1 + 1 + 1, o4) :: (s1.heap.objs.size + 1 + 1 + 1, o3) :: (s1.heap.objs.size + 1 + 1, oW) :: (s1.heap.objs.size + 1, oN) :: own ∧
          PenIs Cl (100 * i + 16 + 1 + 6 + 1 + j) oP2 ∧ IntsAre ys.toList l ∧ l.length = j ∧ ∀ k ∈ l, k ∈ ks6)
      refine Stop.go (compAt_bytes J9
        rfl rfl rfl hkw (by omega) ?_ F5 N5 ⟨oP4, [], rfl, hpen4, .nil, rfl, by simp⟩ ?_ ?_)
      · rintro j ys nw ⟨_, l, _, _, hys, hl, _⟩
        rw [ints_size hys, hl]
        exact Nat.le_refl _
      · intro s₂ D C I2 j k' t6 ys k nw oC2 oI mC h tk E hz1 hj hz2 hoff2 hns hmC F7 N7 hlt hDC
        (try k_fold)
        obtain ⟨hh, rfl⟩ := hz1
        obtain ⟨oP2, l, rfl, hp5, hys, hl, hlk⟩ := hz2
        have hjl : j < kw.length := (List.getElem?_eq_some_iff.mp hj).1
        clear F5 N5 hpen4
        replace N7 := news_swap N7
        simp only [own3, List.cons_append, List.nil_append] at N7
        refine wpAny_pure ?_
        (try (k_unfold; (try dsimp only)))
        rw [if_pos rfl]
        (repeat' (first | (k_unfold; (try dsimp only)) | (k_end; kc_close) | (with_reducible first | ((show wpAny _ _ (call (Value.ref _) _) _ _ _); refine Stop.of ?_) | ((show wpAny _ _ (eval (Expr.Constant (Const.int _) _ _) _) _ _ _); refine flat_int ?_) | ((show wpAny _ _ (binaryOp Operator.Add (Value.int _ _) (Value.int _ _)) _ _ _); refine flat_add ?_) | ((show wpAny _ _ (binaryOp Operator.Sub (Value.int _ _) (Value.int _ _)) _ _ _); refine flat_sub ?_) | ((show wpAny _ _ (eval (Expr.BinOp _ _ _ _) _) _ _ _); k_fold; k_dflt walk1) | ((show wpAny _ _ (eval (Expr.Compare _ _ _ _) _) _ _ _); k_fold; k_dflt walk1)) | walk1 | (dsimp only; first | (with_reducible first | ((show wpAny _ _ (call (Value.ref _) _) _ _ _); refine Stop.of ?_)) | walk1) | (leave1; walk_say "STEP leave1"; try dsimp only) | fail "no step"))
        rename News s1.heap _ _ _ => N7
        rename Fr s1.heap _ _ _ => F7
        have hoP := hoff2 (P, oP2) (List.mem_cons_self ..)
        refine Stop.go (Ct.use (pick_bytes_pen (pre := [(D, listOf ys k), (C, oC2), (I2, oI)]) w _ ks6 _ hp5 hcells (by omega) hks6 (by decide) (by decide) hPC ?_) (by k_asm) F7 (by k_asm) (by simpa using N7) (by k_asm) rfl (by ktr_room) (by ktr_units) ?_)
        · intro p hp
          rcases List.mem_append.mp hp with hp | hp
          · simp only [List.mem_cons, List.not_mem_nil, or_false] at hp
            rcases hp with rfl | rfl | rfl
            · exact Ne.symm hoP.1
            · exact Ne.symm hoP.2.1
            · exact Ne.symm hoP.2.2
          · exact hcP _ _ _ _ _ p hp
        intro r n8 h8 tk8 F8 N8 hz1
        (try k_fold)
        obtain ⟨d, td, oP3, rfl, hdk, hp6, rfl⟩ := hz1
        refine CompEnd.mk F8 (news_swap (by simpa using N8)) (off_swap (R := fun a => a ≠ D ∧ a ≠ C ∧ a ≠ I2) (pre := []) hoff2) ⟨oP3, l ++ [d], rfl, hp6, ints_snoc hys, by simp [hl], ?_⟩
        intro k hk
        rcases List.mem_append.mp hk with hk | hk
        · exact hlk k hk
        · rw [List.mem_singleton.mp hk]; exact hdk
      · intro s₂ D C h tk ys k nw mC hz1 hCL hC0 hz2 hD hC hlt F7 N7 hns
        (try k_fold)
        obtain ⟨hh, rfl⟩ := hz1
        obtain ⟨oP5, kg, rfl, hpen5, hys, hgl, hgk⟩ := hz2
        refine compPost_eval hCL hC0 hC F7 N7 hns fun h5 F8 N8 => ?_
        clear F7 N7 F5 N5 hpen4
        have hsz : ys.size ≤ 6 := by rw [ints_size hys]; omega
        have hgin : ∀ k ∈ kg, 0 ≤ k ∧ k < 256 := fun k hk => KBw.ints_in (b := #[97, 98, 99, 88, 121, 122]) (by rw [hks6]; exact hgk k hk)
        replace N8 := news_last N8
        have qD : @LT.lt Nat _ (s1.heap.objs.size + 1 + 1 + 1 + 1 + 1) D := hlt (s1.heap.objs.size + 1 + 1 + 1 + 1 + 1, o5) (.tail _ (.tail _ (.head _)))
        have hgm : KBw.bInts (byteArr kg) = kg := KBa.ints_make hgin
        (repeat' (first | (k_unfold; (try dsimp only)) | (k_end; kc_close) | (with_reducible first | ((show wpAny _ _ (call (Value.ref _) _) _ _ _); refine Stop.of ?_) | ((show wpAny _ _ (eval (Expr.Constant (Const.int _) _ _) _) _ _ _); refine flat_int ?_) | ((show wpAny _ _ (binaryOp Operator.Add (Value.int _ _) (Value.int _ _)) _ _ _); refine flat_add ?_) | ((show wpAny _ _ (binaryOp Operator.Sub (Value.int _ _) (Value.int _ _)) _ _ _); refine flat_sub ?_) | ((show wpAny _ _ (eval (Expr.BinOp _ _ _ _) _) _ _ _); k_fold; k_dflt walk1) | ((show wpAny _ _ (eval (Expr.Compare _ _ _ _) _) _ _ _); k_fold; k_dflt walk1)) | walk1 | (dsimp only; first | (with_reducible first | ((show wpAny _ _ (call (Value.ref _) _) _ _ _); refine Stop.of ?_)) | walk1) | (leave1; walk_say "STEP leave1"; try dsimp only) | fail "no step"))
        rename Fr s1.heap _ _ _ => F9
        rename News s1.heap _ _ _ => N9
        rename _ = Data.cell (some (Value.bytes (byteArr kg) _)) => dg
        rename Obj => oG
        rename @LT.lt Nat _ D _ ∧ _ => lM
        refine Stop.go (Ct.use (pick_list_pen (km := 0) (pre := [(_, _), (D, listOf ys k)]) w _ hpen5 hcells (by omega) (by simp) (by simp) (List.mem_cons_self ..) hPC ?_) (by k_asm) F9 (by k_asm) N9 (by k_asm) rfl (by ktr_room) (by ktr_units) ?_)
        · intro p hp
          rcases List.mem_append.mp hp with hp | hp
          · simp only [List.mem_cons, List.not_mem_nil, or_false] at hp
            rcases hp with rfl | rfl
            · exact Nat.ne_of_gt lM.2.1
            · exact hD (P, oP5) (List.mem_cons_self ..) |>.symm
          · exact hcP _ _ _ _ _ p hp
        intro v1 n10 h10 tk10 F10 N10 hz1
        (try k_fold)
        obtain ⟨oP6, hv1, hpen6, rfl⟩ := hz1
        obtain ⟨cb, hv1⟩ := opt_of_pick hv1
        replace N10 : News s1.heap s1.heap.objs.size _ ((P, oP6) :: (Cl, oC) :: (s1.heap.objs.size + 1 + 1 + 1 + 1 + 1, o5) :: (s1.heap.objs.size + 1 + 1 + 1 + 1, o4) :: (s1.heap.objs.size + 1 + 1 + 1, oG) :: (s1.heap.objs.size + 1 + 1, oW) :: (s1.heap.objs.size + 1, oN) :: own) := fun p hp => N10 p (.tail _ (.tail _ hp))
        clear F9 N9 hpen5 lM
        (repeat' (first | (k_unfold; (try dsimp only)) | (k_end; kc_close) | (with_reducible first | ((show wpAny _ _ (call (Value.ref _) _) _ _ _); refine Stop.of ?_) | ((show wpAny _ _ (eval (Expr.Constant (Const.int _) _ _) _) _ _ _); refine flat_int ?_) | ((show wpAny _ _ (binaryOp Operator.Add (Value.int _ _) (Value.int _ _)) _ _ _); refine flat_add ?_) | ((show wpAny _ _ (binaryOp Operator.Sub (Value.int _ _) (Value.int _ _)) _ _ _); refine flat_sub ?_) | ((show wpAny _ _ (eval (Expr.BinOp _ _ _ _) _) _ _ _); k_fold; k_dflt walk1) | ((show wpAny _ _ (eval (Expr.Compare _ _ _ _) _) _ _ _); k_fold; k_dflt walk1)) | walk1 | (dsimp only; first | (with_reducible first | ((show wpAny _ _ (call (Value.ref _) _) _ _ _); refine Stop.of ?_)) | walk1) | (leave1; walk_say "STEP leave1"; try dsimp only) | fail "no step"))
        rename Fr s1.heap _ _ _ => F11
        rename News s1.heap _ _ _ => N11
        rename @LT.lt Nat _ P _ ∧ _ => lM
        refine Stop.go (Ct.use (pick_list_pen (km := 0) (pre := [(_, _)]) w _ hpen6 hcells (by omega) (by simp) (by simp) (List.mem_cons_self ..) hPC ?_) (by k_asm) F11 (by k_asm) N11 (by k_asm) rfl (by ktr_room) (by ktr_units) ?_)
        · intro p hp
          rcases List.mem_append.mp hp with hp | hp
          · rw [List.mem_singleton.mp hp]
            exact Nat.ne_of_gt lM.1
          · exact hcP _ _ _ _ _ p hp
        intro v2 n12 h12 tk12 F12 N12 hz1
        (try k_fold)
        obtain ⟨oP7, hv2, hpen7, rfl⟩ := hz1
        obtain ⟨ca, hv2⟩ := opt_of_pick hv2
        replace N12 : News s1.heap s1.heap.objs.size _ ((P, oP7) :: (Cl, oC) :: (s1.heap.objs.size + 1 + 1 + 1 + 1 + 1, o5) :: (s1.heap.objs.size + 1 + 1 + 1 + 1, o4) :: (s1.heap.objs.size + 1 + 1 + 1, oG) :: (s1.heap.objs.size + 1 + 1, oW) :: (s1.heap.objs.size + 1, oN) :: own) := fun p hp => N12 p (.tail _ hp)
        clear F11 N11 hpen6 lM
        (repeat' (first | (k_unfold; (try dsimp only)) | (k_end; kc_close) | (with_reducible first | ((show wpAny _ _ (call (Value.ref _) _) _ _ _); refine Stop.of ?_) | ((show wpAny _ _ (eval (Expr.Constant (Const.int _) _ _) _) _ _ _); refine flat_int ?_) | ((show wpAny _ _ (binaryOp Operator.Add (Value.int _ _) (Value.int _ _)) _ _ _); refine flat_add ?_) | ((show wpAny _ _ (binaryOp Operator.Sub (Value.int _ _) (Value.int _ _)) _ _ _); refine flat_sub ?_) | ((show wpAny _ _ (eval (Expr.BinOp _ _ _ _) _) _ _ _); k_fold; k_dflt walk1) | ((show wpAny _ _ (eval (Expr.Compare _ _ _ _) _) _ _ _); k_fold; k_dflt walk1)) | walk1 | (dsimp only; first | (with_reducible first | ((show wpAny _ _ (call (Value.ref _) _) _ _ _); refine Stop.of ?_)) | walk1) | (leave1; walk_say "STEP leave1"; try dsimp only) | fail "no step"))
        rename Fr s1.heap _ _ _ => F13
        rename News s1.heap _ _ _ => N13
        rename _ = Data.cell (some v2) => dA
        rename _ = Data.cell (some v1) => dB
        rename_i Dt hq1 lDt hq2 hq3 oB hq4 oA
        replace N13 : News s1.heap s1.heap.objs.size _ ((P, oP7) :: (Cl, oC) :: (s1.heap.objs.size + 1 + 1 + 1 + 1 + 1, oA) :: (s1.heap.objs.size + 1 + 1 + 1 + 1, oB) :: (s1.heap.objs.size + 1 + 1 + 1, oG) :: (s1.heap.objs.size + 1 + 1, oW) :: (s1.heap.objs.size + 1, oN) :: own) := fun p hp => N13 p (.tail _ hp)
        clear lDt
        refine Stop.go ?_
        (try k_fold); (k_dflt (refine' Ct.use (ends_ct w o v1 v2 ko cb ca to _ hko hv1 hv2 (by omega)) ?k1 ?k2 ?k3 ?k4 ?k5 ?kK ?kd ?ku ?_; (case k1 => k_asm); (case k2 => k_asm); (case k3 => k_asm); (case k4 => k_asm); (case k5 => k_asm); (case kK => first | exact rfl | assumption); (case kd => ktr_room); (case ku => ktr_units)))
        intro r n14 h14 tk14 F14 N14 hz1
        (try k_fold)
        obtain ⟨Te, u1, u2, rfl, rfl, hTe⟩ := hz1
        clear F13 N13
        (repeat' (first | (k_unfold; (try dsimp only)) | (k_end; kc_close) | (with_reducible first | ((show wpAny _ _ (call (Value.ref _) _) _ _ _); refine Stop.of ?_) | ((show wpAny _ _ (eval (Expr.Constant (Const.int _) _ _) _) _ _ _); refine flat_int ?_) | ((show wpAny _ _ (binaryOp Operator.Add (Value.int _ _) (Value.int _ _)) _ _ _); refine flat_add ?_) | ((show wpAny _ _ (binaryOp Operator.Sub (Value.int _ _) (Value.int _ _)) _ _ _); refine flat_sub ?_) | ((show wpAny _ _ (eval (Expr.BinOp _ _ _ _) _) _ _ _); k_fold; k_dflt walk1) | ((show wpAny _ _ (eval (Expr.Compare _ _ _ _) _) _ _ _); k_fold; k_dflt walk1)) | walk1 | (dsimp only; first | (with_reducible first | ((show wpAny _ _ (call (Value.ref _) _) _ _ _); refine Stop.of ?_)) | walk1) | (leave1; walk_say "STEP leave1"; try dsimp only) | fail "no step"))
        refine Stop.go ?_
        (try k_fold); (k_dflt (refine' Ct.use (begin_ct w o v2 ko ca to _ hko hv2 (by omega)) ?k1 ?k2 ?k3 ?k4 ?k5 ?kK ?kd ?ku ?_; (case k1 => k_asm); (case k2 => k_asm); (case k3 => k_asm); (case k4 => k_asm); (case k5 => k_asm); (case kK => first | exact rfl | assumption); (case kd => ktr_room); (case ku => ktr_units)))
        intro r n15 h15 tk15 F15 N15 hz1
        (try k_fold)
        obtain ⟨rfl, u3, rfl⟩ := hz1
        (repeat' (first | (k_unfold; (try dsimp only)) | (k_end; kc_close) | (with_reducible first | ((show wpAny _ _ (call (Value.ref _) _) _ _ _); refine Stop.of ?_) | ((show wpAny _ _ (eval (Expr.Constant (Const.int _) _ _) _) _ _ _); refine flat_int ?_) | ((show wpAny _ _ (binaryOp Operator.Add (Value.int _ _) (Value.int _ _)) _ _ _); refine flat_add ?_) | ((show wpAny _ _ (binaryOp Operator.Sub (Value.int _ _) (Value.int _ _)) _ _ _); refine flat_sub ?_) | ((show wpAny _ _ (eval (Expr.BinOp _ _ _ _) _) _ _ _); k_fold; k_dflt walk1) | ((show wpAny _ _ (eval (Expr.Compare _ _ _ _) _) _ _ _); k_fold; k_dflt walk1)) | walk1 | (dsimp only; first | (with_reducible first | ((show wpAny _ _ (call (Value.ref _) _) _ _ _); refine Stop.of ?_)) | walk1) | (leave1; walk_say "STEP leave1"; try dsimp only) | fail "no step"))
        refine Stop.go ?_
        (try k_fold); (k_dflt (refine' Ct.use (end_ct w o v1 ko cb to _ hko hv1 (by omega)) ?k1 ?k2 ?k3 ?k4 ?k5 ?kK ?kd ?ku ?_; (case k1 => k_asm); (case k2 => k_asm); (case k3 => k_asm); (case k4 => k_asm); (case k5 => k_asm); (case kK => first | exact rfl | assumption); (case kd => ktr_room); (case ku => ktr_units)))
        intro r n16 h16 tk16 F16 N16 hz1
        (try k_fold)
        obtain ⟨rfl, u4, rfl⟩ := hz1
        (repeat' (first | (k_unfold; (try dsimp only)) | (k_end; kc_close) | (with_reducible first | ((show wpAny _ _ (call (Value.ref _) _) _ _ _); refine Stop.of ?_) | ((show wpAny _ _ (eval (Expr.Constant (Const.int _) _ _) _) _ _ _); refine flat_int ?_) | ((show wpAny _ _ (binaryOp Operator.Add (Value.int _ _) (Value.int _ _)) _ _ _); refine flat_add ?_) | ((show wpAny _ _ (binaryOp Operator.Sub (Value.int _ _) (Value.int _ _)) _ _ _); refine flat_sub ?_) | ((show wpAny _ _ (eval (Expr.BinOp _ _ _ _) _) _ _ _); k_fold; k_dflt walk1) | ((show wpAny _ _ (eval (Expr.Compare _ _ _ _) _) _ _ _); k_fold; k_dflt walk1)) | walk1 | (dsimp only; first | (with_reducible first | ((show wpAny _ _ (call (Value.ref _) _) _ _ _); refine Stop.of ?_)) | walk1) | (leave1; walk_say "STEP leave1"; try dsimp only) | fail "no step"))
        rename Fr s1.heap _ _ _ => F17
        rename News s1.heap _ _ _ => N17
        replace N17 : News s1.heap s1.heap.objs.size _ ((P, oP7) :: (Cl, oC) :: (s1.heap.objs.size + 1 + 1 + 1 + 1 + 1, oA) :: (s1.heap.objs.size + 1 + 1 + 1 + 1, oB) :: (s1.heap.objs.size + 1 + 1 + 1, oG) :: (s1.heap.objs.size + 1 + 1, oW) :: (s1.heap.objs.size + 1, oN) :: own) := fun p hp => N17 p (.tail _ (.tail _ (.tail _ hp)))
        clear hTe
        refine Stop.go ?_
        (try k_fold); (k_dflt (refine' Ct.use (due_ct w o x (byteArr kg) ko kw kg (beginOf ko ca) (endOf ko cb) to tx _ _ _ _ hko hkw hgm (by omega) (by omega) hgl.symm) ?k1 ?k2 ?k3 ?k4 ?k5 ?kK ?kd ?ku ?_; (case k1 => k_asm); (case k2 => k_asm); (case k3 => k_asm); (case k4 => k_asm); (case k5 => k_asm); (case kK => first | exact rfl | assumption); (case kd => ktr_room); (case ku => ktr_units)))
        intro r n18 h18 tk18 F18 N18 hz1
        (try k_fold)
        obtain ⟨rfl, y, ty, rfl, hy⟩ := hz1
        clear F17 N17
        (repeat' (first | (k_unfold; (try dsimp only)) | (k_end; kc_close) | (with_reducible first | ((show wpAny _ _ (call (Value.ref _) _) _ _ _); refine Stop.of ?_) | ((show wpAny _ _ (eval (Expr.Constant (Const.int _) _ _) _) _ _ _); refine flat_int ?_) | ((show wpAny _ _ (binaryOp Operator.Add (Value.int _ _) (Value.int _ _)) _ _ _); refine flat_add ?_) | ((show wpAny _ _ (binaryOp Operator.Sub (Value.int _ _) (Value.int _ _)) _ _ _); refine flat_sub ?_) | ((show wpAny _ _ (eval (Expr.BinOp _ _ _ _) _) _ _ _); k_fold; k_dflt walk1) | ((show wpAny _ _ (eval (Expr.Compare _ _ _ _) _) _ _ _); k_fold; k_dflt walk1)) | walk1 | (dsimp only; first | (with_reducible first | ((show wpAny _ _ (call (Value.ref _) _) _ _ _); refine Stop.of ?_)) | walk1) | (leave1; walk_say "STEP leave1"; try dsimp only) | fail "no step"))
        refine Stop.go ?_
        (try k_fold); (k_dflt (refine' Ct.use (converted_ct w o x (byteArr kg) v1 v2 ko kw kg cb ca to tx _ _ hko hkw hgm hv1 hv2 (by omega) (by omega) hgl.symm) ?k1 ?k2 ?k3 ?k4 ?k5 ?kK ?kd ?ku ?_; (case k1 => k_asm); (case k2 => k_asm); (case k3 => k_asm); (case k4 => k_asm); (case k5 => k_asm); (case kK => first | exact rfl | assumption); (case kd => ktr_room); (case ku => ktr_units)))
        intro r n19 h19 tk19 F19 N19 hz1
        (try k_fold)
        obtain ⟨rfl, b19, t19, rfl, hb19⟩ := hz1
        (repeat' (first | (k_unfold; (try dsimp only)) | (with_reducible first | ((show wpAny _ _ (call (Value.ref _) _) _ _ _); refine Stop.of ?_) | ((show wpAny _ _ (eval (Expr.Constant (Const.int _) _ _) _) _ _ _); refine flat_int ?_) | ((show wpAny _ _ (binaryOp Operator.Add (Value.int _ _) (Value.int _ _)) _ _ _); refine flat_add ?_) | ((show wpAny _ _ (binaryOp Operator.Sub (Value.int _ _) (Value.int _ _)) _ _ _); refine flat_sub ?_) | ((show wpAny _ _ (eval (Expr.BinOp _ _ _ _) _) _ _ _); k_fold; k_dflt walk1) | ((show wpAny _ _ (eval (Expr.Compare _ _ _ _) _) _ _ _); k_fold; k_dflt walk1)) | walk1 | (dsimp only; first | (with_reducible first | ((show wpAny _ _ (call (Value.ref _) _) _ _ _); refine Stop.of ?_)) | walk1) | (leave1; walk_say "STEP leave1"; try dsimp only) | fail "no step"))
        · rename _ = true => hb
          rw [ne_ints hb19 hy] at hb
          cases hb
        rename Fr s1.heap _ _ _ => F20
        rename News s1.heap _ _ _ => N20
        refine Stop.go (assign_comp (h₀ := s1.heap) (L := s1.heap.objs.size) (by with_unfolding_all rfl) (by with_unfolding_all rfl) (by decide) rfl (by decide) ?_)
        (repeat' (first | (k_unfold; (try dsimp only)) | (k_end; kc_close) | (with_reducible first | ((show wpAny _ _ (call (Value.ref _) _) _ _ _); refine Stop.of ?_) | ((show wpAny _ _ (eval (Expr.Constant (Const.int _) _ _) _) _ _ _); refine flat_int ?_) | ((show wpAny _ _ (binaryOp Operator.Add (Value.int _ _) (Value.int _ _)) _ _ _); refine flat_add ?_) | ((show wpAny _ _ (binaryOp Operator.Sub (Value.int _ _) (Value.int _ _)) _ _ _); refine flat_sub ?_) | ((show wpAny _ _ (eval (Expr.BinOp _ _ _ _) _) _ _ _); k_fold; k_dflt walk1) | ((show wpAny _ _ (eval (Expr.Compare _ _ _ _) _) _ _ _); k_fold; k_dflt walk1)) | walk1 | (dsimp only; first | (with_reducible first | ((show wpAny _ _ (call (Value.ref _) _) _ _ _); refine Stop.of ?_)) | walk1) | (leave1; walk_say "STEP leave1"; try dsimp only) | fail "no step"))
        rename Fr s1.heap _ _ _ => F21
        rename News s1.heap _ _ _ => N21
        rename IsRange _ _ _ _ _ _ _ _ => hrg
        let J9 : Nat → Array Value → List (Addr × Obj) → Prop := (fun j ys nw => ∃ ts, nw = ts ++ ((P, oP7) :: (Cl, oC) :: (s1.heap.objs.size + 1 + 1 + 1 + 1 + 1, oA) :: (s1.heap.objs.size + 1 + 1 + 1 + 1, oB) :: (s1.heap.objs.size + 1 + 1 + 1, oG) :: (s1.heap.objs.size + 1 + 1, oW) :: (s1.heap.objs.size + 1, oN) :: own) ∧ RowsUp5 kw kg v1 v2 j ys ts ∧ ∀ p ∈ ts, P < p.1)
        refine Stop.go (compAt_range kw.length J9
          rfl rfl rfl hrg (small_one (by decide) (by decide) (by omega) (by omega)) (range1_size _) (by omega) ?_ F21 N21 ⟨[], rfl, ⟨rfl, fun _ h => absurd h (Nat.not_lt_zero _)⟩, fun p hp => nomatch hp⟩ ?_ ?_)
        · rintro j ys nw ⟨ts, _, h, _⟩
          exact Nat.le_of_eq h.1
        · intro s₂ D C I2 j t6 ys k nw oC2 oI mC h tk E hz1 hj hz2 hoff2 hns hmC F22 N22 hlt hDC
          (try k_fold)
          obtain ⟨hh, rfl⟩ := hz1
          obtain ⟨ts, rfl, hys, hts⟩ := hz2
          clear F21 N21
          have hj0 : (0 + (j : Int) * 1) = (j : Int) := by omega
          rw [hj0] at hmC
          replace N22 := rows5_in N22
          refine wpAny_pure ?_
          (try (k_unfold; (try dsimp only)))
          rw [if_pos rfl]
          (repeat' (first | (k_unfold; (try dsimp only)) | (k_end; kc_close) | (with_reducible first | ((show wpAny _ _ (call (Value.ref _) _) _ _ _); refine Stop.of ?_) | ((show wpAny _ _ (eval (Expr.Constant (Const.int _) _ _) _) _ _ _); refine flat_int ?_) | ((show wpAny _ _ (binaryOp Operator.Add (Value.int _ _) (Value.int _ _)) _ _ _); refine flat_add ?_) | ((show wpAny _ _ (binaryOp Operator.Sub (Value.int _ _) (Value.int _ _)) _ _ _); refine flat_sub ?_) | ((show wpAny _ _ (eval (Expr.BinOp _ _ _ _) _) _ _ _); k_fold; k_dflt walk1) | ((show wpAny _ _ (eval (Expr.Compare _ _ _ _) _) _ _ _); k_fold; k_dflt walk1)) | walk1 | (dsimp only; first | (with_reducible first | ((show wpAny _ _ (call (Value.ref _) _) _ _ _); refine Stop.of ?_)) | walk1) | (leave1; walk_say "STEP leave1"; try dsimp only) | fail "no step"))
          rename News s1.heap _ _ _ => N23
          rename Fr s1.heap _ _ _ => F23
          rename KBw.bInts (KBy.picked (byteArr kg) _ _) = _ => hs2
          rename KBw.bInts (KBy.picked x _ _) = _ => hs1
          rename D < _ ∧ _ => hT
          have hjg : j < kg.length := by omega
          rw [slice_of_one hj] at hs1
          rw [slice_of_one hjg] at hs2
          have hki : kw[j]? = some kw[j] := List.getElem?_eq_getElem hj
          have hgi : kg.getD j 0 = kg[j] := by rw [List.getD_eq_getElem?_getD, List.getElem?_eq_getElem hjg]; rfl
          refine CompEnd.mk F23 (rows5_out N23) ?_ ⟨_, rfl, hys.snoc (by rw [hki]; exact ⟨⟨_, rfl⟩, _, _, rfl, hs1⟩) (by rw [hgi]; exact hs2), fun p hp => (List.mem_cons.mp hp).elim (fun e => e ▸ hT.2.2.2.1) (hts p)⟩
          intro p hp
          rcases List.mem_cons.mp hp with rfl | hp
          · exact ⟨Nat.ne_of_gt hT.1, Nat.ne_of_gt hT.2.1, Nat.ne_of_gt hT.2.2.1⟩
          · exact hoff2 p hp
        · intro s₂ D C h tk ys k nw mC hz1 hCL hC0 hz2 hD hC hlt F22 N22 hns
          (try k_fold)
          obtain ⟨hh, rfl⟩ := hz1
          obtain ⟨ts, rfl, hys, hts⟩ := hz2
          refine' compPost_assign2 (L := s1.heap.objs.size) ?kL ?ky ?kp ?k1 ?k2 ?k3 ?kF ?kN ?kH ?_; (case kL => rfl); (case ky => rfl); (case kp => rfl); (case k1 => exact hCL); (case k2 => exact hC0); (case kF => exact F22); (case kN => exact N22); (case k3 => exact hC); (case kH => exact hns)
          intro h5 tk5 F23 N23
          clear F22 N22 F21 N21 hD hC hns
          replace N23 := rows5_done N23
          have hPD : @LT.lt Nat _ P D := hlt (P, oP7) (List.mem_cons_self ..)
          (repeat' (first | (k_unfold; (try dsimp only)) | (k_end; kc_close) | (with_reducible first | ((show wpAny _ _ (call (Value.ref _) _) _ _ _); refine Stop.of ?_) | ((show wpAny _ _ (eval (Expr.Constant (Const.int _) _ _) _) _ _ _); refine flat_int ?_) | ((show wpAny _ _ (binaryOp Operator.Add (Value.int _ _) (Value.int _ _)) _ _ _); refine flat_add ?_) | ((show wpAny _ _ (binaryOp Operator.Sub (Value.int _ _) (Value.int _ _)) _ _ _); refine flat_sub ?_) | ((show wpAny _ _ (eval (Expr.BinOp _ _ _ _) _) _ _ _); k_fold; k_dflt walk1) | ((show wpAny _ _ (eval (Expr.Compare _ _ _ _) _) _ _ _); k_fold; k_dflt walk1)) | walk1 | (dsimp only; first | (with_reducible first | ((show wpAny _ _ (call (Value.ref _) _) _ _ _); refine Stop.of ?_)) | walk1) | (leave1; walk_say "STEP leave1"; try dsimp only) | fail "no step"))
          rename News s1.heap _ _ _ => N24
          rename Fr s1.heap _ _ _ => F24
          have hysz : ys.size = kw.length := hys.1
          refine Stop.go (Ct.use (replaced_ct w o ko kg (kw.map some) cb ca v1 v2 D ys k to _ hko (by omega) hv1 hv2 (show (D, listOf ys k) ∈ _ by simp) (by simp [hysz]) (by simp; omega) (fun i c hc => ?_)) (by k_asm) F24 (by k_asm) N24 (by k_asm) rfl (by ktr_room) (by ktr_units) ?_)
          · obtain ⟨T', a1, a2, a3, a4, r1, r2, r3, r4⟩ := hys.rows i c hc
            exact ⟨T', a1, a2, a3, a4, r1, by simp [r2], r3, r4⟩
          intro r n25 h25 tk25 F25 N25 hz1
          (try k_fold)
          obtain ⟨rfl, y25, t25, rfl, hy25⟩ := hz1
          rw [setAll_conv] at hy25
          clear F24 N24
          (repeat' (first | (k_unfold; (try dsimp only)) | (with_reducible first | ((show wpAny _ _ (call (Value.ref _) _) _ _ _); refine Stop.of ?_) | ((show wpAny _ _ (eval (Expr.Constant (Const.int _) _ _) _) _ _ _); refine flat_int ?_) | ((show wpAny _ _ (binaryOp Operator.Add (Value.int _ _) (Value.int _ _)) _ _ _); refine flat_add ?_) | ((show wpAny _ _ (binaryOp Operator.Sub (Value.int _ _) (Value.int _ _)) _ _ _); refine flat_sub ?_) | ((show wpAny _ _ (eval (Expr.BinOp _ _ _ _) _) _ _ _); k_fold; k_dflt walk1) | ((show wpAny _ _ (eval (Expr.Compare _ _ _ _) _) _ _ _); k_fold; k_dflt walk1)) | walk1 | (dsimp only; first | (with_reducible first | ((show wpAny _ _ (call (Value.ref _) _) _ _ _); refine Stop.of ?_)) | walk1) | (leave1; walk_say "STEP leave1"; try dsimp only) | fail "no step"))
          · rename _ = true => hb
            rw [ne_ints hy25 hy] at hb
            cases hb
          rename News s1.heap _ _ _ => N26
          rename Fr s1.heap _ _ _ => F26
          replace N26 : News s1.heap s1.heap.objs.size _ ((P, oP7) :: (Cl, oC) :: (s1.heap.objs.size + 1 + 1 + 1 + 1 + 1, oA) :: (s1.heap.objs.size + 1 + 1 + 1 + 1, oB) :: (s1.heap.objs.size + 1 + 1 + 1, oG) :: (s1.heap.objs.size + 1 + 1, oW) :: (s1.heap.objs.size + 1, oN) :: own) := fun p hp => N26 p (by
            simp only [List.mem_cons, List.mem_append] at hp ⊢
            rcases hp with hp | hp | hp | hp | hp | hp | hp | hp <;> simp [hp])
          refine Stop.go ?_
          (try k_fold); (k_dflt (refine' Ct.use (counts_ct w o x ko kw cb ca v1 v2 to tx _ _ _ hko hkw (by omega) (by omega) hv1 hv2) ?k1 ?k2 ?k3 ?k4 ?k5 ?kK ?kd ?ku ?_; (case k1 => k_asm); (case k2 => k_asm); (case k3 => k_asm); (case k4 => k_asm); (case k5 => k_asm); (case kK => first | exact rfl | assumption); (case kd => ktr_room); (case ku => ktr_units)))
          intro r n27 h27 tk27 F27 N27 hz1
          (try k_fold)
          obtain ⟨rfl, rfl⟩ := hz1
          clear F26 N26
          (repeat' (first | (k_unfold; (try dsimp only)) | (k_end; kc_close) | (with_reducible first | ((show wpAny _ _ (call (Value.ref _) _) _ _ _); refine Stop.of ?_) | ((show wpAny _ _ (eval (Expr.Constant (Const.int _) _ _) _) _ _ _); refine flat_int ?_) | ((show wpAny _ _ (binaryOp Operator.Add (Value.int _ _) (Value.int _ _)) _ _ _); refine flat_add ?_) | ((show wpAny _ _ (binaryOp Operator.Sub (Value.int _ _) (Value.int _ _)) _ _ _); refine flat_sub ?_) | ((show wpAny _ _ (eval (Expr.BinOp _ _ _ _) _) _ _ _); k_fold; k_dflt walk1) | ((show wpAny _ _ (eval (Expr.Compare _ _ _ _) _) _ _ _); k_fold; k_dflt walk1)) | walk1 | (dsimp only; first | (with_reducible first | ((show wpAny _ _ (call (Value.ref _) _) _ _ _); refine Stop.of ?_)) | walk1) | (leave1; walk_say "STEP leave1"; try dsimp only) | fail "no step"))
          refine Stop.go ?_
          (try k_fold); (k_dflt (refine' Ct.use (draw_pen (pre := []) w _ _ hpen7 hcells (by omega) (by omega) (by omega) hPC (hcP _ _ _ _ _)) ?k1 ?k2 ?k3 ?k4 ?k5 ?kK ?kd ?ku ?_; (case k1 => k_asm); (case k2 => k_asm); (case k3 => k_asm); (case k4 => k_asm); (case k5 => k_asm); (case kK => first | exact rfl | assumption); (case kd => ktr_room); (case ku => ktr_units)))
          intro r n28 h28 tk28 F28 N28 hz1
          (try k_fold)
          obtain ⟨d, td, oP8, rfl, hd0, hd1, hpen8, rfl⟩ := hz1
          obtain ⟨pl, rfl⟩ := Int.eq_ofNat_of_zero_le hd0
          simp only [List.nil_append] at N28
          clear F27 N27 hpen7
          (repeat' (first | (k_unfold; (try dsimp only)) | (k_end; kc_close) | (with_reducible first | ((show wpAny _ _ (call (Value.ref _) _) _ _ _); refine Stop.of ?_) | ((show wpAny _ _ (eval (Expr.Constant (Const.int _) _ _) _) _ _ _); refine flat_int ?_) | ((show wpAny _ _ (binaryOp Operator.Add (Value.int _ _) (Value.int _ _)) _ _ _); refine flat_add ?_) | ((show wpAny _ _ (binaryOp Operator.Sub (Value.int _ _) (Value.int _ _)) _ _ _); refine flat_sub ?_) | ((show wpAny _ _ (eval (Expr.BinOp _ _ _ _) _) _ _ _); k_fold; k_dflt walk1) | ((show wpAny _ _ (eval (Expr.Compare _ _ _ _) _) _ _ _); k_fold; k_dflt walk1)) | walk1 | (dsimp only; first | (with_reducible first | ((show wpAny _ _ (call (Value.ref _) _) _ _ _); refine Stop.of ?_)) | walk1) | (leave1; walk_say "STEP leave1"; try dsimp only) | fail "no step"))
          rename News s1.heap _ _ _ => N28
          rename Fr s1.heap _ _ _ => F28
          refine Stop.go (assign_comp (h₀ := s1.heap) (L := s1.heap.objs.size) (by with_unfolding_all rfl) (by with_unfolding_all rfl) (by decide) rfl (by decide) ?_)
          (repeat' (first | (k_unfold; (try dsimp only)) | (k_end; kc_close) | (with_reducible first | ((show wpAny _ _ (call (Value.ref _) _) _ _ _); refine Stop.of ?_) | ((show wpAny _ _ (eval (Expr.Constant (Const.int _) _ _) _) _ _ _); refine flat_int ?_) | ((show wpAny _ _ (binaryOp Operator.Add (Value.int _ _) (Value.int _ _)) _ _ _); refine flat_add ?_) | ((show wpAny _ _ (binaryOp Operator.Sub (Value.int _ _) (Value.int _ _)) _ _ _); refine flat_sub ?_) | ((show wpAny _ _ (eval (Expr.BinOp _ _ _ _) _) _ _ _); k_fold; k_dflt walk1) | ((show wpAny _ _ (eval (Expr.Compare _ _ _ _) _) _ _ _); k_fold; k_dflt walk1)) | walk1 | (dsimp only; first | (with_reducible first | ((show wpAny _ _ (call (Value.ref _) _) _ _ _); refine Stop.of ?_)) | walk1) | (leave1; walk_say "STEP leave1"; try dsimp only) | fail "no step"))
          rename News s1.heap _ _ _ => N29
          rename Fr s1.heap _ _ _ => F29
          rename KBw.bInts (KBy.picked o (some _) none) = _ => hpb
          rename KBw.bInts (KBy.picked o none (some _)) = _ => hpa
          rename_i ta kq1 hq5 tb kq2 Tp hq6 lTp
          generalize KBy.picked o none (some (pl : Int)) = pa at hpa N29
          generalize KBy.picked o (some (pl : Int)) none = pb at hpb N29
          obtain ⟨ka, hka⟩ : ∃ ka, ka = List.take (min pl ko.length) ko := ⟨_, rfl⟩
          obtain ⟨kb, hkb⟩ : ∃ kb, kb = List.take (ko.length - min pl ko.length) (List.drop (min pl ko.length) ko) := ⟨_, rfl⟩
          have hab : ka ++ kb = ko := by
            rw [hka, hkb, List.take_of_length_le (l := List.drop _ _) (by simp)]
            exact List.take_append_drop _ _
          rw [← hka] at hpa
          rw [← hkb] at hpb
          have habl : ka.length + kb.length = ko.length := by rw [← hab]; simp
          let J9 : Nat → Array Value → List (Addr × Obj) → Prop := (fun j ys nw => nw = (Tp, tup2 (.bytes pa ta) (.bytes pb tb)) :: (P, oP8) :: (Cl, oC) :: (s1.heap.objs.size + 1 + 1 + 1 + 1 + 1, oA) :: (s1.heap.objs.size + 1 + 1 + 1 + 1, oB) :: (s1.heap.objs.size + 1 + 1 + 1, oG) :: (s1.heap.objs.size + 1 + 1, oW) :: (s1.heap.objs.size + 1, oN) :: own ∧ PartsUp (conv1 kw kg) [ka, kb] j ys)
          refine Stop.go (compAt_tup (items := #[.bytes pa ta, .bytes pb tb]) [(Tp, tup2 (.bytes pa ta) (.bytes pb tb))] J9
            rfl (List.mem_singleton_self _) rfl rfl (asg_name (by rfl) rfl) ?_ (by simp) ?_ F29 N29 ⟨rfl, rfl, fun _ h => absurd h (Nat.not_lt_zero _)⟩ ?_ ?_)
          · rintro j ys nw h ⟨rfl, _⟩ Nh _ p hp
            rw [List.mem_singleton.mp hp]
            exact Nh.get (List.mem_cons_self ..)
          · rintro j ys nw ⟨_, h⟩
            exact Nat.le_of_eq h.1
          · intro s₂ D3 C3 I3 j v ys k nw oC2 oI mC h tk E hz1 hv hz2 hoff3 hns hmC F30 N30 hlt3 hDC
            (try k_fold)
            obtain ⟨hh, rfl⟩ := hz1
            obtain ⟨rfl, hys3⟩ := hz2
            clear F29 N29
            obtain ⟨pj, tj, kj, rfl, hpj, hkj, hkl⟩ : ∃ pj tj kj, v = .bytes pj tj ∧ KBw.bInts pj = kj ∧ [ka, kb].getD j [] = kj ∧ kj.length ≤ 16 := by
              rcases j with _ | _ | j
              · exact ⟨pa, ta, ka, (Option.some.inj hv).symm, hpa, rfl, by omega⟩
              · exact ⟨pb, tb, kb, (Option.some.inj hv).symm, hpb, rfl, by omega⟩
              · simp at hv
            replace N30 := news_swap N30
            simp only [own3, List.cons_append, List.nil_append] at N30
            refine wpAny_pure ?_
            (try (k_unfold; (try dsimp only)))
            rw [if_pos rfl]
            (repeat' (first | (k_unfold; (try dsimp only)) | (k_end; kc_close) | (with_reducible first | ((show wpAny _ _ (call (Value.ref _) _) _ _ _); refine Stop.of ?_) | ((show wpAny _ _ (eval (Expr.Constant (Const.int _) _ _) _) _ _ _); refine flat_int ?_) | ((show wpAny _ _ (binaryOp Operator.Add (Value.int _ _) (Value.int _ _)) _ _ _); refine flat_add ?_) | ((show wpAny _ _ (binaryOp Operator.Sub (Value.int _ _) (Value.int _ _)) _ _ _); refine flat_sub ?_) | ((show wpAny _ _ (eval (Expr.BinOp _ _ _ _) _) _ _ _); k_fold; k_dflt walk1) | ((show wpAny _ _ (eval (Expr.Compare _ _ _ _) _) _ _ _); k_fold; k_dflt walk1)) | walk1 | (dsimp only; first | (with_reducible first | ((show wpAny _ _ (call (Value.ref _) _) _ _ _); refine Stop.of ?_)) | walk1) | (leave1; walk_say "STEP leave1"; try dsimp only) | fail "no step"))
            refine Stop.go ?_
            (try k_fold); (k_dflt (refine' Ct.use (converted_ct w pj x (byteArr kg) .none .none kj kw kg none none tj tx _ _ hpj hkw hgm OptB.none OptB.none (by omega) (by omega) hgl.symm) ?k1 ?k2 ?k3 ?k4 ?k5 ?kK ?kd ?ku ?_; (case k1 => k_asm); (case k2 => k_asm); (case k3 => k_asm); (case k4 => k_asm); (case k5 => k_asm); (case kK => first | exact rfl | assumption); (case kd => ktr_room); (case ku => ktr_units)))
            intro r n31 h31 tk31 F31 N31 hz1
            (try k_fold)
            obtain ⟨rfl, b31, t31, rfl, hb31⟩ := hz1
            rw [convI_full] at hb31
            exact CompEnd.mk F31 (news_swap N31) hoff3 ⟨rfl, hys3.snoc (by rw [hkj]; exact hb31)⟩
          · intro s₂ D3 C3 h tk ys3 k3 nw mC hz1 hCL hC0 hz2 hD hC hlt3 F30 N30 hns
            (try k_fold)
            obtain ⟨hh, rfl⟩ := hz1
            obtain ⟨rfl, hys3⟩ := hz2
            refine' compPost_assign2 (L := s1.heap.objs.size) ?kL ?ky ?kp ?k1 ?k2 ?k3 ?kF ?kN ?kH ?_; (case kL => rfl); (case ky => rfl); (case kp => rfl); (case k1 => exact hCL); (case k2 => exact hC0); (case kF => exact F30); (case kN => exact N30); (case k3 => exact hC); (case kH => exact hns)
            intro h5 tk5 F31 N31
            clear F30 N30 F29 N29 hD hC hns lTp
            obtain ⟨b0, t0, r0, hb0⟩ := hys3.2 0 (by simp)
            obtain ⟨b1, t1, r1, hb1⟩ := hys3.2 1 (by simp)
            replace hb0 : KBw.bInts b0 = ka.map (conv1 kw kg) := hb0
            replace hb1 : KBw.bInts b1 = kb.map (conv1 kw kg) := hb1
            obtain rfl := two_of hys3.1 r0 r1
            replace N31 := news_last N31
            (repeat' (first | (k_unfold; (try dsimp only)) | (k_end; kc_close) | (with_reducible first | ((show wpAny _ _ (call (Value.ref _) _) _ _ _); refine Stop.of ?_) | ((show wpAny _ _ (eval (Expr.Constant (Const.int _) _ _) _) _ _ _); refine flat_int ?_) | ((show wpAny _ _ (binaryOp Operator.Add (Value.int _ _) (Value.int _ _)) _ _ _); refine flat_add ?_) | ((show wpAny _ _ (binaryOp Operator.Sub (Value.int _ _) (Value.int _ _)) _ _ _); refine flat_sub ?_) | ((show wpAny _ _ (eval (Expr.BinOp _ _ _ _) _) _ _ _); k_fold; k_dflt walk1) | ((show wpAny _ _ (eval (Expr.Compare _ _ _ _) _) _ _ _); k_fold; k_dflt walk1)) | walk1 | (dsimp only; first | (with_reducible first | ((show wpAny _ _ (call (Value.ref _) _) _ _ _); refine Stop.of ?_)) | walk1) | (leave1; walk_say "STEP leave1"; try dsimp only) | fail "no step"))
            refine Stop.go ?_
            (try k_fold); (k_dflt (refine' Ct.use (converted_ct w o x (byteArr kg) .none .none ko kw kg none none to tx _ _ hko hkw hgm OptB.none OptB.none (by omega) (by omega) hgl.symm) ?k1 ?k2 ?k3 ?k4 ?k5 ?kK ?kd ?ku ?_; (case k1 => k_asm); (case k2 => k_asm); (case k3 => k_asm); (case k4 => k_asm); (case k5 => k_asm); (case kK => first | exact rfl | assumption); (case kd => ktr_room); (case ku => ktr_units)))
            intro r n32 h32 tk32 F32 N32 hz1
            (try k_fold)
            obtain ⟨rfl, b32, t32, rfl, hb32⟩ := hz1
            rw [convI_full] at hb32
            clear F31 N31
            (repeat' (first | (k_unfold; (try dsimp only)) | (with_reducible first | ((show wpAny _ _ (call (Value.ref _) _) _ _ _); refine Stop.of ?_) | ((show wpAny _ _ (eval (Expr.Constant (Const.int _) _ _) _) _ _ _); refine flat_int ?_) | ((show wpAny _ _ (binaryOp Operator.Add (Value.int _ _) (Value.int _ _)) _ _ _); refine flat_add ?_) | ((show wpAny _ _ (binaryOp Operator.Sub (Value.int _ _) (Value.int _ _)) _ _ _); refine flat_sub ?_) | ((show wpAny _ _ (eval (Expr.BinOp _ _ _ _) _) _ _ _); k_fold; k_dflt walk1) | ((show wpAny _ _ (eval (Expr.Compare _ _ _ _) _) _ _ _); k_fold; k_dflt walk1)) | walk1 | (dsimp only; first | (with_reducible first | ((show wpAny _ _ (call (Value.ref _) _) _ _ _); refine Stop.of ?_)) | walk1) | (leave1; walk_say "STEP leave1"; try dsimp only) | fail "no step"))
            all_goals rename KBw.bInts (_ ++ _) = _ => happ
            all_goals rw [← List.map_append, hab] at happ
            · rename _ = true => hb
              rw [ne_ints hb32 happ] at hb
              cases hb
            replace N32 : News s1.heap s1.heap.objs.size h32 ((P, oP8) :: (Cl, oC) :: (s1.heap.objs.size + 1 + 1 + 1 + 1 + 1, oA) :: (s1.heap.objs.size + 1 + 1 + 1 + 1, oB) :: (s1.heap.objs.size + 1 + 1 + 1, oG) :: (s1.heap.objs.size + 1 + 1, oW) :: (s1.heap.objs.size + 1, oN) :: own) := fun p hp => N32 p (.tail _ (.tail _ hp))
            refine Stop.go ?_
            (try k_fold); (k_dflt (refine' Ct.use (draw_pen (pre := []) w _ _ hpen8 hcells (by omega) (by omega) (by omega) hPC (hcP _ _ _ _ _)) ?k1 ?k2 ?k3 ?k4 ?k5 ?kK ?kd ?ku ?_; (case k1 => k_asm); (case k2 => k_asm); (case k3 => k_asm); (case k4 => k_asm); (case k5 => k_asm); (case kK => first | exact rfl | assumption); (case kd => ktr_room); (case ku => ktr_units)))
            intro r n33 h33 tk33 F33 N33 hz1
            (try k_fold)
            obtain ⟨d2, td2, oP9, rfl, he0, he1, hpen9, rfl⟩ := hz1
            obtain ⟨rt, rfl⟩ := Int.eq_ofNat_of_zero_le he0
            simp only [List.nil_append] at N33
            clear F32 N32 hpen8
            (repeat' (first | (k_unfold; (try dsimp only)) | (k_end; kc_close) | (with_reducible first | ((show wpAny _ _ (call (Value.ref _) _) _ _ _); refine Stop.of ?_) | ((show wpAny _ _ (eval (Expr.Constant (Const.int _) _ _) _) _ _ _); refine flat_int ?_) | ((show wpAny _ _ (binaryOp Operator.Add (Value.int _ _) (Value.int _ _)) _ _ _); refine flat_add ?_) | ((show wpAny _ _ (binaryOp Operator.Sub (Value.int _ _) (Value.int _ _)) _ _ _); refine flat_sub ?_) | ((show wpAny _ _ (eval (Expr.BinOp _ _ _ _) _) _ _ _); k_fold; k_dflt walk1) | ((show wpAny _ _ (eval (Expr.Compare _ _ _ _) _) _ _ _); k_fold; k_dflt walk1)) | walk1 | (dsimp only; first | (with_reducible first | ((show wpAny _ _ (call (Value.ref _) _) _ _ _); refine Stop.of ?_)) | walk1) | (leave1; walk_say "STEP leave1"; try dsimp only) | fail "no step"))
            refine Stop.go ?_
            (try k_fold); (k_dflt (refine' Ct.use (back_ct w o ko rt to td2 _ hko (by omega) (by omega)) ?k1 ?k2 ?k3 ?k4 ?k5 ?kK ?kd ?ku ?_; (case k1 => k_asm); (case k2 => k_asm); (case k3 => k_asm); (case k4 => k_asm); (case k5 => k_asm); (case kK => first | exact rfl | assumption); (case kd => ktr_room); (case ku => ktr_units)))
            intro r n34 h34 tk34 F34 N34 hz1
            (try k_fold)
            obtain ⟨rfl, rfl⟩ := hz1
            clear F33 N33
            (repeat' (first | (k_unfold; (try dsimp only)) | (k_end; kc_close) | (with_reducible first | ((show wpAny _ _ (call (Value.ref _) _) _ _ _); refine Stop.of ?_) | ((show wpAny _ _ (eval (Expr.Constant (Const.int _) _ _) _) _ _ _); refine flat_int ?_) | ((show wpAny _ _ (binaryOp Operator.Add (Value.int _ _) (Value.int _ _)) _ _ _); refine flat_add ?_) | ((show wpAny _ _ (binaryOp Operator.Sub (Value.int _ _) (Value.int _ _)) _ _ _); refine flat_sub ?_) | ((show wpAny _ _ (eval (Expr.BinOp _ _ _ _) _) _ _ _); k_fold; k_dflt walk1) | ((show wpAny _ _ (eval (Expr.Compare _ _ _ _) _) _ _ _); k_fold; k_dflt walk1)) | walk1 | (dsimp only; first | (with_reducible first | ((show wpAny _ _ (call (Value.ref _) _) _ _ _); refine Stop.of ?_)) | walk1) | (leave1; walk_say "STEP leave1"; try dsimp only) | fail "no step"))
            rename News s1.heap _ _ _ => N34
            rename Fr s1.heap _ _ _ => F34
            refine Stop.go (Ct0.use (refused_ct w x kw tx _ hkw (by omega)) B F34 X N34 T X T rfl (by ktr_room) (by ktr_units) ?_)
            intro r n35 h35 tk35 F35 N35 hz1
            (try k_fold)
            obtain ⟨rfl, rfl⟩ := hz1
            clear F34 N34
            (repeat' (first | (k_unfold; (try dsimp only)) | (k_end; kc_close) | (with_reducible first | ((show wpAny _ _ (call (Value.ref _) _) _ _ _); refine Stop.of ?_) | ((show wpAny _ _ (eval (Expr.Constant (Const.int _) _ _) _) _ _ _); refine flat_int ?_) | ((show wpAny _ _ (binaryOp Operator.Add (Value.int _ _) (Value.int _ _)) _ _ _); refine flat_add ?_) | ((show wpAny _ _ (binaryOp Operator.Sub (Value.int _ _) (Value.int _ _)) _ _ _); refine flat_sub ?_) | ((show wpAny _ _ (eval (Expr.BinOp _ _ _ _) _) _ _ _); k_fold; k_dflt walk1) | ((show wpAny _ _ (eval (Expr.Compare _ _ _ _) _) _ _ _); k_fold; k_dflt walk1)) | walk1 | (dsimp only; first | (with_reducible first | ((show wpAny _ _ (call (Value.ref _) _) _ _ _); refine Stop.of ?_)) | walk1) | (leave1; walk_say "STEP leave1"; try dsimp only) | fail "no step"))
            refine TurnEnd.next F35 (news' := [(P, oP9), (Cl, oC), (s1.heap.objs.size + 1 + 1 + 1 + 1 + 1, oA), (s1.heap.objs.size + 1 + 1 + 1 + 1, oB), (s1.heap.objs.size + 1 + 1 + 1, oG), (s1.heap.objs.size + 1 + 1, oW), (s1.heap.objs.size + 1, oN)]) N35 ?_ ⟨oP9, oA, oB, oG, oW, _, _, _, _, rfl, hpen9.mono (by omega), dA, dB, dg, dw⟩
            intro p hp
            simp only [List.mem_cons, List.not_mem_nil, or_false] at hp
            rcases hp with rfl | rfl | rfl | rfl | rfl | rfl | rfl
            · exact hoff (P, oP) (.head _)
            · exact hoff (Cl, oC) (.tail _ (.head _))
            · exact hoff (s1.heap.objs.size + 1 + 1 + 1 + 1 + 1, o5) (.tail _ (.tail _ (.head _)))
            · exact hoff (s1.heap.objs.size + 1 + 1 + 1 + 1, o4) (.tail _ (.tail _ (.tail _ (.head _))))
            · exact hoff (s1.heap.objs.size + 1 + 1 + 1, o3) (.tail _ (.tail _ (.tail _ (.tail _ (.head _)))))
            · exact hoff (s1.heap.objs.size + 1 + 1, o2) (.tail _ (.tail _ (.tail _ (.tail _ (.tail _ (.head _))))))
            · exact hoff (s1.heap.objs.size + 1, oN) (.tail _ (.tail _ (.tail _ (.tail _ (.tail _ (.tail _ (.head _)))))))
    · clear F1 N1
      intro m₁ news₁ h tk hz1 F1 N1
      (try k_fold)
      obtain ⟨oP, o5, o4, o3, o2, e5, e4, e3, e2, rfl, hpen, g5, g4, g3, g2⟩ := hz1
      replace F1 : Fr s1.heap s1.heap.objs.size h _ := F1
      replace N1 : News s1.heap s1.heap.objs.size h _ := N1
      (repeat' (first | (k_unfold; (try dsimp only)) | (k_end; kc_close) | (with_reducible first | ((show wpAny _ _ (call (Value.ref _) _) _ _ _); refine Stop.of ?_) | ((show wpAny _ _ (eval (Expr.Constant (Const.int _) _ _) _) _ _ _); refine flat_int ?_) | ((show wpAny _ _ (binaryOp Operator.Add (Value.int _ _) (Value.int _ _)) _ _ _); refine flat_add ?_) | ((show wpAny _ _ (binaryOp Operator.Sub (Value.int _ _) (Value.int _ _)) _ _ _); refine flat_sub ?_) | ((show wpAny _ _ (eval (Expr.BinOp _ _ _ _) _) _ _ _); k_fold; k_dflt walk1) | ((show wpAny _ _ (eval (Expr.Compare _ _ _ _) _) _ _ _); k_fold; k_dflt walk1)) | walk1 | (dsimp only; first | (with_reducible first | ((show wpAny _ _ (call (Value.ref _) _) _ _ _); refine Stop.of ?_)) | walk1) | (leave1; walk_say "STEP leave1"; try dsimp only) | fail "no step"))
end


end Mine
theorem PySem.Challenge.cw_og0078_01_holds : PySem.Challenge.rw_og0078_01.Holds :=
  Mine.law_holds

