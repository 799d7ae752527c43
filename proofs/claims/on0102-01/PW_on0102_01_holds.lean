import PyProof.Rows.All
import Wide.All
import OpenK.AllK
import Wide.FinOn
import PySem.Challenge.RW_on0102_01
set_option Elab.async false
set_option maxRecDepth 100000
section
open PySem PySem.W PyProof.Rows
set_option maxHeartbeats 8000000
namespace Mine

/-- the statement's program -/
noncomputable abbrev pg : Program := PySem.Challenge.rw_on0102_01.row.prog
/-- a def at place i of the top (j: 100), or at place j of the class there: its parameters, body and scope -/
noncomputable def defIn : List Stmt → Nat → Option (Arguments × List Stmt × Scope)
  | [], _ => none
  | .FunctionDef _ ps b _ _ _ sc _ _ _ :: _, 0 => some (ps, b, sc)
  | _ :: _, 0 => none
  | _ :: l, i + 1 => defIn l i
noncomputable def defAt : List Stmt → Nat → Nat → Option (Arguments × List Stmt × Scope)
  | [], _, _ => none
  | .FunctionDef _ ps b _ _ _ sc _ _ _ :: _, 0, _ => some (ps, b, sc)
  | .ClassDef _ _ _ b _ _ _ _ _ _ _ :: _, 0, j => defIn b j
  | _ :: _, 0, _ => none
  | _ :: l, i + 1, j => defAt l i j
structure FD (i j : Nat) where
  ps : Arguments
  b : List Stmt
  sc : Scope
  at_ : defAt PySem.Challenge.pw_on0102_01.main.body i j = some (ps, b, sc)
@[reducible] noncomputable def fd29 : FD 1 0 := ⟨_, _, _, rfl⟩
@[reducible] noncomputable def fd54 : FD 4 100 := ⟨_, _, _, rfl⟩
@[reducible] noncomputable def fd61 : FD 5 100 := ⟨_, _, _, rfl⟩
@[reducible] noncomputable def fd68 : FD 7 100 := ⟨_, _, _, rfl⟩
@[reducible] noncomputable def fd75 : FD 8 100 := ⟨_, _, _, rfl⟩
@[reducible] noncomputable def fd82 : FD 9 100 := ⟨_, _, _, rfl⟩
@[reducible] noncomputable def fd96 : FD 10 0 := ⟨_, _, _, rfl⟩
@[reducible] noncomputable def fd103 : FD 10 1 := ⟨_, _, _, rfl⟩
@[reducible] noncomputable def fd110 : FD 10 2 := ⟨_, _, _, rfl⟩
@[reducible] noncomputable def fd124 : FD 11 100 := ⟨_, _, _, rfl⟩
@[reducible] noncomputable def fd138 : FD 12 0 := ⟨_, _, _, rfl⟩
@[reducible] noncomputable def fd145 : FD 12 1 := ⟨_, _, _, rfl⟩
@[reducible] noncomputable def fd152 : FD 12 2 := ⟨_, _, _, rfl⟩
@[reducible] noncomputable def fd159 : FD 12 3 := ⟨_, _, _, rfl⟩
@[reducible] noncomputable def fd166 : FD 12 4 := ⟨_, _, _, rfl⟩
@[reducible] noncomputable def fd173 : FD 12 5 := ⟨_, _, _, rfl⟩
@[reducible] noncomputable def fd187 : FD 13 100 := ⟨_, _, _, rfl⟩
@[reducible] noncomputable def fd194 : FD 15 100 := ⟨_, _, _, rfl⟩
@[reducible] noncomputable def fd201 : FD 16 100 := ⟨_, _, _, rfl⟩
@[reducible] noncomputable def fd208 : FD 17 100 := ⟨_, _, _, rfl⟩
@[reducible] noncomputable def fd215 : FD 18 100 := ⟨_, _, _, rfl⟩
@[reducible] noncomputable def fd222 : FD 19 100 := ⟨_, _, _, rfl⟩
@[reducible] noncomputable def fd229 : FD 20 100 := ⟨_, _, _, rfl⟩

/-- the heap behind the top: what the walk knows of it -/
noncomputable def hd.heap_39 : Params → Frag := fun P =>
  ((nat_lit 2), (Obj.mk Value.none none (Data.dict #[(DictEntry.mk (PyData.keyHash P (Str.ofString "type.__subclasses__.Exception.0")) (Value.str (Str.ofString "type.__subclasses__.Exception.0") 221) (Value.int 32 0)), (DictEntry.mk (PyData.keyHash P (Str.ofString "type.__subclasses__.Exception.n")) (Value.str (Str.ofString "type.__subclasses__.Exception.n") 222) (Value.int 1 0))] 2) #[])) ::
  ((nat_lit 3), (Obj.mk (Value.type "dict") none (Data.dict #[(DictEntry.mk (PyData.keyHash P (Str.ofString "__name__")) (Value.str (Str.ofString "__name__") 165) (Value.str (Str.ofString "law_on0102_01") 442)), (DictEntry.mk (PyData.keyHash P (Str.ofString "__doc__")) (Value.str (Str.ofString "__doc__") 166) Value.none), (DictEntry.mk (PyData.keyHash P (Str.ofString "__package__")) (Value.str (Str.ofString "__package__") 167) Value.none), (DictEntry.mk (PyData.keyHash P (Str.ofString "__loader__")) (Value.str (Str.ofString "__loader__") 168) (Value.builtin "__main__.__loader__#opaque")), (DictEntry.mk (PyData.keyHash P (Str.ofString "__spec__")) (Value.str (Str.ofString "__spec__") 169) Value.none), (DictEntry.mk (PyData.keyHash P (Str.ofString "__annotations__")) (Value.str (Str.ofString "__annotations__") 170) (Value.ref 6)), (DictEntry.mk (PyData.keyHash P (Str.ofString "__builtins__")) (Value.str (Str.ofString "__builtins__") 171) (Value.ref 4)), (DictEntry.mk (PyData.keyHash P (Str.ofString "__file__")) (Value.str (Str.ofString "__file__") 173) (Value.str (Str.ofString "/claim/cut.py") 172)), (DictEntry.mk (PyData.keyHash P (Str.ofString "__cached__")) (Value.str (Str.ofString "__cached__") 174) Value.none), (DictEntry.mk (PyData.keyHash P (Str.ofString "GateloomError")) (Value.str (Str.ofString "GateloomError") 224) (Value.ref 32)), (DictEntry.mk (PyData.keyHash P (Str.ofString "FormatError")) (Value.str (Str.ofString "FormatError") 240) (Value.ref 45)), (DictEntry.mk (PyData.keyHash P (Str.ofString "from_codes")) (Value.str (Str.ofString "from_codes") 252) (Value.ref 54)), (DictEntry.mk (PyData.keyHash P (Str.ofString "from_text")) (Value.str (Str.ofString "from_text") 262) (Value.ref 61)), (DictEntry.mk (PyData.keyHash P (Str.ofString "extension")) (Value.str (Str.ofString "extension") 271) (Value.ref 68)), (DictEntry.mk (PyData.keyHash P (Str.ofString "lengthened")) (Value.str (Str.ofString "lengthened") 279) (Value.ref 75)), (DictEntry.mk (PyData.keyHash P (Str.ofString "is_layout")) (Value.str (Str.ofString "is_layout") 286) (Value.ref 82)), (DictEntry.mk (PyData.keyHash P (Str.ofString "WordRow")) (Value.str (Str.ofString "WordRow") 335) (Value.ref 113)), (DictEntry.mk (PyData.keyHash P (Str.ofString "whole_number")) (Value.str (Str.ofString "whole_number") 344) (Value.ref 124)), (DictEntry.mk (PyData.keyHash P (Str.ofString "DumpReader")) (Value.str (Str.ofString "DumpReader") 433) (Value.ref 176)), (DictEntry.mk (PyData.keyHash P (Str.ofString "read_dump")) (Value.str (Str.ofString "read_dump") 441) (Value.ref 187)), (DictEntry.mk (PyData.keyHash P (Str.ofString "_law_draw")) (Value.str (Str.ofString "_law_draw") 454) (Value.ref 194)), (DictEntry.mk (PyData.keyHash P (Str.ofString "_law_wrong")) (Value.str (Str.ofString "_law_wrong") 460) (Value.ref 201)), (DictEntry.mk (PyData.keyHash P (Str.ofString "_law_groups")) (Value.str (Str.ofString "_law_groups") 468) (Value.ref 208)), (DictEntry.mk (PyData.keyHash P (Str.ofString "_law_joined")) (Value.str (Str.ofString "_law_joined") 480) (Value.ref 215)), (DictEntry.mk (PyData.keyHash P (Str.ofString "_law_read")) (Value.str (Str.ofString "_law_read") 488) (Value.ref 222)), (DictEntry.mk (PyData.keyHash P (Str.ofString "law")) (Value.str (Str.ofString "law") 513) (Value.ref 229))] 26) #[])) ::
  ((nat_lit 15), (Obj.mk (Value.type "tuple") none (Data.seq #[(Value.type "Exception")] 0) #[])) ::
  ((nat_lit 22), (Obj.mk (Value.type "tuple") none (Data.seq #[(Value.int (-1) 202), (Value.str (Str.ofString "") 203)] 0) #[])) ::
  ((nat_lit 23), (Obj.mk (Value.type "tuple") none (Data.seq #[] 0) #[])) ::
  ((nat_lit 25), (Obj.mk (Value.type "tuple") none (Data.seq #[(Value.str (Str.ofString "self") 207), (Value.str (Str.ofString "kind") 208), (Value.str (Str.ofString "at") 209), (Value.str (Str.ofString "detail") 210)] 0) #[])) ::
  ((nat_lit 26), (Obj.mk (Value.type "tuple") none (Data.seq #[] 0) #[])) ::
  ((nat_lit 28), (Obj.mk (Value.type "code") none (Data.fields #[(Value.str (Str.ofString "__init__") 204), (Value.str (Str.ofString "GateloomError.__init__") 205), (Value.str (Str.ofString "/claim/cut.py") 206), (Value.int 4 0), (Value.int 4 0), (Value.int 0 0), (Value.int 0 0), (Value.int 3 0), (Value.ref 23), (Value.bool Bool.true), (Value.int 181 0), (Value.ref 24), Value.none, (Value.ref 25), (Value.ref 26), (Value.ref 27), (Value.int 211 0), (Value.int 4 0), (Value.str (Str.ofString "/claim/cut.py") 212)]) #[])) ::
  ((nat_lit 29), (Obj.mk (Value.type "function") none (Data.func (FuncData.mk (Str.ofString "__init__") (Str.ofString "GateloomError.__init__") fd29.ps (.stmts fd29.b) fd29.sc 3 [] (Value.ref 22) Value.none Value.none (Value.str (Str.ofString "gateloom.errors") 187) none (Value.ref 28) Value.none 0)) #[])) ::
  ((nat_lit 30), (Obj.mk (Value.type "tuple") none (Data.seq #[(Value.str (Str.ofString "at") 214), (Value.str (Str.ofString "detail") 215), (Value.str (Str.ofString "kind") 216)] 0) #[])) ::
  ((nat_lit 31), (Obj.mk (Value.type "dict") none (Data.dict #[(DictEntry.mk (PyData.keyHash P (Str.ofString "__module__")) (Value.str (Str.ofString "__module__") 196) (Value.str (Str.ofString "gateloom.errors") 187)), (DictEntry.mk (PyData.keyHash P (Str.ofString "__firstlineno__")) (Value.str (Str.ofString "__firstlineno__") 200) (Value.int 2 199)), (DictEntry.mk (PyData.keyHash P (Str.ofString "__init__")) (Value.str (Str.ofString "__init__") 213) (Value.ref 29)), (DictEntry.mk (PyData.keyHash P (Str.ofString "__static_attributes__")) (Value.str (Str.ofString "__static_attributes__") 217) (Value.ref 30)), (DictEntry.mk (PyData.keyHash P (Str.ofString "__weakref__")) (Value.str (Str.ofString "__weakref__") 219) (Value.ref 33)), (DictEntry.mk (PyData.keyHash P (Str.ofString "__doc__")) (Value.str (Str.ofString "__doc__") 220) Value.none)] 3) #[])) ::
  ((nat_lit 32), (Obj.mk (Value.type "type") none (Data.cls (ClassData.mk (Str.ofString "GateloomError") [(Value.type "Exception")] [(Value.ref 32), (Value.type "Exception"), (Value.type "BaseException"), (Value.type "object")] 31 (Str.ofString "GateloomError") Bool.true [] [(Value.ref 45)] Bool.false none Bool.false)) #[(some (Value.ref 15)), none, (some (Value.str (Str.ofString "GateloomError") 189)), (some (Value.str (Str.ofString "GateloomError") 197)), (some (Value.builtin "Exception.__new__")), (some (Value.bool Bool.true))])) ::
  ((nat_lit 33), (Obj.mk (Value.type "getset_descriptor") none (Data.fields #[(Value.str (Str.ofString "__weakref__") 218), (Value.ref 32), (Value.builtin "ExceptionGroup.__weakref__"), Value.none]) #[])) ::
  ((nat_lit 36), (Obj.mk (Value.type "tuple") none (Data.seq #[(Value.ref 32)] 0) #[])) ::
  ((nat_lit 43), (Obj.mk (Value.type "tuple") none (Data.seq #[] 0) #[])) ::
  ((nat_lit 44), (Obj.mk (Value.type "dict") none (Data.dict #[(DictEntry.mk (PyData.keyHash P (Str.ofString "__module__")) (Value.str (Str.ofString "__module__") 232) (Value.str (Str.ofString "gateloom.errors") 187)), (DictEntry.mk (PyData.keyHash P (Str.ofString "__firstlineno__")) (Value.str (Str.ofString "__firstlineno__") 236) (Value.int 8 235)), (DictEntry.mk (PyData.keyHash P (Str.ofString "__static_attributes__")) (Value.str (Str.ofString "__static_attributes__") 237) (Value.ref 43)), (DictEntry.mk (PyData.keyHash P (Str.ofString "__doc__")) (Value.str (Str.ofString "__doc__") 238) Value.none)] 2) #[])) ::
  ((nat_lit 45), (Obj.mk (Value.type "type") none (Data.cls (ClassData.mk (Str.ofString "FormatError") [(Value.ref 32)] [(Value.ref 45), (Value.ref 32), (Value.type "Exception"), (Value.type "BaseException"), (Value.type "object")] 44 (Str.ofString "FormatError") Bool.true [] [] Bool.false none Bool.false)) #[(some (Value.ref 36)), none, (some (Value.str (Str.ofString "FormatError") 225)), (some (Value.str (Str.ofString "FormatError") 233)), (some (Value.builtin "Exception.__new__")), (some (Value.bool Bool.true))])) ::
  ((nat_lit 48), (Obj.mk (Value.type "tuple") none (Data.seq #[] 0) #[])) ::
  ((nat_lit 50), (Obj.mk (Value.type "tuple") none (Data.seq #[(Value.str (Str.ofString "row") 246), (Value.str (Str.ofString "a") 247), (Value.str (Str.ofString "b") 248), (Value.str (Str.ofString "i") 249)] 0) #[])) ::
  ((nat_lit 51), (Obj.mk (Value.type "tuple") none (Data.seq #[] 0) #[])) ::
  ((nat_lit 53), (Obj.mk (Value.type "code") none (Data.fields #[(Value.str (Str.ofString "from_codes") 243), (Value.str (Str.ofString "from_codes") 244), (Value.str (Str.ofString "/claim/cut.py") 245), (Value.int 11 0), (Value.int 1 0), (Value.int 0 0), (Value.int 0 0), (Value.int 3 0), (Value.ref 48), (Value.bool Bool.true), (Value.int 181 0), (Value.ref 49), Value.none, (Value.ref 50), (Value.ref 51), (Value.ref 52), (Value.int 250 0), (Value.int 11 0), (Value.str (Str.ofString "/claim/cut.py") 251)]) #[])) ::
  ((nat_lit 54), (Obj.mk (Value.type "function") none (Data.func (FuncData.mk (Str.ofString "from_codes") (Str.ofString "from_codes") fd54.ps (.stmts fd54.b) fd54.sc 3 [] Value.none Value.none Value.none (Value.str (Str.ofString "gateloom.vec") 241) none (Value.ref 53) Value.none 0)) #[])) ::
  ((nat_lit 55), (Obj.mk (Value.type "tuple") none (Data.seq #[] 0) #[])) ::
  ((nat_lit 57), (Obj.mk (Value.type "tuple") none (Data.seq #[(Value.str (Str.ofString "text") 256), (Value.str (Str.ofString "row") 257), (Value.str (Str.ofString "i") 258), (Value.str (Str.ofString "found") 259)] 0) #[])) ::
  ((nat_lit 58), (Obj.mk (Value.type "tuple") none (Data.seq #[] 0) #[])) ::
  ((nat_lit 60), (Obj.mk (Value.type "code") none (Data.fields #[(Value.str (Str.ofString "from_text") 253), (Value.str (Str.ofString "from_text") 254), (Value.str (Str.ofString "/claim/cut.py") 255), (Value.int 18 0), (Value.int 1 0), (Value.int 0 0), (Value.int 0 0), (Value.int 3 0), (Value.ref 55), (Value.bool Bool.true), (Value.int 181 0), (Value.ref 56), Value.none, (Value.ref 57), (Value.ref 58), (Value.ref 59), (Value.int 260 0), (Value.int 18 0), (Value.str (Str.ofString "/claim/cut.py") 261)]) #[])) ::
  ((nat_lit 61), (Obj.mk (Value.type "function") none (Data.func (FuncData.mk (Str.ofString "from_text") (Str.ofString "from_text") fd61.ps (.stmts fd61.b) fd61.sc 3 [] Value.none Value.none Value.none (Value.str (Str.ofString "gateloom.vec") 241) none (Value.ref 60) Value.none 0)) #[])) ::
  ((nat_lit 62), (Obj.mk (Value.type "tuple") none (Data.seq #[] 0) #[])) ::
  ((nat_lit 64), (Obj.mk (Value.type "tuple") none (Data.seq #[(Value.str (Str.ofString "sign") 268)] 0) #[])) ::
  ((nat_lit 65), (Obj.mk (Value.type "tuple") none (Data.seq #[] 0) #[])) ::
  ((nat_lit 67), (Obj.mk (Value.type "code") none (Data.fields #[(Value.str (Str.ofString "extension") 265), (Value.str (Str.ofString "extension") 266), (Value.str (Str.ofString "/claim/cut.py") 267), (Value.int 27 0), (Value.int 1 0), (Value.int 0 0), (Value.int 0 0), (Value.int 3 0), (Value.ref 62), (Value.bool Bool.true), (Value.int 181 0), (Value.ref 63), Value.none, (Value.ref 64), (Value.ref 65), (Value.ref 66), (Value.int 269 0), (Value.int 27 0), (Value.str (Str.ofString "/claim/cut.py") 270)]) #[])) ::
  ((nat_lit 68), (Obj.mk (Value.type "function") none (Data.func (FuncData.mk (Str.ofString "extension") (Str.ofString "extension") fd68.ps (.stmts fd68.b) fd68.sc 3 [] Value.none Value.none Value.none (Value.str (Str.ofString "gateloom.dump") 263) none (Value.ref 67) Value.none 0)) #[])) ::
  ((nat_lit 69), (Obj.mk (Value.type "tuple") none (Data.seq #[] 0) #[])) ::
  ((nat_lit 71), (Obj.mk (Value.type "tuple") none (Data.seq #[(Value.str (Str.ofString "text") 275), (Value.str (Str.ofString "width") 276)] 0) #[])) ::
  ((nat_lit 72), (Obj.mk (Value.type "tuple") none (Data.seq #[] 0) #[])) ::
  ((nat_lit 74), (Obj.mk (Value.type "code") none (Data.fields #[(Value.str (Str.ofString "lengthened") 272), (Value.str (Str.ofString "lengthened") 273), (Value.str (Str.ofString "/claim/cut.py") 274), (Value.int 31 0), (Value.int 2 0), (Value.int 0 0), (Value.int 0 0), (Value.int 3 0), (Value.ref 69), (Value.bool Bool.true), (Value.int 181 0), (Value.ref 70), Value.none, (Value.ref 71), (Value.ref 72), (Value.ref 73), (Value.int 277 0), (Value.int 31 0), (Value.str (Str.ofString "/claim/cut.py") 278)]) #[])) ::
  ((nat_lit 75), (Obj.mk (Value.type "function") none (Data.func (FuncData.mk (Str.ofString "lengthened") (Str.ofString "lengthened") fd75.ps (.stmts fd75.b) fd75.sc 3 [] Value.none Value.none Value.none (Value.str (Str.ofString "gateloom.dump") 263) none (Value.ref 74) Value.none 0)) #[])) ::
  ((nat_lit 76), (Obj.mk (Value.type "tuple") none (Data.seq #[] 0) #[])) ::
  ((nat_lit 78), (Obj.mk (Value.type "tuple") none (Data.seq #[(Value.str (Str.ofString "sign") 283)] 0) #[])) ::
  ((nat_lit 79), (Obj.mk (Value.type "tuple") none (Data.seq #[] 0) #[])) ::
  ((nat_lit 81), (Obj.mk (Value.type "code") none (Data.fields #[(Value.str (Str.ofString "is_layout") 280), (Value.str (Str.ofString "is_layout") 281), (Value.str (Str.ofString "/claim/cut.py") 282), (Value.int 33 0), (Value.int 1 0), (Value.int 0 0), (Value.int 0 0), (Value.int 3 0), (Value.ref 76), (Value.bool Bool.true), (Value.int 181 0), (Value.ref 77), Value.none, (Value.ref 78), (Value.ref 79), (Value.ref 80), (Value.int 284 0), (Value.int 33 0), (Value.str (Str.ofString "/claim/cut.py") 285)]) #[])) ::
  ((nat_lit 82), (Obj.mk (Value.type "function") none (Data.func (FuncData.mk (Str.ofString "is_layout") (Str.ofString "is_layout") fd82.ps (.stmts fd82.b) fd82.sc 3 [] Value.none Value.none Value.none (Value.str (Str.ofString "gateloom.dump") 263) none (Value.ref 81) Value.none 0)) #[])) ::
  ((nat_lit 90), (Obj.mk (Value.type "tuple") none (Data.seq #[] 0) #[])) ::
  ((nat_lit 92), (Obj.mk (Value.type "tuple") none (Data.seq #[(Value.str (Str.ofString "self") 302), (Value.str (Str.ofString "text") 303)] 0) #[])) ::
  ((nat_lit 93), (Obj.mk (Value.type "tuple") none (Data.seq #[] 0) #[])) ::
  ((nat_lit 95), (Obj.mk (Value.type "code") none (Data.fields #[(Value.str (Str.ofString "__init__") 299), (Value.str (Str.ofString "WordRow.__init__") 300), (Value.str (Str.ofString "/claim/cut.py") 301), (Value.int 37 0), (Value.int 2 0), (Value.int 0 0), (Value.int 0 0), (Value.int 3 0), (Value.ref 90), (Value.bool Bool.true), (Value.int 181 0), (Value.ref 91), Value.none, (Value.ref 92), (Value.ref 93), (Value.ref 94), (Value.int 304 0), (Value.int 37 0), (Value.str (Str.ofString "/claim/cut.py") 305)]) #[])) ::
  ((nat_lit 96), (Obj.mk (Value.type "function") none (Data.func (FuncData.mk (Str.ofString "__init__") (Str.ofString "WordRow.__init__") fd96.ps (.stmts fd96.b) fd96.sc 3 [] Value.none Value.none Value.none (Value.str (Str.ofString "gateloom.dump") 263) none (Value.ref 95) Value.none 0)) #[])) ::
  ((nat_lit 97), (Obj.mk (Value.type "tuple") none (Data.seq #[] 0) #[])) ::
  ((nat_lit 99), (Obj.mk (Value.type "tuple") none (Data.seq #[(Value.str (Str.ofString "self") 310), (Value.str (Str.ofString "text") 311)] 0) #[])) ::
  ((nat_lit 100), (Obj.mk (Value.type "tuple") none (Data.seq #[] 0) #[])) ::
  ((nat_lit 102), (Obj.mk (Value.type "code") none (Data.fields #[(Value.str (Str.ofString "take") 307), (Value.str (Str.ofString "WordRow.take") 308), (Value.str (Str.ofString "/claim/cut.py") 309), (Value.int 42 0), (Value.int 1 0), (Value.int 0 0), (Value.int 0 0), (Value.int 3 0), (Value.ref 97), (Value.bool Bool.true), (Value.int 181 0), (Value.ref 98), Value.none, (Value.ref 99), (Value.ref 100), (Value.ref 101), (Value.int 312 0), (Value.int 42 0), (Value.str (Str.ofString "/claim/cut.py") 313)]) #[])) ::
  ((nat_lit 103), (Obj.mk (Value.type "function") none (Data.func (FuncData.mk (Str.ofString "take") (Str.ofString "WordRow.take") fd103.ps (.stmts fd103.b) fd103.sc 3 [] Value.none Value.none Value.none (Value.str (Str.ofString "gateloom.dump") 263) none (Value.ref 102) Value.none 0)) #[])) ::
  ((nat_lit 104), (Obj.mk (Value.type "tuple") none (Data.seq #[] 0) #[])) ::
  ((nat_lit 106), (Obj.mk (Value.type "tuple") none (Data.seq #[(Value.str (Str.ofString "self") 318), (Value.str (Str.ofString "found") 319), (Value.str (Str.ofString "start") 320), (Value.str (Str.ofString "word") 321)] 0) #[])) ::
  ((nat_lit 107), (Obj.mk (Value.type "tuple") none (Data.seq #[] 0) #[])) ::
  ((nat_lit 109), (Obj.mk (Value.type "code") none (Data.fields #[(Value.str (Str.ofString "until_end") 315), (Value.str (Str.ofString "WordRow.until_end") 316), (Value.str (Str.ofString "/claim/cut.py") 317), (Value.int 51 0), (Value.int 1 0), (Value.int 0 0), (Value.int 0 0), (Value.int 3 0), (Value.ref 104), (Value.bool Bool.true), (Value.int 181 0), (Value.ref 105), Value.none, (Value.ref 106), (Value.ref 107), (Value.ref 108), (Value.int 322 0), (Value.int 51 0), (Value.str (Str.ofString "/claim/cut.py") 323)]) #[])) ::
  ((nat_lit 110), (Obj.mk (Value.type "function") none (Data.func (FuncData.mk (Str.ofString "until_end") (Str.ofString "WordRow.until_end") fd110.ps (.stmts fd110.b) fd110.sc 3 [] Value.none Value.none Value.none (Value.str (Str.ofString "gateloom.dump") 263) none (Value.ref 109) Value.none 0)) #[])) ::
  ((nat_lit 111), (Obj.mk (Value.type "tuple") none (Data.seq #[(Value.str (Str.ofString "at") 325), (Value.str (Str.ofString "place") 326), (Value.str (Str.ofString "text") 327)] 0) #[])) ::
  ((nat_lit 112), (Obj.mk (Value.type "dict") none (Data.dict #[(DictEntry.mk (PyData.keyHash P (Str.ofString "__module__")) (Value.str (Str.ofString "__module__") 294) (Value.str (Str.ofString "gateloom.dump") 263)), (DictEntry.mk (PyData.keyHash P (Str.ofString "__firstlineno__")) (Value.str (Str.ofString "__firstlineno__") 298) (Value.int 35 297)), (DictEntry.mk (PyData.keyHash P (Str.ofString "__init__")) (Value.str (Str.ofString "__init__") 306) (Value.ref 96)), (DictEntry.mk (PyData.keyHash P (Str.ofString "take")) (Value.str (Str.ofString "take") 314) (Value.ref 103)), (DictEntry.mk (PyData.keyHash P (Str.ofString "until_end")) (Value.str (Str.ofString "until_end") 324) (Value.ref 110)), (DictEntry.mk (PyData.keyHash P (Str.ofString "__static_attributes__")) (Value.str (Str.ofString "__static_attributes__") 328) (Value.ref 111)), (DictEntry.mk (PyData.keyHash P (Str.ofString "__dict__")) (Value.str (Str.ofString "__dict__") 330) (Value.ref 114)), (DictEntry.mk (PyData.keyHash P (Str.ofString "__weakref__")) (Value.str (Str.ofString "__weakref__") 332) (Value.ref 115)), (DictEntry.mk (PyData.keyHash P (Str.ofString "__doc__")) (Value.str (Str.ofString "__doc__") 333) Value.none)] 4) #[])) ::
  ((nat_lit 113), (Obj.mk (Value.type "type") none (Data.cls (ClassData.mk (Str.ofString "WordRow") [(Value.type "object")] [(Value.ref 113), (Value.type "object")] 112 (Str.ofString "WordRow") Bool.true [] [] Bool.false none Bool.false)) #[none, none, (some (Value.str (Str.ofString "WordRow") 287)), (some (Value.str (Str.ofString "WordRow") 295)), (some (Value.builtin "object.__new__")), (some (Value.bool Bool.true))])) ::
  ((nat_lit 114), (Obj.mk (Value.type "getset_descriptor") none (Data.fields #[(Value.str (Str.ofString "__dict__") 329), (Value.ref 113), (Value.builtin "function.__dict__"), (Value.builtin "function.__dict__#set")]) #[])) ::
  ((nat_lit 115), (Obj.mk (Value.type "getset_descriptor") none (Data.fields #[(Value.str (Str.ofString "__weakref__") 331), (Value.ref 113), (Value.builtin "ExceptionGroup.__weakref__"), Value.none]) #[])) ::
  ((nat_lit 118), (Obj.mk (Value.type "tuple") none (Data.seq #[] 0) #[])) ::
  ((nat_lit 120), (Obj.mk (Value.type "tuple") none (Data.seq #[(Value.str (Str.ofString "word") 339), (Value.str (Str.ofString "at") 340), (Value.str (Str.ofString "sign") 341)] 0) #[])) ::
  ((nat_lit 121), (Obj.mk (Value.type "tuple") none (Data.seq #[] 0) #[])) ::
  ((nat_lit 123), (Obj.mk (Value.type "code") none (Data.fields #[(Value.str (Str.ofString "whole_number") 336), (Value.str (Str.ofString "whole_number") 337), (Value.str (Str.ofString "/claim/cut.py") 338), (Value.int 61 0), (Value.int 2 0), (Value.int 0 0), (Value.int 0 0), (Value.int 3 0), (Value.ref 118), (Value.bool Bool.true), (Value.int 181 0), (Value.ref 119), Value.none, (Value.ref 120), (Value.ref 121), (Value.ref 122), (Value.int 342 0), (Value.int 61 0), (Value.str (Str.ofString "/claim/cut.py") 343)]) #[])) ::
  ((nat_lit 124), (Obj.mk (Value.type "function") none (Data.func (FuncData.mk (Str.ofString "whole_number") (Str.ofString "whole_number") fd124.ps (.stmts fd124.b) fd124.sc 3 [] Value.none Value.none Value.none (Value.str (Str.ofString "gateloom.dump") 263) none (Value.ref 123) Value.none 0)) #[])) ::
  ((nat_lit 132), (Obj.mk (Value.type "tuple") none (Data.seq #[] 0) #[])) ::
  ((nat_lit 134), (Obj.mk (Value.type "tuple") none (Data.seq #[(Value.str (Str.ofString "self") 360), (Value.str (Str.ofString "text") 361)] 0) #[])) ::
  ((nat_lit 135), (Obj.mk (Value.type "tuple") none (Data.seq #[] 0) #[])) ::
  ((nat_lit 137), (Obj.mk (Value.type "code") none (Data.fields #[(Value.str (Str.ofString "__init__") 357), (Value.str (Str.ofString "DumpReader.__init__") 358), (Value.str (Str.ofString "/claim/cut.py") 359), (Value.int 70 0), (Value.int 2 0), (Value.int 0 0), (Value.int 0 0), (Value.int 3 0), (Value.ref 132), (Value.bool Bool.true), (Value.int 181 0), (Value.ref 133), Value.none, (Value.ref 134), (Value.ref 135), (Value.ref 136), (Value.int 362 0), (Value.int 70 0), (Value.str (Str.ofString "/claim/cut.py") 363)]) #[])) ::
  ((nat_lit 138), (Obj.mk (Value.type "function") none (Data.func (FuncData.mk (Str.ofString "__init__") (Str.ofString "DumpReader.__init__") fd138.ps (.stmts fd138.b) fd138.sc 3 [] Value.none Value.none Value.none (Value.str (Str.ofString "gateloom.dump") 263) none (Value.ref 137) Value.none 0)) #[])) ::
  ((nat_lit 139), (Obj.mk (Value.type "tuple") none (Data.seq #[] 0) #[])) ::
  ((nat_lit 141), (Obj.mk (Value.type "tuple") none (Data.seq #[(Value.str (Str.ofString "self") 368), (Value.str (Str.ofString "word") 369), (Value.str (Str.ofString "at") 370)] 0) #[])) ::
  ((nat_lit 142), (Obj.mk (Value.type "tuple") none (Data.seq #[] 0) #[])) ::
  ((nat_lit 144), (Obj.mk (Value.type "code") none (Data.fields #[(Value.str (Str.ofString "declarations") 365), (Value.str (Str.ofString "DumpReader.declarations") 366), (Value.str (Str.ofString "/claim/cut.py") 367), (Value.int 79 0), (Value.int 1 0), (Value.int 0 0), (Value.int 0 0), (Value.int 3 0), (Value.ref 139), (Value.bool Bool.true), (Value.int 181 0), (Value.ref 140), Value.none, (Value.ref 141), (Value.ref 142), (Value.ref 143), (Value.int 371 0), (Value.int 79 0), (Value.str (Str.ofString "/claim/cut.py") 372)]) #[])) ::
  ((nat_lit 145), (Obj.mk (Value.type "function") none (Data.func (FuncData.mk (Str.ofString "declarations") (Str.ofString "DumpReader.declarations") fd145.ps (.stmts fd145.b) fd145.sc 3 [] Value.none Value.none Value.none (Value.str (Str.ofString "gateloom.dump") 263) none (Value.ref 144) Value.none 0)) #[])) ::
  ((nat_lit 146), (Obj.mk (Value.type "tuple") none (Data.seq #[] 0) #[])) ::
  ((nat_lit 148), (Obj.mk (Value.type "tuple") none (Data.seq #[(Value.str (Str.ofString "self") 377), (Value.str (Str.ofString "word") 378), (Value.str (Str.ofString "at") 379), (Value.str (Str.ofString "parts") 380)] 0) #[])) ::
  ((nat_lit 149), (Obj.mk (Value.type "tuple") none (Data.seq #[] 0) #[])) ::
  ((nat_lit 151), (Obj.mk (Value.type "code") none (Data.fields #[(Value.str (Str.ofString "command") 374), (Value.str (Str.ofString "DumpReader.command") 375), (Value.str (Str.ofString "/claim/cut.py") 376), (Value.int 91 0), (Value.int 4 0), (Value.int 0 0), (Value.int 0 0), (Value.int 3 0), (Value.ref 146), (Value.bool Bool.true), (Value.int 181 0), (Value.ref 147), Value.none, (Value.ref 148), (Value.ref 149), (Value.ref 150), (Value.int 381 0), (Value.int 91 0), (Value.str (Str.ofString "/claim/cut.py") 382)]) #[])) ::
  ((nat_lit 152), (Obj.mk (Value.type "function") none (Data.func (FuncData.mk (Str.ofString "command") (Str.ofString "DumpReader.command") fd152.ps (.stmts fd152.b) fd152.sc 3 [] Value.none Value.none Value.none (Value.str (Str.ofString "gateloom.dump") 263) none (Value.ref 151) Value.none 0)) #[])) ::
  ((nat_lit 153), (Obj.mk (Value.type "tuple") none (Data.seq #[] 0) #[])) ::
  ((nat_lit 155), (Obj.mk (Value.type "tuple") none (Data.seq #[(Value.str (Str.ofString "self") 387), (Value.str (Str.ofString "at") 388), (Value.str (Str.ofString "parts") 389), (Value.str (Str.ofString "width") 390), (Value.str (Str.ofString "name") 391), (Value.str (Str.ofString "path") 392)] 0) #[])) ::
  ((nat_lit 156), (Obj.mk (Value.type "tuple") none (Data.seq #[] 0) #[])) ::
  ((nat_lit 158), (Obj.mk (Value.type "code") none (Data.fields #[(Value.str (Str.ofString "variable") 384), (Value.str (Str.ofString "DumpReader.variable") 385), (Value.str (Str.ofString "/claim/cut.py") 386), (Value.int 107 0), (Value.int 3 0), (Value.int 0 0), (Value.int 0 0), (Value.int 3 0), (Value.ref 153), (Value.bool Bool.true), (Value.int 181 0), (Value.ref 154), Value.none, (Value.ref 155), (Value.ref 156), (Value.ref 157), (Value.int 393 0), (Value.int 107 0), (Value.str (Str.ofString "/claim/cut.py") 394)]) #[])) ::
  ((nat_lit 159), (Obj.mk (Value.type "function") none (Data.func (FuncData.mk (Str.ofString "variable") (Str.ofString "DumpReader.variable") fd159.ps (.stmts fd159.b) fd159.sc 3 [] Value.none Value.none Value.none (Value.str (Str.ofString "gateloom.dump") 263) none (Value.ref 158) Value.none 0)) #[])) ::
  ((nat_lit 160), (Obj.mk (Value.type "tuple") none (Data.seq #[] 0) #[])) ::
  ((nat_lit 162), (Obj.mk (Value.type "tuple") none (Data.seq #[(Value.str (Str.ofString "self") 399), (Value.str (Str.ofString "word") 400), (Value.str (Str.ofString "at") 401), (Value.str (Str.ofString "time") 402)] 0) #[])) ::
  ((nat_lit 163), (Obj.mk (Value.type "tuple") none (Data.seq #[] 0) #[])) ::
  ((nat_lit 165), (Obj.mk (Value.type "code") none (Data.fields #[(Value.str (Str.ofString "value_changes") 396), (Value.str (Str.ofString "DumpReader.value_changes") 397), (Value.str (Str.ofString "/claim/cut.py") 398), (Value.int 118 0), (Value.int 1 0), (Value.int 0 0), (Value.int 0 0), (Value.int 3 0), (Value.ref 160), (Value.bool Bool.true), (Value.int 181 0), (Value.ref 161), Value.none, (Value.ref 162), (Value.ref 163), (Value.ref 164), (Value.int 403 0), (Value.int 118 0), (Value.str (Str.ofString "/claim/cut.py") 404)]) #[])) ::
  ((nat_lit 166), (Obj.mk (Value.type "function") none (Data.func (FuncData.mk (Str.ofString "value_changes") (Str.ofString "DumpReader.value_changes") fd166.ps (.stmts fd166.b) fd166.sc 3 [] Value.none Value.none Value.none (Value.str (Str.ofString "gateloom.dump") 263) none (Value.ref 165) Value.none 0)) #[])) ::
  ((nat_lit 167), (Obj.mk (Value.type "tuple") none (Data.seq #[] 0) #[])) ::
  ((nat_lit 169), (Obj.mk (Value.type "tuple") none (Data.seq #[(Value.str (Str.ofString "self") 409), (Value.str (Str.ofString "digits") 410), (Value.str (Str.ofString "name") 411), (Value.str (Str.ofString "at") 412), (Value.str (Str.ofString "width") 413), (Value.str (Str.ofString "sign") 414), (Value.str (Str.ofString "value") 415)] 0) #[])) ::
  ((nat_lit 170), (Obj.mk (Value.type "tuple") none (Data.seq #[] 0) #[])) ::
  ((nat_lit 172), (Obj.mk (Value.type "code") none (Data.fields #[(Value.str (Str.ofString "change") 406), (Value.str (Str.ofString "DumpReader.change") 407), (Value.str (Str.ofString "/claim/cut.py") 408), (Value.int 139 0), (Value.int 4 0), (Value.int 0 0), (Value.int 0 0), (Value.int 3 0), (Value.ref 167), (Value.bool Bool.true), (Value.int 181 0), (Value.ref 168), Value.none, (Value.ref 169), (Value.ref 170), (Value.ref 171), (Value.int 416 0), (Value.int 139 0), (Value.str (Str.ofString "/claim/cut.py") 417)]) #[])) ::
  ((nat_lit 173), (Obj.mk (Value.type "function") none (Data.func (FuncData.mk (Str.ofString "change") (Str.ofString "DumpReader.change") fd173.ps (.stmts fd173.b) fd173.sc 3 [] Value.none Value.none Value.none (Value.str (Str.ofString "gateloom.dump") 263) none (Value.ref 172) Value.none 0)) #[])) ::
  ((nat_lit 174), (Obj.mk (Value.type "tuple") none (Data.seq #[(Value.str (Str.ofString "changes") 419), (Value.str (Str.ofString "now") 420), (Value.str (Str.ofString "scale") 421), (Value.str (Str.ofString "scopes") 422), (Value.str (Str.ofString "variables") 423), (Value.str (Str.ofString "widths") 424), (Value.str (Str.ofString "words") 425)] 0) #[])) ::
  ((nat_lit 175), (Obj.mk (Value.type "dict") none (Data.dict #[(DictEntry.mk (PyData.keyHash P (Str.ofString "__module__")) (Value.str (Str.ofString "__module__") 352) (Value.str (Str.ofString "gateloom.dump") 263)), (DictEntry.mk (PyData.keyHash P (Str.ofString "__firstlineno__")) (Value.str (Str.ofString "__firstlineno__") 356) (Value.int 68 355)), (DictEntry.mk (PyData.keyHash P (Str.ofString "__init__")) (Value.str (Str.ofString "__init__") 364) (Value.ref 138)), (DictEntry.mk (PyData.keyHash P (Str.ofString "declarations")) (Value.str (Str.ofString "declarations") 373) (Value.ref 145)), (DictEntry.mk (PyData.keyHash P (Str.ofString "command")) (Value.str (Str.ofString "command") 383) (Value.ref 152)), (DictEntry.mk (PyData.keyHash P (Str.ofString "variable")) (Value.str (Str.ofString "variable") 395) (Value.ref 159)), (DictEntry.mk (PyData.keyHash P (Str.ofString "value_changes")) (Value.str (Str.ofString "value_changes") 405) (Value.ref 166)), (DictEntry.mk (PyData.keyHash P (Str.ofString "change")) (Value.str (Str.ofString "change") 418) (Value.ref 173)), (DictEntry.mk (PyData.keyHash P (Str.ofString "__static_attributes__")) (Value.str (Str.ofString "__static_attributes__") 426) (Value.ref 174)), (DictEntry.mk (PyData.keyHash P (Str.ofString "__dict__")) (Value.str (Str.ofString "__dict__") 428) (Value.ref 177)), (DictEntry.mk (PyData.keyHash P (Str.ofString "__weakref__")) (Value.str (Str.ofString "__weakref__") 430) (Value.ref 178)), (DictEntry.mk (PyData.keyHash P (Str.ofString "__doc__")) (Value.str (Str.ofString "__doc__") 431) Value.none)] 4) #[])) ::
  ((nat_lit 176), (Obj.mk (Value.type "type") none (Data.cls (ClassData.mk (Str.ofString "DumpReader") [(Value.type "object")] [(Value.ref 176), (Value.type "object")] 175 (Str.ofString "DumpReader") Bool.true [] [] Bool.false none Bool.false)) #[none, none, (some (Value.str (Str.ofString "DumpReader") 345)), (some (Value.str (Str.ofString "DumpReader") 353)), (some (Value.builtin "object.__new__")), (some (Value.bool Bool.true))])) ::
  ((nat_lit 177), (Obj.mk (Value.type "getset_descriptor") none (Data.fields #[(Value.str (Str.ofString "__dict__") 427), (Value.ref 176), (Value.builtin "function.__dict__"), (Value.builtin "function.__dict__#set")]) #[])) ::
  ((nat_lit 178), (Obj.mk (Value.type "getset_descriptor") none (Data.fields #[(Value.str (Str.ofString "__weakref__") 429), (Value.ref 176), (Value.builtin "ExceptionGroup.__weakref__"), Value.none]) #[])) ::
  ((nat_lit 181), (Obj.mk (Value.type "tuple") none (Data.seq #[] 0) #[])) ::
  ((nat_lit 183), (Obj.mk (Value.type "tuple") none (Data.seq #[(Value.str (Str.ofString "text") 437), (Value.str (Str.ofString "reader") 438)] 0) #[])) ::
  ((nat_lit 184), (Obj.mk (Value.type "tuple") none (Data.seq #[] 0) #[])) ::
  ((nat_lit 186), (Obj.mk (Value.type "code") none (Data.fields #[(Value.str (Str.ofString "read_dump") 434), (Value.str (Str.ofString "read_dump") 435), (Value.str (Str.ofString "/claim/cut.py") 436), (Value.int 150 0), (Value.int 1 0), (Value.int 0 0), (Value.int 0 0), (Value.int 3 0), (Value.ref 181), (Value.bool Bool.true), (Value.int 181 0), (Value.ref 182), Value.none, (Value.ref 183), (Value.ref 184), (Value.ref 185), (Value.int 439 0), (Value.int 150 0), (Value.str (Str.ofString "/claim/cut.py") 440)]) #[])) ::
  ((nat_lit 187), (Obj.mk (Value.type "function") none (Data.func (FuncData.mk (Str.ofString "read_dump") (Str.ofString "read_dump") fd187.ps (.stmts fd187.b) fd187.sc 3 [] Value.none Value.none Value.none (Value.str (Str.ofString "gateloom.dump") 263) none (Value.ref 186) Value.none 0)) #[])) ::
  ((nat_lit 188), (Obj.mk (Value.type "tuple") none (Data.seq #[] 0) #[])) ::
  ((nat_lit 190), (Obj.mk (Value.type "tuple") none (Data.seq #[(Value.str (Str.ofString "jar") 447), (Value.str (Str.ofString "count") 448), (Value.str (Str.ofString "cell") 449), (Value.str (Str.ofString "low") 450), (Value.str (Str.ofString "got") 451)] 0) #[])) ::
  ((nat_lit 191), (Obj.mk (Value.type "tuple") none (Data.seq #[] 0) #[])) ::
  ((nat_lit 193), (Obj.mk (Value.type "code") none (Data.fields #[(Value.str (Str.ofString "_law_draw") 444), (Value.str (Str.ofString "_law_draw") 445), (Value.str (Str.ofString "/claim/cut.py") 446), (Value.int 156 0), (Value.int 2 0), (Value.int 0 0), (Value.int 0 0), (Value.int 3 0), (Value.ref 188), (Value.bool Bool.true), (Value.int 181 0), (Value.ref 189), Value.none, (Value.ref 190), (Value.ref 191), (Value.ref 192), (Value.int 452 0), (Value.int 156 0), (Value.str (Str.ofString "/claim/cut.py") 453)]) #[])) ::
  ((nat_lit 194), (Obj.mk (Value.type "function") none (Data.func (FuncData.mk (Str.ofString "_law_draw") (Str.ofString "_law_draw") fd194.ps (.stmts fd194.b) fd194.sc 3 [] Value.none Value.none Value.none (Value.str (Str.ofString "law_on0102_01") 442) none (Value.ref 193) Value.none 0)) #[])) ::
  ((nat_lit 195), (Obj.mk (Value.type "tuple") none (Data.seq #[] 0) #[])) ::
  ((nat_lit 197), (Obj.mk (Value.type "tuple") none (Data.seq #[] 0) #[])) ::
  ((nat_lit 198), (Obj.mk (Value.type "tuple") none (Data.seq #[] 0) #[])) ::
  ((nat_lit 200), (Obj.mk (Value.type "code") none (Data.fields #[(Value.str (Str.ofString "_law_wrong") 455), (Value.str (Str.ofString "_law_wrong") 456), (Value.str (Str.ofString "/claim/cut.py") 457), (Value.int 170 0), (Value.int 0 0), (Value.int 0 0), (Value.int 0 0), (Value.int 3 0), (Value.ref 195), (Value.bool Bool.true), (Value.int 181 0), (Value.ref 196), Value.none, (Value.ref 197), (Value.ref 198), (Value.ref 199), (Value.int 458 0), (Value.int 170 0), (Value.str (Str.ofString "/claim/cut.py") 459)]) #[])) ::
  ((nat_lit 201), (Obj.mk (Value.type "function") none (Data.func (FuncData.mk (Str.ofString "_law_wrong") (Str.ofString "_law_wrong") fd201.ps (.stmts fd201.b) fd201.sc 3 [] Value.none Value.none Value.none (Value.str (Str.ofString "law_on0102_01") 442) none (Value.ref 200) Value.none 0)) #[])) ::
  ((nat_lit 202), (Obj.mk (Value.type "tuple") none (Data.seq #[] 0) #[])) ::
  ((nat_lit 204), (Obj.mk (Value.type "tuple") none (Data.seq #[(Value.str (Str.ofString "first") 464), (Value.str (Str.ofString "second") 465)] 0) #[])) ::
  ((nat_lit 205), (Obj.mk (Value.type "tuple") none (Data.seq #[] 0) #[])) ::
  ((nat_lit 207), (Obj.mk (Value.type "code") none (Data.fields #[(Value.str (Str.ofString "_law_groups") 461), (Value.str (Str.ofString "_law_groups") 462), (Value.str (Str.ofString "/claim/cut.py") 463), (Value.int 172 0), (Value.int 2 0), (Value.int 0 0), (Value.int 0 0), (Value.int 3 0), (Value.ref 202), (Value.bool Bool.true), (Value.int 181 0), (Value.ref 203), Value.none, (Value.ref 204), (Value.ref 205), (Value.ref 206), (Value.int 466 0), (Value.int 172 0), (Value.str (Str.ofString "/claim/cut.py") 467)]) #[])) ::
  ((nat_lit 208), (Obj.mk (Value.type "function") none (Data.func (FuncData.mk (Str.ofString "_law_groups") (Str.ofString "_law_groups") fd208.ps (.stmts fd208.b) fd208.sc 3 [] Value.none Value.none Value.none (Value.str (Str.ofString "law_on0102_01") 442) none (Value.ref 207) Value.none 0)) #[])) ::
  ((nat_lit 209), (Obj.mk (Value.type "tuple") none (Data.seq #[] 0) #[])) ::
  ((nat_lit 211), (Obj.mk (Value.type "tuple") none (Data.seq #[(Value.str (Str.ofString "jar") 472), (Value.str (Str.ofString "groups") 473), (Value.str (Str.ofString "total") 474), (Value.str (Str.ofString "spots") 475), (Value.str (Str.ofString "group") 476), (Value.str (Str.ofString "word") 477)] 0) #[])) ::
  ((nat_lit 212), (Obj.mk (Value.type "tuple") none (Data.seq #[] 0) #[])) ::
  ((nat_lit 214), (Obj.mk (Value.type "code") none (Data.fields #[(Value.str (Str.ofString "_law_joined") 469), (Value.str (Str.ofString "_law_joined") 470), (Value.str (Str.ofString "/claim/cut.py") 471), (Value.int 174 0), (Value.int 2 0), (Value.int 0 0), (Value.int 0 0), (Value.int 3 0), (Value.ref 209), (Value.bool Bool.true), (Value.int 181 0), (Value.ref 210), Value.none, (Value.ref 211), (Value.ref 212), (Value.ref 213), (Value.int 478 0), (Value.int 174 0), (Value.str (Str.ofString "/claim/cut.py") 479)]) #[])) ::
  ((nat_lit 215), (Obj.mk (Value.type "function") none (Data.func (FuncData.mk (Str.ofString "_law_joined") (Str.ofString "_law_joined") fd215.ps (.stmts fd215.b) fd215.sc 3 [] Value.none Value.none Value.none (Value.str (Str.ofString "law_on0102_01") 442) none (Value.ref 214) Value.none 0)) #[])) ::
  ((nat_lit 216), (Obj.mk (Value.type "tuple") none (Data.seq #[] 0) #[])) ::
  ((nat_lit 218), (Obj.mk (Value.type "tuple") none (Data.seq #[(Value.str (Str.ofString "total") 484), (Value.str (Str.ofString "fault") 485)] 0) #[])) ::
  ((nat_lit 219), (Obj.mk (Value.type "tuple") none (Data.seq #[] 0) #[])) ::
  ((nat_lit 221), (Obj.mk (Value.type "code") none (Data.fields #[(Value.str (Str.ofString "_law_read") 481), (Value.str (Str.ofString "_law_read") 482), (Value.str (Str.ofString "/claim/cut.py") 483), (Value.int 182 0), (Value.int 1 0), (Value.int 0 0), (Value.int 0 0), (Value.int 3 0), (Value.ref 216), (Value.bool Bool.true), (Value.int 181 0), (Value.ref 217), Value.none, (Value.ref 218), (Value.ref 219), (Value.ref 220), (Value.int 486 0), (Value.int 182 0), (Value.str (Str.ofString "/claim/cut.py") 487)]) #[])) ::
  ((nat_lit 222), (Obj.mk (Value.type "function") none (Data.func (FuncData.mk (Str.ofString "_law_read") (Str.ofString "_law_read") fd222.ps (.stmts fd222.b) fd222.sc 3 [] Value.none Value.none Value.none (Value.str (Str.ofString "law_on0102_01") 442) none (Value.ref 221) Value.none 0)) #[])) ::
  ((nat_lit 223), (Obj.mk (Value.type "tuple") none (Data.seq #[] 0) #[])) ::
  ((nat_lit 225), (Obj.mk (Value.type "tuple") none (Data.seq #[(Value.str (Str.ofString "script") 492), (Value.str (Str.ofString "jar") 493), (Value.str (Str.ofString "digits") 494), (Value.str (Str.ofString "first") 495), (Value.str (Str.ofString "second") 496), (Value.str (Str.ofString "groups") 497), (Value.str (Str.ofString "total") 498), (Value.str (Str.ofString "spots") 499), (Value.str (Str.ofString "names_due") 500), (Value.str (Str.ofString "due") 501), (Value.str (Str.ofString "pick") 502), (Value.str (Str.ofString "piece") 503), (Value.str (Str.ofString "beside") 504), (Value.str (Str.ofString "kind") 505), (Value.str (Str.ofString "detail") 506), (Value.str (Str.ofString "low") 507), (Value.str (Str.ofString "high") 508), (Value.str (Str.ofString "turn") 509), (Value.str (Str.ofString "worse") 510)] 0) #[])) ::
  ((nat_lit 226), (Obj.mk (Value.type "tuple") none (Data.seq #[] 0) #[])) ::
  ((nat_lit 228), (Obj.mk (Value.type "code") none (Data.fields #[(Value.str (Str.ofString "law") 489), (Value.str (Str.ofString "law") 490), (Value.str (Str.ofString "/claim/cut.py") 491), (Value.int 187 0), (Value.int 1 0), (Value.int 0 0), (Value.int 0 0), (Value.int 3 0), (Value.ref 223), (Value.bool Bool.true), (Value.int 181 0), (Value.ref 224), Value.none, (Value.ref 225), (Value.ref 226), (Value.ref 227), (Value.int 511 0), (Value.int 187 0), (Value.str (Str.ofString "/claim/cut.py") 512)]) #[])) ::
  ((nat_lit 229), (Obj.mk (Value.type "function") none (Data.func (FuncData.mk (Str.ofString "law") (Str.ofString "law") fd229.ps (.stmts fd229.b) fd229.sc 3 [] Value.none Value.none Value.none (Value.str (Str.ofString "law_on0102_01") 442) none (Value.ref 228) Value.none 0)) #[])) :: []
noncomputable def hd.addrs : List Addr := [nat_lit 2, nat_lit 3, nat_lit 15, nat_lit 22, nat_lit 23, nat_lit 25, nat_lit 26, nat_lit 28, nat_lit 29, nat_lit 30, nat_lit 31, nat_lit 32, nat_lit 33, nat_lit 36, nat_lit 43, nat_lit 44, nat_lit 45, nat_lit 48, nat_lit 50, nat_lit 51, nat_lit 53, nat_lit 54, nat_lit 55, nat_lit 57, nat_lit 58, nat_lit 60, nat_lit 61, nat_lit 62, nat_lit 64, nat_lit 65, nat_lit 67, nat_lit 68, nat_lit 69, nat_lit 71, nat_lit 72, nat_lit 74, nat_lit 75, nat_lit 76, nat_lit 78, nat_lit 79, nat_lit 81, nat_lit 82, nat_lit 90, nat_lit 92, nat_lit 93, nat_lit 95, nat_lit 96, nat_lit 97, nat_lit 99, nat_lit 100, nat_lit 102, nat_lit 103, nat_lit 104, nat_lit 106, nat_lit 107, nat_lit 109, nat_lit 110, nat_lit 111, nat_lit 112, nat_lit 113, nat_lit 114, nat_lit 115, nat_lit 118, nat_lit 120, nat_lit 121, nat_lit 123, nat_lit 124, nat_lit 132, nat_lit 134, nat_lit 135, nat_lit 137, nat_lit 138, nat_lit 139, nat_lit 141, nat_lit 142, nat_lit 144, nat_lit 145, nat_lit 146, nat_lit 148, nat_lit 149, nat_lit 151, nat_lit 152, nat_lit 153, nat_lit 155, nat_lit 156, nat_lit 158, nat_lit 159, nat_lit 160, nat_lit 162, nat_lit 163, nat_lit 165, nat_lit 166, nat_lit 167, nat_lit 169, nat_lit 170, nat_lit 172, nat_lit 173, nat_lit 174, nat_lit 175, nat_lit 176, nat_lit 177, nat_lit 178, nat_lit 181, nat_lit 183, nat_lit 184, nat_lit 186, nat_lit 187, nat_lit 188, nat_lit 190, nat_lit 191, nat_lit 193, nat_lit 194, nat_lit 195, nat_lit 197, nat_lit 198, nat_lit 200, nat_lit 201, nat_lit 202, nat_lit 204, nat_lit 205, nat_lit 207, nat_lit 208, nat_lit 209, nat_lit 211, nat_lit 212, nat_lit 214, nat_lit 215, nat_lit 216, nat_lit 218, nat_lit 219, nat_lit 221, nat_lit 222, nat_lit 223, nat_lit 225, nat_lit 226, nat_lit 228, nat_lit 229]
noncomputable def hd.view_39 : Program := PySem.W.view PySem.Challenge.pw_on0102_01 [1, 2, 4, 5, 7, 8, 9, 10, 11, 12, 13, 15, 16, 17, 18, 19, 20]
theorem hd.keys (P : Params) : hd.addrs = (hd.heap_39 P).map (·.1) := by kernel_rfl
noncomputable abbrev hd.hook : Hook := kHook hd.heap_39 hd.addrs hd.keys

theorem hd.said : PySem.Challenge.rw_on0102_01.wellSaid = true := by
  rw [PySem.W.Fast.te9446332074065402090]
  kernel_rfl
theorem left_of {p q : Program} {loose : List Str} {Xt : Shared → Bool} {α : Type} {Yf : Shared → α} {Ya : World → α} {N : Nat} {H₀ : Params → Heap} {gs₀ : Array GenState} {d₀ : Drawn} {k₀ m₀ M : Nat} {ann : Option Value}
    (h0 : ∀ w : World, (fencedOpening treeTable p w N).map (fun s => (s.heap, s.gens, s.drawn, s.toks)) = some (H₀ w.params, gs₀, d₀, k₀))
    (h1 : ∀ w : World, ((H₀ w.params).isNs mainGlobals && gs₀.size == 0, (H₀ w.params).objs.size, (H₀ w.params).nsMap mainGlobals "__annotations__") = (true, m₀, ann))
    (hM : Nat.ble M N = true)
    (h : ∀ (w : World) (os : OsState), (topRun treeTable p w m₀ ann M ⟨H₀ w.params, gs₀, d₀, k₀, os⟩ (topStub p)).map (fun s =>
      (staticsOk (importedModules p.main.body) (H₀ w.params) s.heap && namesBound p s.heap && gensDone s && laidKept (H₀ w.params) s.heap, openSeen q loose (importedModules p.main.body) Xt true s, Yf s)) = some (true, openGood q loose, Ya w)) :
    LeftO p q loose Xt Yf Ya N := fun w => by
  obtain ⟨s0, e, e'⟩ := Option.map_eq_some_iff.mp (h0 w)
  obtain ⟨hp, gs, d, k, os⟩ := s0
  simp only [Prod.mk.injEq] at e'
  obtain ⟨rfl, rfl, rfl, rfl⟩ := e'
  obtain ⟨z1, z2, z3⟩ : _ ∧ _ ∧ _ := by simpa only [Prod.mk.injEq] using h1 w
  obtain ⟨s, r, hs⟩ := Option.map_eq_some_iff.mp (h w os)
  obtain ⟨l1, l2⟩ := Prod.mk.inj hs
  have r := topRun_mono (N - M) _ _ _ _ r
  rw [show M + (N - M) = N by have := Nat.le_of_ble_eq_true hM; omega] at r
  have t : topFrom treeTable p w N ⟨H₀ w.params, gs, d, k, os⟩ = some s := by
    unfold topFrom
    dsimp only
    rw [z1, z2, z3, r]
    dsimp only [Option.bind]
    rw [l1]
  unfold openEnds
  rw [e]
  show (topFrom treeTable p w N _).map _ = _
  rw [t]
  exact congrArg some l2

theorem hd.opens (w : World) : (fencedOpening treeTable pg w 3318).map (fun s => (s.heap, s.gens, s.drawn, s.toks)) = some (boot_heap w.params, Array.mk [], boot_drawn, boot_toks) :=
  boot_open (p := pg) (by kernel_rfl) (by decide) (fun _ => by kernel_rfl) w
theorem hd.sizes (w : World) : ((boot_heap w.params).isNs mainGlobals && (Array.mk [] : Array GenState).size == 0, (boot_heap w.params).objs.size, (boot_heap w.params).nsMap mainGlobals "__annotations__") = (true, 11, some (Value.ref 6)) := by kernel_rfl
theorem hd.runs (w : World) (os : OsState) : (topRun treeTable pg w 11 (some (Value.ref 6)) 1616 ⟨boot_heap w.params, Array.mk [], boot_drawn, boot_toks, os⟩ (topStub pg)).map (fun s =>
    (staticsOk (importedModules pg.main.body) (boot_heap w.params) s.heap && namesBound pg s.heap && gensDone s && laidKept (boot_heap w.params) s.heap,
     openSeen hd.view_39 [Str.ofString "GateloomError"] (importedModules pg.main.body) (fun s => xlAt hd.view_39 [] s && recOk PySem.Challenge.rw_on0102_01.row.records s) true s, hd.hook.obs s)) =
    some (true, openGood hd.view_39 [Str.ofString "GateloomError"], hd.hook.val w) := by
  rw [PySem.W.Fast.te14082659384304107361, PySem.W.Fast.te14364793385576792824, PySem.W.Fast.te4187177175401517315, PySem.W.Fast.te5923862056798008813]
  kernel_rfl
theorem hd.left : LeftO pg hd.view_39 [Str.ofString "GateloomError"] (fun s => xlAt hd.view_39 [] s && recOk PySem.Challenge.rw_on0102_01.row.records s) hd.hook.obs hd.hook.val 3318 :=
  left_of hd.opens hd.sizes (by decide) hd.runs
theorem hd {d : DefRec} {kwd : List (Str × PySem.Expr)} (hdef : defOf hd.view_39 PySem.Challenge.rw_on0102_01.row.toRowW.name = some (d, kwd)) (hp : pg.theDef PySem.Challenge.rw_on0102_01.row.toRowW.name = some (d.params, d.body, d.scope)) (hk : kwWritten? d.params.kwonlyargs d.params.kw_defaults = some kwd)
    (walk : WalkO hd.view_39 [Str.ofString "GateloomError"] (XL hd.view_39 []) (kHook hd.heap_39 hd.addrs hd.keys).says PySem.Challenge.rw_on0102_01.row.toRowW d kwd fun f vs => PySem.call f vs) : PySem.Challenge.rw_on0102_01.Holds := by
  refine holds_law hd.said fun said => ?_
  refine holds_open (q := hd.view_39) (loose := [Str.ofString "GateloomError"]) (Xt := fun s => xlAt hd.view_39 [] s && recOk PySem.Challenge.rw_on0102_01.row.records s) (XP := XL hd.view_39 []) (Yf := hd.hook.obs) (Ya := hd.hook.val) (YP := hd.hook.says) (N := 3318) hd.left
    hd.hook.of hd.hook.keeps (fun s e => xl_of s (Bool.and_eq_true_iff.mp e).1) XL.keeps hdef hp hk (fun s e => recFacts_of (Bool.and_eq_true_iff.mp e).2) rfl said (by decide +kernel) ⟨rfl, rfl, rfl, rfl, rfl, by decide +kernel⟩ ?hw walk
  case hw => w_witness2
end Mine
end
section
open PySem PySem.W
local macro_rules | `(tactic| walk_at $s:str) => `(tactic| k_extra $s)
local macro_rules | `(tactic| ktr_unf) => `(tactic| k_extra "ktr_unf")
local macro_rules | `(tactic| ktr_rel) => `(tactic| k_extra "ktr_rel")
local macro_rules | `(tactic| kwd_rel) => `(tactic| k_extra "kwd_rel")
local macro_rules | `(tactic| k_room) => `(tactic| k_extra "k_room")
local macro_rules | `(tactic| k_all) => `(tactic| k_extra "k_all")
local macro_rules | `(tactic| k_updF) => `(tactic| k_extra "k_updF")
section
open PySem PySem.W PySem.Calls PyProof.Rows PyProof.V PySem.Spec
set_option maxHeartbeats 20000000
namespace Mine
abbrev TopM (mean : ExcName → Option Value) (mg mb : Str → Option Value) (h : Heap) : Prop := Top hd.view_39 (looseW hd.view_39 [Str.ofString "GateloomError"]) mean mg mb h

/-- a def at address f, called with vs over the ledger news, gives r back and leaves a ledger as R says -/
def Rets (w : World) (f : Addr) (vs : List Value) (nd nu : Nat) (news : List (Addr × Obj)) (R : Value → List (Addr × Obj) → Prop) : Prop :=
  ∀ (mean : ExcName → Option Value) (mg mb : Str → Option Value) (dp un : Nat) (gd : Option (List Code)) (cn : Str) (cs : Scope) (a : Addr) (ccd : Value) (cl : List (Str × Addr)) (outer : List Env) (A₀ : Around) (base h₀ : Heap) (L : Addr) (m : Str → Option Value) (s : Shared) (Q E : Value → Shared → Prop),
    Below A₀ base outer h₀ → Fr h₀ L s.heap m → (Mine.hd.heap_39 w.params).In h₀ → News h₀ L s.heap news → TopM mean mg mb h₀ → cs.kind = .function → dp + nd < recursionLimit → un + nu < cLine →
    (∀ r news' h' tk', Fr h₀ L h' m → News h₀ L h' news' → R r news' → Q r { s with heap := h', toks := tk' }) →
    wpAny (model PySem.Challenge.rw_on0102_01.row.prog w) (ktrTop dp un gd cn cs L a ccd cl outer) (call (.ref f) vs) Q E s

/-- the WordRow's dict -/
def rowDict (P : Params) (k1 k2 k3 t1 t2 t3 : Tok) (T : Str) (p at' : Int) : Obj :=
  dictOf [⟨PyData.keyHash P (Str.ofString "text"), .str (Str.ofString "text") k1, .str T t1⟩,
          ⟨PyData.keyHash P (Str.ofString "place"), .str (Str.ofString "place") k2, .int p t2⟩,
          ⟨PyData.keyHash P (Str.ofString "at"), .str (Str.ofString "at") k3, .int at' t3⟩] 3
theorem hide0 {P : Prop} (h : ∀ G : Prop, (P → G) → G) : P := h P id
theorem hide1 {α : Type} {P : α → Prop} (a : α) (h : ∀ G : α → Prop, (∀ x, P x → G x) → G a) : P a := h P fun _ p => p
theorem hide2 {α β : Type} {P : α → β → Prop} (a : α) (b : β) (h : ∀ G : α → β → Prop, (∀ x y, P x y → G x y) → G a b) : P a b := h P fun _ _ p => p
theorem hide3 {α β γ : Type} {P : α → β → γ → Prop} (a : α) (b : β) (c : γ) (h : ∀ G : α → β → γ → Prop, (∀ x y z, P x y z → G x y z) → G a b c) : P a b c := h P fun _ _ _ p => p
theorem ex2 {α β : Type} {p : α → β → Prop} (a : α) (b : β) (h : p a b) : ∃ a b, p a b := ⟨a, b, h⟩
theorem ex3 {α β γ : Type} {p : α → β → γ → Prop} (a : α) (b : β) (c : γ) (h : p a b c) : ∃ a b c, p a b c := ⟨a, b, c, h⟩
theorem ex4 {α β γ δ : Type} {p : α → β → γ → δ → Prop} (a : α) (b : β) (c : γ) (d : δ) (h : p a b c d) : ∃ a b c d, p a b c d := ⟨a, b, c, d, h⟩
theorem ex5 {α β γ δ ε : Type} {p : α → β → γ → δ → ε → Prop} (a : α) (b : β) (c : γ) (d : δ) (e : ε) (h : p a b c d e) : ∃ a b c d e, p a b c d e := ⟨a, b, c, d, e, h⟩
theorem ex6 {α β γ δ ε ζ : Type} {p : α → β → γ → δ → ε → ζ → Prop} (a : α) (b : β) (c : γ) (d : δ) (e : ε) (f : ζ) (h : p a b c d e f) : ∃ a b c d e f, p a b c d e f := ⟨a, b, c, d, e, f, h⟩
/-- P's ends are Q's: stands in a walk's goal for a long continuation -/
def ImpF (P Q : Flow → Shared → Prop) : Prop := ∀ f s, P f s → Q f s
theorem ImpF.use {P Q : Flow → Shared → Prop} {f : Flow} {s : Shared} (h : ImpF P Q) (p : P f s) : Q f s := h f s p
/-- what the end of a turn of a while must show, for the next turn's word J and the word X behind the loop -/
structure Turn (h₀ : Heap) (L : Addr) (s : Shared) (J : Nat → (Str → Option Value) → List (Addr × Obj) → Prop) (X : (Str → Option Value) → List (Addr × Obj) → Prop) (n : Nat) (Q Qb Qx : Flow → Shared → Prop) : Prop where
  next : ∀ h' tk m news n', Fr h₀ L h' m → News h₀ L h' news → n' < n → J n' m news → Qb .next { s with heap := h', toks := tk }
  exit : ∀ h' tk m news, Fr h₀ L h' m → News h₀ L h' news → X m news → Qx .next { s with heap := h', toks := tk }
  brk : ∀ s', Q .next s' → Qb .brk s'
  ret : ∀ v s', Q (.ret v) s' → Qb (.ret v) s'
theorem While_q {prog : Program} {w : World} {A : Around} {E : Value → Shared → Prop} {Q : Flow → Shared → Prop} {s : Shared} {env : Env} {h₀ : Heap} {L : Addr} {test : PySem.Expr} {body : List Stmt} {pos : Pos} {m : Str → Option Value} {news : List (Addr × Obj)}
    (J : Nat → (Str → Option Value) → List (Addr × Obj) → Prop) (X : (Str → Option Value) → List (Addr × Obj) → Prop) {n₀ : Nat} (F : Fr h₀ L s.heap m) (N : News h₀ L s.heap news) (hJ : J n₀ m news)
    (turn : ∀ n Qb Qx, Turn h₀ L s J X n Q Qb Qx → ∀ G : (Str → Option Value) → List (Addr × Obj) → Heap → Nat → Prop, (∀ m₁ n₁ h₁ tk₁, (Fr h₀ L h₁ m₁ → News h₀ L h₁ n₁ →
      wpAny (model prog w) A (isTrue test env (eval test env)) (fun b s₂ => if b = true then wpAny (model prog w) A (execs body env) Qb E s₂ else Qx .next s₂) E { s with heap := h₁, toks := tk₁ }) → G m₁ n₁ h₁ tk₁) → ∀ m₁ n₁ h₁ tk₁, J n m₁ n₁ → G m₁ n₁ h₁ tk₁)
    (after : ∀ G : (Str → Option Value) → List (Addr × Obj) → Heap → Nat → Prop, (∀ m n h' tk, (Fr h₀ L h' m → News h₀ L h' n → Q .next { s with heap := h', toks := tk }) → G m n h' tk) → ∀ m n h' tk, X m n → G m n h' tk)
    (hE : PassesOwn (model prog w) A env E := by passes_own) : wpAny (model prog w) A (exec (.While test body [] pos) env) Q E s :=
  While_inv2 J F N hJ (fun n m₁ news₁ h₁ tk₁ F₁ N₁ J₁ => turn n (WhileStep2 h₀ L s J Q n) Q
    ⟨fun h' tk m nx n' a b c d => ⟨h', tk, m, nx, n', rfl, a, b, c, d⟩, fun h' tk m nx a b c => after (fun m n h' tk => Fr h₀ L h' m → News h₀ L h' n → Q .next { s with heap := h', toks := tk }) (fun _ _ _ _ p => p) m nx h' tk c a b, fun _ p => p, fun _ _ p => p⟩
    (fun m₁ n₁ h₁ tk₁ => Fr h₀ L h₁ m₁ → News h₀ L h₁ n₁ → wpAny (model prog w) A (isTrue test env (eval test env)) (fun b s₂ => if b = true then wpAny (model prog w) A (execs body env) (WhileStep2 h₀ L s J Q n) E s₂ else Q .next s₂) E { s with heap := h₁, toks := tk₁ })
    (fun _ _ _ _ p => p) m₁ news₁ h₁ tk₁ J₁ F₁ N₁) hE
/-- an int | a text | a bool is given back, nothing else is made -/
inductive SameI (k : Int) (news : List (Addr × Obj)) : Value → List (Addr × Obj) → Prop
  | mk (t : Tok) : SameI k news (.int k t) news
theorem SameI.out {v : Int} {news : List (Addr × Obj)} {G : Value → List (Addr × Obj) → Heap → Nat → Prop} (k : ∀ h' tk' (t : Tok), G (.int v t) news h' tk') : ∀ r n h' tk', SameI v news r n → G r n h' tk' := by
  intro r n h' tk' h
  cases h
  exact k _ _ _
inductive SameS (T : Str) (news : List (Addr × Obj)) : Value → List (Addr × Obj) → Prop
  | mk (t : Tok) : SameS T news (.str T t) news
theorem SameS.out {T : Str} {news : List (Addr × Obj)} {G : Value → List (Addr × Obj) → Heap → Nat → Prop} (k : ∀ h' tk' (t : Tok), G (.str T t) news h' tk') : ∀ r n h' tk', SameS T news r n → G r n h' tk' := by
  intro r n h' tk' h
  cases h
  exact k _ _ _
inductive SameB (b : Bool) (news : List (Addr × Obj)) : Value → List (Addr × Obj) → Prop
  | mk : SameB b news (.bool b) news
theorem SameB.out {b : Bool} {news : List (Addr × Obj)} {G : Value → List (Addr × Obj) → Heap → Nat → Prop} (k : ∀ h' tk', G (.bool b) news h' tk') : ∀ r n h' tk', SameB b news r n → G r n h' tk' := by
  intro r n h' tk' h
  cases h
  exact k _ _ 

end Mine
end
section
open PySem PySem.W PySem.Calls PyProof.Rows PyProof.V PySem.Spec
set_option maxHeartbeats 20000000
namespace Mine
abbrev feMro : List Value := [.ref 32, .type "Exception", .type "BaseException", .type "object"]
abbrev feCls : Obj := excClassObj (Str.ofString "FormatError") (Str.ofString "FormatError") 45 44 [.ref 32] feMro true [] [] false none none (some (.ref 36)) none (some (.str (Str.ofString "FormatError") 225)) (some (.str (Str.ofString "FormatError") 233)) (some (.bool true)) "Exception.__new__"

theorem fe_cls {w : World} {h : Heap} (X : (Mine.hd.heap_39 w.params).In h) : h.get? 45 = some feCls := X 45 _ rfl

section
variable {w : World} {A : Around} {E : Value → Shared → Prop} {h : Heap} {g : Array GenState} {d : Drawn} {t : Nat} {os : OsState} {rest : List Value}
abbrev feProg : Program := PySem.Challenge.rw_on0102_01.row.prog
abbrev feObj (tp : Addr) : Obj := { cls := .ref 45, data := .fields #[.ref tp, .none, .none, .none, .bool false, .none] }
abbrev tupObj (vs : List Value) : Obj := { cls := .type "tuple", data := .seq vs.toArray }

theorem fe_check_new {M : Model} {Q : Unit → Shared → Prop} (hC : h.get? 45 = some feCls) (hq : Q () ⟨h, g, d, t, os⟩) :
    wpAny M A (checkBuiltinCall "Exception.__new__" ⟨.ref 45 :: rest, []⟩) Q E ⟨h, g, d, t, os⟩ := by
  have F := PySem.F.excBase_Exception
  have hcont : (Value.ref 45 :: feMro).contains (.type "Exception") = true := by decide +kernel
  have hstar := F.noStar
  simp only [checkBuiltinCall, F.newKind, F.newSplit, F.newRow]
  repeat (first | refine wpAny_loadPart_at hC ?_ | (refine wpAny_isSubtype_exc hC ?_; rw [hcont]) | refine wpAny_staticBase_exc hC ?_ | refine wpAny_madeBy_exc hC ?_ | simp only [bne_self_eq_false, Bool.false_eq_true, if_false] | wp_step)
  exact hq

theorem fe_new {R : Result → Shared → Prop} (hC : h.get? 45 = some feCls) (hrest : rest.length ≤ sizeLine)
    (hq : R (.ok (.ret (.ref (h.objs.size + 1)))) ⟨(h.push (tupObj rest)).push (feObj h.objs.size), g, d, t, os⟩) :
    codeAny (model feProg w) A (.builtin "Exception.__new__" ⟨.ref 45 :: rest, []⟩) R ⟨h, g, d, t, os⟩ := by
  have F := PySem.F.excBase_Exception
  have hends := F.ends
  have hcB : (Value.ref 45 :: feMro).contains (.type "Exception") = true := by decide +kernel
  have hcA : (Value.ref 45 :: feMro).contains (.type "AttributeError") = false := by decide +kernel
  have hcN : (Value.ref 45 :: feMro).contains (.type "NameError") = false := by decide +kernel
  refine codeAny_builtinAt F.entry ?_
  unfold Builtin.«BaseException.__new__»
  refine PySem.wpAt_bind ?_
  show PySem.wpAt _ _ _ (stack >>= _) _ _ _
  refine PySem.wpAt_bind (PySem.wpAt_stack fun p below => PySem.wpAt_of_wpAny ?_)
  wp_walk
  refine PySem.wpAt_of_wpAny ?_
  rw [F.owner]
  repeat (first | with_reducible refine wpAny_madeHere_exc F.canon hC ?_ | with_reducible refine wpAny_loadPart_at hC ?_ | (with_reducible refine wpAny_isSubtype_exc hC ?_; first | rw [hcB] | rw [hcA] | rw [hcN]) | wp_step)
  show R _ _
  rw [Heap.size_push]
  exact hq

theorem fe_find_init {P : Params} : findIn (Mine.hd.heap_39 P) (.ref 45) (Str.ofString "__init__") = some (some (.ref 29)) := by kernel_rfl
theorem fe_type29 {P : Params} : typeIn (Mine.hd.heap_39 P) (.ref 29) = some (.type "function") := by kernel_rfl

theorem fe_type_call {Q : Fin → Shared → Prop} (X : (Mine.hd.heap_39 w.params).In h) (hrest : rest.length ≤ sizeLine)
    (hq : ∀ h', h' = (h.push (tupObj rest)).push (feObj h.objs.size) →
      wpAny (model feProg w) A (call (.ref 29) (.ref (h.objs.size + 1) :: rest)) (fun r s' => r = .none ∧ Q (.done (.ret (.ref (h.objs.size + 1)))) s') E ⟨h', g, d, t, os⟩) :
    wpAny (model feProg w) A (Builtin.«type.__call__» ⟨.ref 45 :: rest, []⟩) Q E ⟨h, g, d, t, os⟩ := by
  have hC := fe_cls X
  have F := PySem.F.excBase_Exception
  repeat (first | with_reducible refine wpAny_loadPart_at hC ?_ | with_reducible refine wpAny_madeBy_exc hC ?_ | wp_step)
  refine codeAny_call_builtin_code (Code.quiet_builtin _ F.quiet) (fe_check_new hC ?_)
  refine fe_new hC hrest ?_
  show wpAny _ _ _ _ _ _
  have X₁ : (Mine.hd.heap_39 w.params).In ((h.push (tupObj rest)).push (feObj h.objs.size)) := X.keeps fun b o e => Heap.get?_push_of_some _ (Heap.get?_push_of_some _ e)
  have hC₁ := fe_cls X₁
  have hget : ((h.push (tupObj rest)).push (feObj h.objs.size)).get? (h.objs.size + 1) = some (feObj h.objs.size) := by heap_get
  have hcC : (Value.ref 45 :: feMro).contains (.ref 45) = true := by decide +kernel
  unfold isInstance
  repeat (first | with_reducible refine wpAny_loadPart_at hget ?_ | (with_reducible refine wpAny_isSubtype_exc hC₁ ?_; rw [hcC]) | wp_step)
  show wpAny _ _ (typeLookup (.ref 45) _) _ _ _
  refine (looks_findIn X₁ fe_find_init).here ?_
  refine wpAny_holding (wpAny_bind ?_)
  refine (bind_fn X₁ _ fe_type29).here ?_
  refine wpAny_bind (wpAny_mono (hq _ rfl) (fun r s' hr => ?_) fun _ _ x => x)
  obtain ⟨rfl, hQ⟩ := hr
  wp_walk
  exact hQ

theorem fe_call {Q : Value → Shared → Prop} (X : (Mine.hd.heap_39 w.params).In h) (hrest : rest.length ≤ sizeLine)
    (hq : ∀ h', h' = (h.push (tupObj rest)).push (feObj h.objs.size) →
      wpAny (model feProg w) (A.under (.builtin "type.__call__" ⟨.ref 45 :: rest, []⟩)) (call (.ref 29) (.ref (h.objs.size + 1) :: rest)) (fun r s' => r = .none ∧ Q (.ref (h.objs.size + 1)) s') E ⟨h', g, d, t, os⟩) :
    wpAny (model feProg w) A (call (.ref 45) rest) Q E ⟨h, g, d, t, os⟩ := by
  have hC := fe_cls X
  have f1 := tc_lookup
  have f2 := tc_bind (.ref 45)
  have hT : (⟨h, g, d, t, os⟩ : Shared).TypeIs (.ref 45) "type" := ⟨_, hC, rfl⟩
  refine wpAny_call (codeAny_of_tree ?_)
  show wpAny _ _ (callAny (.ref 45) _) _ _ _
  repeat (any_goals (first | assumption | with_reducible refine wpAny_loadPart_at hC ?_ | wp_step))
  refine ⟨rfl, ?_⟩
  refine codeAny_call_builtin_at (Code.quiet_builtin _ (by decide +kernel)) entry_typeCall (wpAny_check_type_call_sub hC (fe_type_call X hrest fun h' e => ?_))
  exact hq h' e
end

end Mine
end
section
open PySem PySem.W PySem.Calls PyProof.Rows PyProof.V PySem.Spec Builtin Builtin.ObjectAttr
set_option maxHeartbeats 20000000
namespace Mine
section
variable {w : World} {A : Around} {E : Value → Shared → Prop} {s : Shared} {h₀ : Heap} {L : Addr} {m : Str → Option Value} {news : List (Addr × Obj)} {R : Result → Shared → Prop} {e : Addr} {oe : Obj} {od : Option Obj} {name : Str} {tk : Tok} {v : Value}

theorem fe_refuse (self : Value) : refuseLoop self "__setattr__" (.ref 45 :: feMro) = pure () := by
  rw [refuseLoop_ref, refuseLoop_ref]; exact PySem.F.store_Exception.passes self
theorem fe_clsIn {P : Params} : ∃ cd, clsIn (Mine.hd.heap_39 P) 45 = some cd ∧ cd.mro = .ref 45 :: feMro ∧ cd.hasDict = true := ⟨_, rfl, rfl, rfl⟩
theorem fe_sub_object {P : Params} : mroIn (Mine.hd.heap_39 P) 45 (.type "object") = some true := by kernel_rfl
theorem fe_find_sa {P : Params} : findIn (Mine.hd.heap_39 P) (.ref 45) (Str.ofString "__setattr__") = some (some (.builtin "object.__setattr__")) := by kernel_rfl

theorem fe_osa (X : (Mine.hd.heap_39 w.params).In s.heap) (I : InstAt s.heap e oe 45 od) (hn : findIn (Mine.hd.heap_39 w.params) (.ref 45) name = some none)
    (h : wpAny (model feProg w) A.in1 (storeInOwnDict (.ref e) (.ref 45) (.str name tk) name v false)
      (fun fin s' => match fin with | .done f => R (.ok f) s' | .again c' => c'.quiet = true ∧ codeAny (model feProg w) A c' R s') (fun e s' => R (.error e) s') s) :
    codeAny (model feProg w) A (.call (.builtin "object.__setattr__") ⟨[.ref e, .str name tk, v], []⟩) R s := by
  have SF := PySem.F.store_object
  obtain ⟨cd, hc, hmro, _⟩ := fe_clsIn (P := w.params)
  have sub : Looks (model feProg w) s.heap (isInstance (.ref e) (.type "object")) true := I.type.andThen (looks_mroIn X fe_sub_object)
  refine codeAny_call_builtin SF.slot.plain SF.entry (@check_slot (model feProg w) _ _ s "object.__setattr__" "object" "__setattr__" (.ref e) [.str name tk, v] [] _ SF.kind SF.split sub (SF.args (.ref e) (.str name tk) v) ?_)
  have hm : Looks (model feProg w) s.heap (mroOf (.ref 45)) (.ref 45 :: feMro) := hmro ▸ (looks_clsIn X hc).andThen .now
  rw [osa_eq, refuse_eq]
  refine wpAny_bind (wpAny_bind (I.type.here (wpAny_bind (hm.here ?_))))
  rw [fe_refuse]
  refine wpAny_pure (wpAny_bind (I.type.here (wpAny_bind ((looks_findIn X hn).here (wpAny_bind (Looks.now.here ?_))))))
  exact h

theorem fe_storeIn {A : Around} {Q : PySem.Fin → Shared → Prop} {d : Addr} {es es' : List DictEntry} {n n' : Nat} {pre post : List (Addr × Obj)} (F : Fr h₀ L s.heap m) (N : News h₀ L s.heap (pre ++ (d, dictOf es n) :: post))
    (h1 : ∀ p ∈ pre, p.1 ≠ d) (h2 : ∀ p ∈ post, p.1 ≠ d) (hk : es.any (·.refKey) = false) (e1 : putL name (PyData.keyHash w.params name) (.str name s.toks) v es = es') (e2 : putN name es n = n') (hz : es'.length ≤ 1000)
    (h : ∀ h', Fr h₀ L h' m → News h₀ L h' (pre ++ (d, dictOf es' n') :: post) → Q (.done (.ret .none)) { s with heap := h', toks := s.toks + 1 }) :
    wpAny (model feProg w) A (storeInDict d (.str name tk) name v) Q E s := by
  obtain ⟨U1, U2⟩ := news_upd (f := Obj.putName name (PyData.keyHash w.params name) (.str name s.toks) v) (o' := dictOf es' n') F N h1 h2 (by rw [putName_dict, e1, e2]) rfl
  have D := (N (d, dictOf es n) (by simp)).1
  have D' := (U2 (d, dictOf es' n') (by simp)).1
  unfold storeInDict newKeyGuard
  refine wpAny_bind (wpAny_pure (wpAny_bind ?_))
  unfold nsSet
  refine wpAny_bind (wpAny_bind (wpAny_askSetting (wpAny_pure (wpAny_bind (wpAny_mkText (wpAny_bind (wpAny_loadPart D ?_)))))))
  dsimp only
  have c : (!es.toArray.any (·.key.isStr name) && es.toArray.any (·.refKey)) = false := by
    rw [← Array.any_toList, ← Array.any_toList, hk, Bool.and_false]
  rw [aRefKeyMayBeTheName_at, c]
  refine wpAny_updatePart D ?_
  refine wpAny_bind (wpAny_lookBehind D' (pastItsLine_dict (by rw [List.size_toArray, sizeLine_eq]; omega)) ?_)
  exact wpAny_pure (h _ U1 U2)

/-- the exception object, its dict at d (none: not made yet) -/
abbrev feOb (tp : Addr) (d : Option Addr) : Obj := { cls := .ref 45, dict := d, data := .fields #[.ref tp, .none, .none, .none, .bool false, .none] }

theorem fe_set0 {Q : Unit → Shared → Prop} {tp : Addr} (X : (Mine.hd.heap_39 w.params).In s.heap) (F : Fr h₀ L s.heap m) (N : News h₀ L s.heap ((e, feOb tp none) :: news)) (hoff : ∀ p ∈ news, p.1 ≠ e)
    (hn : findIn (Mine.hd.heap_39 w.params) (.ref 45) name = some none)
    (h : ∀ d h', Fr h₀ L h' m → News h₀ L h' ((d, dictOf [⟨PyData.keyHash w.params name, .str name (s.toks + 1), v⟩] 1) :: (e, feOb tp (some d)) :: news) → (∀ p ∈ ((e, feOb tp (some d)) :: news), p.1 ≠ d) → e < d → Q () { s with heap := h', toks := s.toks + 2 }) :
    wpAny (model feProg w) A (setAttr (.ref e) name v) Q E s := by
  have he := (N _ (.head _)).1
  have I : InstAt s.heap e (feOb tp none) 45 none := ⟨he, rfl, rfl, trivial⟩
  obtain ⟨hp, g, dr, t, os⟩ := s
  replace X : (Mine.hd.heap_39 w.params).In hp := X
  refine set_plain X I fe_find_sa (fe_osa (s := ⟨hp, g, dr, t + 1, os⟩) X I hn ?_)
  obtain ⟨cd, hc, _, hd⟩ := fe_clsIn (P := w.params)
  have hlt : ∀ p ∈ ((e, feOb tp none) :: news), p.1 < hp.objs.size := fun p hpn => Heap.lt_size (N p hpn).1
  have F1 := F.push emptyDict
  have N1 := N.push F emptyDict
  have hne : hp.objs.size ≠ e := Nat.ne_of_gt (hlt _ (.head _))
  obtain ⟨F2, N2⟩ := news_upd (pre := [(hp.objs.size, emptyDict)]) (f := fun o : Obj => { o with dict := some hp.objs.size }) (o' := feOb tp (some hp.objs.size)) F1 N1 (fun p hp' => by rw [List.mem_singleton.mp hp']; exact hne) hoff rfl rfl
  refine wpAny_bind (wpAny_pure (wpAny_bind (wpAny_bind (wpAny_loadPart he (wpAny_bind ((looks_clsIn X hc).at ?_))))))
  rw [hd]
  refine wpAny_bind (wpAny_alloc ?_)
  have he1 := (N1 (e, feOb tp none) (.tail _ (.head _))).1
  refine wpAny_bind (wpAny_update he1 ?_)
  refine wpAny_pure ?_
  refine fe_storeIn (pre := []) (post := (e, feOb tp (some hp.objs.size)) :: news) (s := ⟨(hp.push emptyDict).update e (fun o => { o with dict := some hp.objs.size }), g, dr, t + 1, os⟩) (es := []) (n := 0) F2 N2 (fun _ h => nomatch h) (fun p hp' => ?_) rfl rfl rfl (by simp [putL]) (fun h' F' N' => ?_)
  · rcases List.mem_cons.mp hp' with rfl | hp'
    · exact Ne.symm hne
    · exact Nat.ne_of_lt (hlt _ (.tail _ hp'))
  · refine h hp.objs.size h' F' N' (fun p hp' => ?_) (hlt _ (.head _))
    rcases List.mem_cons.mp hp' with rfl | hp'
    · exact Ne.symm hne
    · exact Nat.ne_of_lt (hlt _ (.tail _ hp'))

theorem fe_set1 {Q : Unit → Shared → Prop} {tp d : Addr} {es es' : List DictEntry} {n n' : Nat} (X : (Mine.hd.heap_39 w.params).In s.heap) (F : Fr h₀ L s.heap m) (N : News h₀ L s.heap ((d, dictOf es n) :: (e, feOb tp (some d)) :: news)) (hoff : ∀ p ∈ ((e, feOb tp (some d)) :: news), p.1 ≠ d)
    (hn : findIn (Mine.hd.heap_39 w.params) (.ref 45) name = some none) (hk : es.any (·.refKey) = false) (e12 : (putL name (PyData.keyHash w.params name) (.str name (s.toks + 1)) v es, putN name es n) = (es', n')) (hz : es'.length ≤ 1000)
    (h : ∀ h', Fr h₀ L h' m → News h₀ L h' ((d, dictOf es' n') :: (e, feOb tp (some d)) :: news) → Q () { s with heap := h', toks := s.toks + 2 }) :
    wpAny (model feProg w) A (setAttr (.ref e) name v) Q E s := by
  obtain ⟨e1, e2⟩ := Prod.mk.inj e12
  have he := (N _ (.tail _ (.head _))).1
  have hd1 := (N _ (.head _)).1
  have I : InstAt s.heap e (feOb tp (some d)) 45 (some (dictOf es n)) := ⟨he, rfl, rfl, hd1⟩
  obtain ⟨hp, g, dr, t, os⟩ := s
  replace X : (Mine.hd.heap_39 w.params).In hp := X
  refine set_plain X I fe_find_sa (fe_osa (s := ⟨hp, g, dr, t + 1, os⟩) X I hn ?_)
  obtain ⟨cd, hc, _, hd⟩ := fe_clsIn (P := w.params)
  refine wpAny_bind (wpAny_pure (wpAny_bind (wpAny_bind (wpAny_loadPart he (wpAny_bind ((looks_clsIn X hc).at ?_))))))
  rw [hd]
  refine wpAny_pure (a := some d) ?_
  exact fe_storeIn (pre := []) (s := ⟨hp, g, dr, t + 1, os⟩) F N (fun _ h => nomatch h) hoff hk e1 e2 hz (fun h' F' N' => h h' F' N')
end

end Mine
end
section
open PySem PySem.W PySem.Calls PyProof.Rows PyProof.V PySem.Spec Builtin Builtin.ObjectAttr
set_option maxHeartbeats 20000000
namespace Mine
theorem exc3_lines0 : True := by
  k_with_none
  (k_with "k_room" => ktr_room)
  (k_with "setAttr ref" => (k_here; k_dflt (first
  | (refine' fe_set0 ?q9k1 ?q9k2 ?q9k3 ?q9k4 ?q9k5 ?_; (case q9k1 => k_in); (case q9k2 => k_asm); (case q9k3 => k_asm); (case q9k4 => assumption); (case q9k5 => kernel_rfl); intro d' h' F' N' l' l'')
  | (refine' fe_set1 ?q9k1 ?q9k2 ?q9k3 ?q9k4 ?q9k5 ?q9k6 ?q9k7 ?q9k8 ?_; (case q9k1 => k_in); (case q9k2 => k_asm); (case q9k3 => k_asm); (case q9k4 => assumption); (case q9k5 => kernel_rfl); (case q9k6 => rfl); (case q9k7 => k_put); (case q9k8 => exact Nat.le_of_ble_eq_true rfl); intro h' F' N'))))
  (k_with "ktr_rel" => (refine' code_def ?q9k1 ?q9k2 ?q9k3 ?q9k4 ?q9k5 ?q9kA ?q9kF ?q9kK ?q9k6 ?q9k7 ?q9k8 ?q9k9 ?q9kB ?_ ?q9c2 ?q9c3 ?q9c4 ?q9c5; (case q9kA => exact rfl); (case q9kF => exact rfl); (case q9kK => first | exact rfl | assumption); (case q9k1 => k_asm); (case q9k2 => k_asm); (case q9k3 => k_asm); (case q9k4 => k_asm); (case q9k5 => k_asm); (case q9k6 => k_is); (case q9k7 => k_is); (case q9k8 => ktr_room); (case q9k9 => first | exact BindsTo.of_eq rfl | exact binds_K (by k_in) rfl (by k_is) rfl rfl rfl); (case q9c5 => decide); (case q9kB => exact locs rfl); (case q9c2 => exact rfl); (case q9c3 => exact rfl); (case q9c4 => exact rfl); k_whole; intro g' L' h' FG' F' N' B' X' T'; (try dsimp only); (try k_fold)))
  trivial

def excDict (P : Params) (k1 k2 k3 t1 t2 t3 : Tok) (kind : Str) (at' : Int) (detail : Str) : Obj :=
  dictOf [⟨PyData.keyHash P (Str.ofString "kind"), .str (Str.ofString "kind") k1, .str kind t1⟩,
          ⟨PyData.keyHash P (Str.ofString "at"), .str (Str.ofString "at") k2, .int at' t2⟩,
          ⟨PyData.keyHash P (Str.ofString "detail"), .str (Str.ofString "detail") k3, .str detail t3⟩] 3

/-- what making a FormatError leaves -/
inductive FeMade (P : Params) (news : List (Addr × Obj)) (kind : Str) (at' : Int) (detail : Str) : Value → List (Addr × Obj) → Prop
  | mk (e d tp : Nat) (k1 k2 k3 t1 t2 t3 : Tok) : (∀ p ∈ news, @LT.lt Nat _ p.1 e) → e < d → FeMade P news kind at' detail (.ref e) ((d, excDict P k1 k2 k3 t1 t2 t3 kind at' detail) :: (e, feOb tp (some d)) :: news)
theorem FeMade.out {P : Params} {news : List (Addr × Obj)} {kind : Str} {at' : Int} {detail : Str} {G : Value → List (Addr × Obj) → Heap → Nat → Prop} (k : ∀ h' tk' (e d tp : Nat) (k1 k2 k3 t1 t2 t3 : Tok), (∀ p ∈ news, @LT.lt Nat _ p.1 e) → e < d → G (.ref e) ((d, excDict P k1 k2 k3 t1 t2 t3 kind at' detail) :: (e, feOb tp (some d)) :: news) h' tk') : ∀ r n h' tk', FeMade P news kind at' detail r n → G r n h' tk' := by
  intro r n h' tk' h
  cases h
  exact k _ _ _ _ _ _ _ _ _ _ _ (by assumption) (by assumption)

theorem fe_make : ∀ (w : World) (news : List (Addr × Obj)) (kind detail : Str) (at' : Int) (tk ta td : Tok), (Mine.hd.heap_39 w.params = Mine.hd.heap_39 w.params) →
    Rets w 45 [.str kind tk, .int at' ta, .str detail td] 3 30 news (FeMade w.params news kind at' detail) := by
  unfold Rets
  k_fill
  intro w news kind detail at' tk ta td _ mean mg mb dp un gd cn cs a ccd cl outer A₀ base h₀ L m s Q E B F X N Tp hk hd hu hret
  obtain ⟨hp, g, dr, t, os⟩ := s
  have X' : (Mine.hd.heap_39 w.params).In hp := X.keeps F.keep
  refine fe_call X' (by rw [sizeLine_eq]; exact Nat.le_of_ble_eq_true rfl) fun h' eh => ?_
  have F1 := (F.push (tupObj [.str kind tk, .int at' ta, .str detail td])).push (feObj hp.objs.size)
  have N1 := (N.push F (tupObj [.str kind tk, .int at' ta, .str detail td])).push (F.push _) (feObj hp.objs.size)
  have l1 : ∀ p ∈ news, p.1 ≠ hp.objs.size + 1 := fun p hpn => Nat.ne_of_lt (Nat.lt_succ_of_lt (Heap.lt_size (N p hpn).1))
  have l0 : ∀ p ∈ news, @LT.lt Nat _ p.1 (hp.objs.size + 1) := fun p hpn => Nat.lt_succ_of_lt (Heap.lt_size (N p hpn).1)
  rw [Heap.size_push] at N1
  rw [← eh] at F1 N1
  replace N1 : News h₀ L h' ((hp.objs.size + 1, feOb hp.objs.size none) :: news) := fun p hpn => N1 p (by
    rcases List.mem_cons.mp hpn with rfl | hpn
    · exact .head _
    · exact .tail _ (.tail _ hpn))
  clear N F X'
  refine wpAny_call ?_
  k_dflt ktr_rel
  k_steps
  exact hret _ _ _ _ (by assumption) (by assumption) ⟨_, _, _, _, _, _, _, _, _, l0, by assumption⟩
theorem fe_make2 : ∀ (w : World) (news : List (Addr × Obj)) (kind : Str) (at' : Int) (tk ta : Tok), (Mine.hd.heap_39 w.params = Mine.hd.heap_39 w.params) →
    Rets w 45 [.str kind tk, .int at' ta] 3 30 news (FeMade w.params news kind at' (Str.ofString "")) := by
  unfold Rets
  k_fill
  intro w news kind at' tk ta _ mean mg mb dp un gd cn cs a ccd cl outer A₀ base h₀ L m s Q E B F X N Tp hk hd hu hret
  obtain ⟨hp, g, dr, t, os⟩ := s
  have X' : (Mine.hd.heap_39 w.params).In hp := X.keeps F.keep
  refine fe_call X' (by rw [sizeLine_eq]; exact Nat.le_of_ble_eq_true rfl) fun h' eh => ?_
  have F1 := (F.push (tupObj [.str kind tk, .int at' ta])).push (feObj hp.objs.size)
  have N1 := (N.push F (tupObj [.str kind tk, .int at' ta])).push (F.push _) (feObj hp.objs.size)
  have l1 : ∀ p ∈ news, p.1 ≠ hp.objs.size + 1 := fun p hpn => Nat.ne_of_lt (Nat.lt_succ_of_lt (Heap.lt_size (N p hpn).1))
  have l0 : ∀ p ∈ news, @LT.lt Nat _ p.1 (hp.objs.size + 1) := fun p hpn => Nat.lt_succ_of_lt (Heap.lt_size (N p hpn).1)
  rw [Heap.size_push] at N1
  rw [← eh] at F1 N1
  replace N1 : News h₀ L h' ((hp.objs.size + 1, feOb hp.objs.size none) :: news) := fun p hpn => N1 p (by
    rcases List.mem_cons.mp hpn with rfl | hpn
    · exact .head _
    · exact .tail _ (.tail _ hpn))
  clear N F X'
  refine wpAny_call ?_
  k_dflt ktr_rel
  k_steps
  exact hret _ _ _ _ (by assumption) (by assumption) ⟨_, _, _, _, _, _, _, _, _, l0, by assumption⟩

end Mine
end
section
open PySem PySem.W PySem.Calls PyProof.Rows PyProof.V PySem.Spec
set_option maxHeartbeats 20000000
namespace Mine
/-- the exception stands at e with its dict at d, its newest traceback entry marked fl -/
def TrD (h B : Heap) (e d : Addr) (fl : Value) : Prop :=
  ∃ vs T oT ts, h.get? e = some { cls := .ref 45, dict := some d, data := .fields vs } ∧ vs[1]? = some (.ref T) ∧ B.get? T = none ∧ T ≠ e ∧ h.get? T = some oT ∧ oT.data = .fields ts ∧ ts[3]? = some fl

section
variable {M : Model} {A : Around} {E : Value → Shared → Prop} {s : Shared} {B : Heap} {env : Env} {outer : List Env} {L e d : Addr} {Q : Unit → Shared → Prop}

theorem tr_entry {vs : Array Value} {head : Value} {hadNext : Bool}
    (hfr : A.frames = some (env :: outer)) (hl : s.heap.FunFrames B (env :: outer)) (hf : env.frame = some L)
    (he : s.heap.get? e = some { cls := .ref 45, dict := some d, data := .fields vs }) (hkb : B.StaysIn s.heap) (hen : B.get? e = none) (hsz : 1 < vs.size)
    (h : ∀ h', B.StaysIn h' → h'.FunFrames B (env :: outer) → TrD h' B e d (rawInt L) → s.heap.UpToSlots h' → Q () { s with heap := h' }) :
    wpAny M A (do let a ← frameOf env; let pl ← entryPlaceOf L hadNext; let b ← EntryCells.newEntry head a .none (rawInt L) .none pl; setField (.ref e) 1 b) Q E s := by
  have hene : e ∉ (env :: outer).filterMap (·.frame) := fun hm => by
    obtain ⟨_, o, ho, hnf⟩ := hl.mem hm
    rw [he] at ho; injection ho with ho; subst ho; exact hnf vs rfl
  refine wpAny_bind (wpAny_frameOf_fun hfr hl hf fun h₁ hs₁ => ?_)
  refine wpAny_bind (wpAny_entryPlaceOf fun pl hpl => ?_)
  unfold EntryCells.newEntry newFields
  refine wpAny_bind (wpAny_newObj_type ?_ (hpl.sizeOk5 _ _ _ _ _))
  have he₁ := (hs₁.2.1 e hene).trans he
  have kb₁ : B.StaysIn h₁ := fun b o hbo => (hs₁.2.1 b fun hm => by rw [(hl.mem hm).1] at hbo; cases hbo).trans (hkb b o hbo)
  generalize hen' : ({ cls := .type "traceback", dict := none, data := .fields ([head, .ref L, .none, rawInt L, .none] ++ (if pl.isEmpty then List.replicate 6 Value.none else pl)).toArray } : Obj) = entry
  have hef : entry.isFreed = false := by rw [← hen']; rfl
  have he₂ := Heap.get?_push_of_some (h := h₁) entry he₁
  refine wpAny_setField he₂ rfl hsz (h _ ?_ ?_ ?_ ?_)
  all_goals
    have hTe : h₁.objs.size ≠ e := Nat.ne_of_gt (Heap.lt_size he₁)
    have keep : ∀ b o, b ≠ e → h₁.get? b = some o → ((h₁.push entry).update e (Obj.mapFields (·.setIfInBounds 1 (Value.ref h₁.objs.size)))).get? b = some o := fun b o hbe hb => by
      rw [Heap.get?_update_other _ _ (Ne.symm hbe)]
      exact Heap.get?_push_of_some _ hb
    have noRecord : ∀ b o, s.heap.get? b = some o → (∀ vs, o.data ≠ .fields vs) → b ≠ e := fun b o hb hnf q => by
      rw [q, he] at hb; injection hb with hb; subst hb; exact hnf vs rfl
  · exact fun b o hbo => keep b o (fun q => by rw [q, hen] at hbo; cases hbo) (kb₁ b o hbo)
  · refine hl.of_keeps fun b o hb hnf => ?_
    obtain ⟨sl, hs⟩ := hs₁.2.2 b o hb
    exact ⟨_, keep b _ (noRecord b o hb hnf) hs, rfl⟩
  · refine ⟨vs.setIfInBounds 1 (.ref h₁.objs.size), h₁.objs.size, entry, _, Heap.get?_update_self _ he₂ rfl, by simp [hsz], kb₁.fresh, hTe, (Heap.get?_update_other _ _ (Ne.symm hTe)).trans (Heap.get?_push_size h₁ hef), by rw [← hen'], ?_⟩
    first | (simp; done) | (rcases hpl with rfl | ⟨_, _, _, _, _, _, _, rfl⟩ <;> simp)
  · intro b o hb hnf
    obtain ⟨sl, hs⟩ := hs₁.2.2 b o hb
    exact ⟨sl, keep b _ (noRecord b o hb hnf) hs⟩

theorem tr_note_first {vs : Array Value} (hfr : A.frames = some (env :: outer)) (hl : s.heap.FunFrames B (env :: outer)) (hf : env.frame = some L)
    (he : s.heap.get? e = some { cls := .ref 45, dict := some d, data := .fields vs }) (h1 : vs[1]? = some .none) (hkb : B.StaysIn s.heap) (hen : B.get? e = none)
    (h : ∀ h', B.StaysIn h' → h'.FunFrames B (env :: outer) → TrD h' B e d (rawInt L) → s.heap.UpToSlots h' → Q () { s with heap := h' }) : wpAny M A (noteFrame (.ref e) env) Q E s := by
  unfold noteFrame
  simp only [hf]
  refine wpAny_bind (wpAny_field he rfl h1 ?_)
  rw [if_neg (by decide)]
  exact tr_entry hfr hl hf he hkb hen (Array.getElem?_eq_some_iff.mp h1).1 h

theorem tr_note_next (hfr : A.frames = some (env :: outer)) (hl : s.heap.FunFrames B (env :: outer)) (hf : env.frame = some L) (ht : TrD s.heap B e d .none) (hkb : B.StaysIn s.heap) (hen : B.get? e = none)
    (h : ∀ h', B.StaysIn h' → h'.FunFrames B (env :: outer) → TrD h' B e d (rawInt L) → s.heap.UpToSlots h' → Q () { s with heap := h' }) : wpAny M A (noteFrame (.ref e) env) Q E s := by
  obtain ⟨vs, T, oT, ts, he, h1, hnT, hTe, hT, hdT, h3⟩ := ht
  unfold noteFrame
  simp only [hf]
  refine wpAny_bind (wpAny_field he rfl h1 ?_)
  rw [if_pos (show (Value.ref T != Value.none) = true from by simp)]
  refine wpAny_bind (wpAny_field hT hdT h3 ?_)
  rw [if_neg (show ¬ ((Value.none == rawInt L) = true) from by simp [rawInt])]
  refine wpAny_bind (wpAny_setField hT hdT (Array.getElem?_eq_some_iff.mp h3).1 ?_)
  have other : ∀ b, b ≠ T → (s.heap.update T (Obj.mapFields (·.setIfInBounds 3 Value.none))).get? b = s.heap.get? b := fun b hb => Heap.get?_update_other _ _ (Ne.symm hb)
  have noRecord : ∀ b o, s.heap.get? b = some o → (∀ vs, o.data ≠ .fields vs) → b ≠ T := fun b o hb hnf q => by
    rw [q, hT] at hb; injection hb with hb; subst hb; exact hnf ts hdT
  refine tr_entry hfr (hl.of_keeps fun b o hb hnf => ⟨o, (other b (noRecord b o hb hnf)).trans hb, rfl⟩) hf ((other e (Ne.symm hTe)).trans he)
    (fun b o hbo => (other b fun q => by rw [q, hnT] at hbo; cases hbo).trans (hkb b o hbo)) hen (Array.getElem?_eq_some_iff.mp h1).1
    fun h' x1 x2 x3 x4 => h h' x1 x2 x3 fun b o hb hnf => x4 b o ((other b (noRecord b o hb hnf)).trans hb) hnf

theorem tr_flight {l : List Env} {fl : Value} (hl : s.heap.FunFrames B l) (ht : TrD s.heap B e d fl) (hkb : B.StaysIn s.heap)
    (h : ∀ h', B.StaysIn h' → h'.FunFrames B l → TrD h' B e d .none → s.heap.UpToSlots h' → Q () { s with heap := h' }) : wpAny M A (setFlight (.ref e) none) Q E s := by
  obtain ⟨vs, T, oT, ts, he, h1, hnT, hTe, hT, hdT, h3⟩ := ht
  have hsz3 : 3 < ts.size := (Array.getElem?_eq_some_iff.mp h3).1
  have other : ∀ b, b ≠ T → (s.heap.update T (Obj.mapFields (·.setIfInBounds 3 ((none : Option Addr).elim Value.none fun f => rawInt f)))).get? b = s.heap.get? b :=
    fun b hb => Heap.get?_update_other _ _ (Ne.symm hb)
  have noRecord : ∀ b o, s.heap.get? b = some o → (∀ vs, o.data ≠ .fields vs) → b ≠ T := fun b o hb hnf q => by
    rw [q, hT] at hb; injection hb with hb; subst hb; exact hnf ts hdT
  unfold setFlight
  refine wpAny_bind (wpAny_field he rfl h1 ?_)
  rw [if_pos (show (Value.ref T != Value.none) = true from by simp)]
  refine wpAny_setField hT hdT hsz3 (h _ (fun b o hbo => (other b fun q => by rw [q, hnT] at hbo; cases hbo).trans (hkb b o hbo))
    (hl.of_keeps fun b o hb hnf => ⟨o, (other b (noRecord b o hb hnf)).trans hb, rfl⟩) ?_ fun b o hb hnf => ⟨o.slots, (other b (noRecord b o hb hnf)).trans hb⟩)
  exact ⟨vs, T, _, _, (other e (Ne.symm hTe)).trans he, h1, hnT, hTe, Heap.get?_update_self _ hT (Obj.isFreed_of_fields (Obj.data_mapFields hdT _)), Obj.data_mapFields hdT _, by simp [hsz3]⟩

theorem tr_again (hf : env.frame = some L) (ht : TrD s.heap B e d (rawInt L)) (h : Q () s) : wpAny M A (noteFrame (.ref e) env) Q E s := by
  obtain ⟨vs, T, oT, ts, he, h1, hnT, hTe, hT, hdT, h3⟩ := ht
  unfold noteFrame
  simp only [hf]
  refine wpAny_bind (wpAny_field he rfl h1 ?_)
  rw [if_pos (show (Value.ref T != Value.none) = true from by simp)]
  refine wpAny_bind (wpAny_field hT hdT h3 ?_)
  rw [if_pos (show (rawInt L == rawInt L) = true from by simp)]
  exact wpAny_pure h
end

/-- in flight with its dict -/
def FlyD (B : Heap) (l : List Env) (e d : Addr) (h : Heap) : Prop := B.StaysIn h ∧ B.get? e = none ∧ h.FunFrames B l ∧ TrD h B e d .none

/-- a FormatError is in flight over the frames l, the ledger news kept -/
def FErr (P : Params) (base : Heap) (l : List Env) (e : Addr) (kind : Str) (at' : Int) (detail : Str) (news : List (Addr × Obj)) (h : Heap) : Prop :=
  ∃ B d k1 k2 k3 t1 t2 t3, base.StaysIn B ∧ (∀ q ∈ ((d, excDict P k1 k2 k3 t1 t2 t3 kind at' detail) :: news), B.get? q.1 = some q.2 ∧ base.get? q.1 = none) ∧ FlyD B l e d h

theorem FErr.eqs {P : Params} {base h : Heap} {l : List Env} {e : Addr} {kind kind' detail detail' : Str} {at' at2 : Int} {news : List (Addr × Obj)} (x : FErr P base l e kind at' detail news h) (e1 : kind = kind') (e2 : at' = at2) (e3 : detail = detail') : FErr P base l e kind' at2 detail' news h := by subst e1 e2 e3; exact x
theorem FErr.drop {P : Params} {base h : Heap} {l : List Env} {e : Addr} {kind detail : Str} {at' : Int} {news news' : List (Addr × Obj)} (x : FErr P base l e kind at' detail news h) (hs : ∀ q ∈ news', q ∈ news) : FErr P base l e kind at' detail news' h := by
  obtain ⟨B, d, k1, k2, k3, t1, t2, t3, a, b, c⟩ := x
  refine ⟨B, d, k1, k2, k3, t1, t2, t3, a, fun q hq => b q ?_, c⟩
  rcases List.mem_cons.mp hq with rfl | hq
  · exact .head _
  · exact .tail _ (hs q hq)

section
variable {M : Model} {A : Around} {E : Value → Shared → Prop} {s' : Shared} {base g g₂ h : Heap} {outer : List Env} {L a e d tp : Addr} {m : Str → Option Value} {name : Str} {scope : Scope} {cd : Value} {Q : Unit → Shared → Prop} {news : List (Addr × Obj)} {P : Params} {kind detail : Str} {at' : Int} {k1 k2 k3 t1 t2 t3 : Tok}

theorem fe_leave_first (K : Below A base outer g) (F : Fr g L s'.heap m) (N : News g L s'.heap ((d, excDict P k1 k2 k3 t1 t2 t3 kind at' detail) :: (e, feOb tp (some d)) :: news)) (hoff : ∀ p ∈ news, p.1 ≠ e) (hed : d ≠ e)
    (hQ : ∀ h', FErr P base outer e kind at' detail news h' → g.UpToSlots h' → Q () { s' with heap := h' }) (hk : scope.kind = .function := by rfl) :
    wpAny M (A.deeper (envOf name scope L a cd)) (leaving (envOf name scope L a cd) (.ref e)) Q E s' := by
  have K' := K.push (name := name) (a := a) (cd := cd) F hk
  have hin : ∀ env ∈ (envOf name scope L a cd :: outer), ∀ b, env.frame = some b → b ∈ (envOf name scope L a cd :: outer).filterMap (·.frame) := fun env he b hb => List.mem_filterMap.mpr ⟨env, he, hb⟩
  -- the heap without the frames and without the exception
  have he := (N (e, feOb tp (some d)) (.tail _ (.head _)))
  have nfr : ∀ q, g.get? q = none → q ≠ L → q ∉ (envOf name scope L a cd :: outer).filterMap (·.frame) := fun q hq hqL hm => by
    obtain ⟨env, hev, hf⟩ := List.mem_filterMap.mp hm
    rcases List.mem_cons.mp hev with rfl | hev
    · exact hqL (Option.some.inj hf).symm
    · obtain ⟨o, ho, _⟩ := (K.frames.mem (List.mem_filterMap.mpr ⟨env, hev, hf⟩)).2
      rw [hq] at ho; cases ho
  let B := hideAll s'.heap (e :: (envOf name scope L a cd :: outer).filterMap (·.frame))
  have be : base.get? e = none := fresh_of_stays K.stays he.2.2
  have st : base.StaysIn B := fun b o q => hideAll_get _ (K'.stays b o q) fun hm => by
    rcases List.mem_cons.mp hm with rfl | hm
    · rw [be] at q; cases q
    · rw [(K'.frames.mem hm).1] at q; cases q
  have hl : ∀ q ∈ ((d, excDict P k1 k2 k3 t1 t2 t3 kind at' detail) :: news), B.get? q.1 = some q.2 ∧ base.get? q.1 = none := fun q hq => by
    have hq' : q ∈ ((d, excDict P k1 k2 k3 t1 t2 t3 kind at' detail) :: (e, feOb tp (some d)) :: news) := by
      rcases List.mem_cons.mp hq with rfl | hq
      · exact .head _
      · exact .tail _ (.tail _ hq)
    have hne : q.1 ≠ e := by
      rcases List.mem_cons.mp hq with rfl | hq
      · exact hed
      · exact hoff q hq
    refine ⟨hideAll_get _ (N q hq').1 fun hm => ?_, fresh_of_stays K.stays (N q hq').2.2⟩
    rcases List.mem_cons.mp hm with hm | hm
    · exact hne hm
    · exact nfr _ (N q hq').2.2 (N q hq').2.1 hm
  have hen : B.get? e = none := hideAll_none _ (.head _)
  have kB : B.StaysIn s'.heap := fun b o q => of_hideAll _ q
  have hfun : s'.heap.FunFrames B (envOf name scope L a cd :: outer) := funFrames_hide K'.frames fun env hev b hb => .tail _ (hin env hev b hb)
  unfold leaving
  refine wpAny_bind (tr_note_first K'.stack hfun rfl he.1 rfl kB hen fun h1 x1 x2 x3 x4 => ?_)
  refine tr_flight (s := { s' with heap := h1 }) x2 x3 x1 fun h2 y1 y2 y3 y4 => ?_
  obtain ⟨_, _, y2⟩ := y2
  exact hQ h2 ⟨B, d, k1, k2, k3, t1, t2, t3, st, hl, y1, hen, y2, y3⟩ ((Heap.UpToSlots.of_keeps F.keep).trans (x4.trans y4))

theorem fe_leave_on (K : Below A base outer g) (F : Fr g L g₂ m) (R : FErr P base (envOf name scope L a cd :: outer) e kind at' detail news s'.heap) (hsm : g₂.UpToSlots s'.heap)
    (hQ : ∀ h', FErr P base outer e kind at' detail news h' → g.UpToSlots h' → Q () { s' with heap := h' }) :
    wpAny M (A.deeper (envOf name scope L a cd)) (leaving (envOf name scope L a cd) (.ref e)) Q E s' := by
  obtain ⟨B, d, k1, k2, k3, t1, t2, t3, hB, hl, f1, f2, f3, f4⟩ := R
  unfold leaving
  refine wpAny_bind (tr_note_next (Around.frames_deeper K.stack) f3 rfl f4 f1 f2 fun h1 x1 x2 x3 x4 => ?_)
  refine tr_flight (s := { s' with heap := h1 }) x2 x3 x1 fun h2 y1 y2 y3 y4 => ?_
  obtain ⟨_, _, y2⟩ := y2
  exact hQ h2 ⟨B, d, k1, k2, k3, t1, t2, t3, hB, hl, y1, f2, y2, y3⟩ ((Heap.UpToSlots.of_keeps F.keep).trans (hsm.trans (x4.trans y4)))
end

end Mine
end
section
open PySem PySem.W PySem.Calls PyProof.Rows PyProof.V PySem.Spec Builtin Builtin.ObjectAttr
set_option maxHeartbeats 20000000
namespace Mine
section
variable {w : World} {A : Around} {E : Value → Shared → Prop} {h : Heap} {g : Array GenState} {dr : Drawn} {t : Nat} {os : OsState} {e : Addr} {oe od : Obj} {name : Str} {v : Value} {expr : Bool} {Q : Value → Shared → Prop}
theorem fe_find_ga {P : Params} : findIn (Mine.hd.heap_39 P) (.ref 45) (Str.ofString "__getattribute__") = some (some (.builtin "BaseException.__getattribute__")) := by kernel_rfl
theorem fe_find_gattr {P : Params} : findIn (Mine.hd.heap_39 P) (.ref 45) (Str.ofString "__getattr__") = some none := by kernel_rfl
theorem fe_sub_base {P : Params} : mroIn (Mine.hd.heap_39 P) 45 (.type "BaseException") = some true := by kernel_rfl

theorem fe_get (X : (Mine.hd.heap_39 w.params).In h) (I : InstAt h e oe 45 (some od)) (hn : findIn (Mine.hd.heap_39 w.params) (.ref 45) name = some none) (hl : lookIn name od = some (some v)) (hh : handedIn v = true) (hq : Q v ⟨h, g, dr, t + 1, os⟩) :
    wpAny (model feProg w) A (getAttr (.ref e) name expr) Q E ⟨h, g, dr, t, os⟩ := by
  obtain ⟨cd, hc, hmro, hdict⟩ := fe_clsIn (P := w.params)
  have hf : findObj (Mine.hd.heap_39 w.params) 45 (some od) name = some (.value v) := by
    unfold findObj
    rw [hc, hn]
    simp only [Option.bind_some]
    unfold PySem.W.ownOf
    rw [if_pos hdict]
    dsimp only
    rw [hl]
    rfl
  have L0 := I.type (M := model feProg w)
  have L1 := looks_findIn (M := model feProg w) X (fe_find_ga (P := w.params))
  have L2 := looks_find (M := model feProg w) X I hf
  have L3 := looks_findIn (M := model feProg w) X (fe_find_gattr (P := w.params))
  have sub : Looks (model feProg w) h (isInstance (.ref e) (.type "BaseException")) true := I.type.andThen (looks_mroIn X fe_sub_base)
  have hk : builtinKind "BaseException.__getattribute__" = some .slot := by decide +kernel
  have hsplit : splitId "BaseException.__getattribute__" = some ("BaseException", "__getattribute__") := by decide +kernel
  have f3 := PySem.F.excAttr_ValueError.ga.bind (.ref e)
  have hx0 : (expr && onTheHeap (Value.builtin "BaseException.__getattribute__")) = false := by cases expr <;> rfl
  have hx2 : (Value.builtin "BaseException.__getattribute__" == Value.builtin "object.__getattribute__") = false := by decide +kernel
  have hx1 : (onTheHeap (Value.ref 45) && Value.builtin "BaseException.__getattribute__" == Value.builtin "object.__getattribute__") = false := by rw [hx2]; rfl
  unfold getAttr getAttrBy
  refine wpAny_bind (wpAny_mkText (wpAny_holding (wpAny_bind (L0.at (wpAny_bind (L1.at ?_))))))
  repeat (any_goals (first | assumption | with_reducible refine L3.at ?_ | with_reducible refine L0.at ?_ | wp_step))
  refine codeAny_call_builtin PySem.F.excAttr_ValueError.ga.plain PySem.F.entry_bexc_ga ?_
  have ha := PySem.F.args_bexc_ga (.ref e) (.str name t)
  show wpAny _ _ (checkBuiltinCall "BaseException.__getattribute__" ⟨[.ref e, .str name t], []⟩) _ _ _
  refine check_slot (M := model feProg w) (i := "BaseException.__getattribute__") (owner := "BaseException") (n := "__getattribute__") (self := .ref e) (rest := [.str name t]) (kw := []) hk hsplit sub ha ?_
  show wpAny _ _ (Builtin.«object.__getattribute__» ⟨[.ref e, .str name t], []⟩) _ _ ⟨h, g, dr, t + 1, os⟩
  unfold Builtin.«object.__getattribute__»
  refine wpAny_bind (wpAny_pure (wpAny_bind (wpAny_pure (wpAny_bind (L0.at (wpAny_bind (L2.at ?_)))))))
  refine wpAny_pure ?_
  show wpAny _ _ (handedOut v) _ _ _
  rw [handedOut_of hh]; exact wpAny_pure hq
end

end Mine
end
section
open PySem PySem.W PySem.Calls PyProof.Rows PyProof.V PySem.Spec
set_option maxHeartbeats 20000000
namespace Mine
section
variable {w : World} {A : Around} {E : Value → Shared → Prop} {s : Shared} {env : Env}
theorem fe_raiseStmt {x : Sem Value} {Q : Flow → Shared → Prop} (hh : A.handled = none)
    (h : wpAny (model feProg w) A x (fun v s₁ => ∃ e tp d, v = .ref e ∧ (Mine.hd.heap_39 w.params).In s₁.heap ∧ s₁.heap.get? e = some (feOb tp d) ∧ E (.ref e) s₁) E s) :
    wpAny (model feProg w) A (raiseStmt env (some x) none) Q E s := by
  have hcB : (Value.ref 45 :: feMro).contains (.type "BaseException") = true := by decide +kernel
  unfold raiseStmt
  refine wpAny_bind (wpAny_mono h (fun v s₁ h₁ => ?_) fun _ _ x => x)
  obtain ⟨e, tp, d, rfl, X, he, hE⟩ := h₁
  obtain ⟨hp, g, dr, tk, os⟩ := s₁
  have hC := fe_cls X
  repeat (first | with_reducible refine wpAny_loadPart_at he ?_ | with_reducible refine wpAny_loadPart_at hC ?_ | (with_reducible refine wpAny_isSubtype_exc hC ?_; rw [hcB]) | wp_step)
  exact wpAny_raiseNew_none hh hE

theorem fe_raise {ce : PySem.Expr} {pos : Pos} {Q : Flow → Shared → Prop} (hh : A.handled = none)
    (h : wpAny (model feProg w) A (eval ce env) (fun v s₁ => ∃ e tp d, v = .ref e ∧ (Mine.hd.heap_39 w.params).In s₁.heap ∧ s₁.heap.get? e = some (feOb tp d) ∧ E (.ref e) s₁) E s) :
    wpAny (model feProg w) A (exec (.Raise (some ce) none pos) env) Q E s := by
  rw [arm_exec_Raise]
  exact wpAny_bind (wpAny_standAt (fe_raiseStmt hh (wpAny_bind (wpAny_mono h (fun v s₃ h₃ => wpAny_bind (wpAny_standAt (wpAny_pure h₃))) fun _ _ x => x))))
end
/-- a def at f, called with vs, raises FormatError(kind, at', detail); the entries keep stay -/
def Raises (w : World) (f : Addr) (vs : List Value) (nd nu : Nat) (news keep : List (Addr × Obj)) (kind : Str) (at' : Int) (detail : Str) : Prop :=
  ∀ (mean : ExcName → Option Value) (mg mb : Str → Option Value) (dp un : Nat) (gd : Option (List Code)) (cn : Str) (cs : Scope) (a : Addr) (ccd : Value) (cl : List (Str × Addr)) (outer : List Env) (A₀ : Around) (base h₀ : Heap) (L : Addr) (m : Str → Option Value) (s : Shared) (Q E : Value → Shared → Prop),
    Below A₀ base outer h₀ → Fr h₀ L s.heap m → (Mine.hd.heap_39 w.params).In h₀ → News h₀ L s.heap news → TopM mean mg mb h₀ → cs.kind = .function → dp + nd < recursionLimit → un + nu < cLine →
    (∀ e g h' tk', Fr h₀ L g m → g.UpToSlots h' → FErr w.params base (envX cn cs L a ccd cl :: outer) e kind at' detail keep h' → E (.ref e) { s with heap := h', toks := tk' }) →
    wpAny (model PySem.Challenge.rw_on0102_01.row.prog w) (ktrTop dp un gd cn cs L a ccd cl outer) (call (.ref f) vs) Q E s
section
variable {w : World} {f : Addr} {vs : List Value} {nd nu : Nat} {news keep : List (Addr × Obj)} {R : Value → List (Addr × Obj) → Prop} {kind detail : Str} {at' : Int}
  {mean : ExcName → Option Value} {mg mb : Str → Option Value} {dp un : Nat} {gd : Option (List Code)} {cn : Str} {cs : Scope} {a : Addr} {ccd : Value} {cl : List (Str × Addr)} {outer : List Env} {A₀ : Around} {base h₀ : Heap} {L : Addr} {m : Str → Option Value} {s : Shared} {Q E : Value → Shared → Prop}
theorem rets_use (C : Rets w f vs nd nu news R) (B : Below A₀ base outer h₀) (F : Fr h₀ L s.heap m) (X : (Mine.hd.heap_39 w.params).In h₀) (N : News h₀ L s.heap news) (T : TopM mean mg mb h₀) (hk : cs.kind = .function) (hd : dp + nd < recursionLimit) (hu : un + nu < cLine)
    (ret : ∀ r news' h' tk', Fr h₀ L h' m → News h₀ L h' news' → R r news' → Q r { s with heap := h', toks := tk' }) :
    wpAny (model PySem.Challenge.rw_on0102_01.row.prog w) (ktrTop dp un gd cn cs L a ccd cl outer) (call (.ref f) vs) Q E s := C _ _ _ _ _ _ _ _ _ _ _ _ _ _ _ _ _ _ _ _ B F X N T hk hd hu ret
theorem rets_use2 (C : Rets w f vs nd nu news R) (B : Below A₀ base outer h₀) (F : Fr h₀ L s.heap m) (X : (Mine.hd.heap_39 w.params).In h₀) (N : News h₀ L s.heap news) (T : TopM mean mg mb h₀) (hk : cs.kind = .function) (hd : dp + nd < recursionLimit) (hu : un + nu < cLine)
    (ret : ∀ G : Value → List (Addr × Obj) → Heap → Nat → Prop, (∀ r news' h' tk', (Fr h₀ L h' m → News h₀ L h' news' → Q r { s with heap := h', toks := tk' }) → G r news' h' tk') → ∀ r news' h' tk', R r news' → G r news' h' tk') :
    wpAny (model PySem.Challenge.rw_on0102_01.row.prog w) (ktrTop dp un gd cn cs L a ccd cl outer) (call (.ref f) vs) Q E s := rets_use C B F X N T hk hd hu (fun r n h' tk' F' N' R' => ret (fun r n h' tk' => Fr h₀ L h' m → News h₀ L h' n → Q r { s with heap := h', toks := tk' }) (fun _ _ _ _ p => p) r n h' tk' R' F' N')
theorem raises_use (C : Raises w f vs nd nu news keep kind at' detail) (B : Below A₀ base outer h₀) (F : Fr h₀ L s.heap m) (X : (Mine.hd.heap_39 w.params).In h₀) (N : News h₀ L s.heap news) (T : TopM mean mg mb h₀) (hk : cs.kind = .function) (hd : dp + nd < recursionLimit) (hu : un + nu < cLine)
    (ret : ∀ e g h' tk', Fr h₀ L g m → g.UpToSlots h' → FErr w.params base (envX cn cs L a ccd cl :: outer) e kind at' detail keep h' → E (.ref e) { s with heap := h', toks := tk' }) :
    wpAny (model PySem.Challenge.rw_on0102_01.row.prog w) (ktrTop dp un gd cn cs L a ccd cl outer) (call (.ref f) vs) Q E s := C _ _ _ _ _ _ _ _ _ _ _ _ _ _ _ _ _ _ _ _ B F X N T hk hd hu ret
end

end Mine
end
section
open PySem PySem.W PySem.Calls PyProof.Rows PyProof.V PySem.Spec
set_option maxHeartbeats 20000000
namespace Mine
section
variable {w : World} {A : Around} {E : Value → Shared → Prop} {s' : Shared} {base g gx : Heap} {outer : List Env} {L a e : Addr} {m : Str → Option Value} {name : Str} {scope : Scope} {cd : Value} {Q : Flow → Shared → Prop} {keep : List (Addr × Obj)} {kind detail : Str} {at' : Int}
  {n x : Str} {b₀ : Stmt} {suite : List Stmt} {pos np : Pos} {rest : List ExceptHandler} {p : Program} {loose : List Str} {mg mb : Str → Option Value} {envc : Env} {L₁ : Addr} {oL : Obj}

theorem fe_caught (hfr : A.frames = some (envc :: outer)) (hsz : base.objs.size ≤ L) (F : Fr g L gx m) (U : gx.UpToSlots s'.heap)
    (R : FErr w.params base (envOf name scope L a cd :: envc :: outer) e kind at' detail keep s'.heap)
    (hfc : envc.frame = some L₁) (hoL : g.get? L₁ = some oL) (hLd : ∃ es ep, oL.data = .dict es ep)
    (X : (Mine.hd.heap_39 w.params).In base) (T : TopRead p loose mg mb base) (ex : nsIn (Mine.hd.heap_39 w.params) mainGlobals x = some (some (.ref 45)))
    (k : ∀ h' d ws sl k1 k2 k3 t1 t2 t3 tk, Fr base L h' (fun y => if y = n then some (.ref e) else m y) →
      News base L h' ((d, excDict w.params k1 k2 k3 t1 t2 t3 kind at' detail) :: (e, { cls := .ref 45, dict := some d, data := .fields ws }) :: (L₁, { oL with slots := sl }) :: keep) →
      (d ≠ L₁ ∧ e ≠ L₁ ∧ ∀ q ∈ keep, q.1 ≠ L₁) →
      wpAny (model feProg w) ((A.deeper (envOf name scope L a cd)).mark (some (.ref e))) (execs (b₀ :: suite) (envOf name scope L a cd))
        (fun f s₄ => wpAny (model feProg w) (A.deeper (envOf name scope L a cd)) (do bindName (envOf name scope L a cd) n .none; unbindBehindTheSuite (envOf name scope L a cd) n pos) (fun _ s₅ => Q f s₅) E s₄)
        (AsSuiteRaised (model feProg w) ((A.deeper (envOf name scope L a cd)).mark (some (.ref e))) (envOf name scope L a cd) n pos (notedBy (model feProg w) ((A.deeper (envOf name scope L a cd)).mark (some (.ref e))) (envOf name scope L a cd) (cameBackBy (model feProg w) (A.deeper (envOf name scope L a cd)) (envOf name scope L a cd) E)))
        { s' with heap := h', toks := tk })
    (hk : scope.kind = .function := by rfl) (hlo : (envOf name scope L a cd).kindOf n = some .local := by rfl) (hx : (envOf name scope L a cd).kindOf x = some .globalImplicit := by rfl) (hd : (x == ("__debug__" : Str)) = false := by decide) :
    wpAny (model feProg w) (A.deeper (envOf name scope L a cd)) (noteFrame (.ref e) (envOf name scope L a cd))
      (fun _ s₂ => wpAny (model feProg w) (A.deeper (envOf name scope L a cd)) (setFlight (.ref e) none) (fun _ s₃ =>
        wpAny (model feProg w) (A.deeper (envOf name scope L a cd)) (handleBy (.ref e) (envOf name scope L a cd) (.ExceptHandler (some (.Name x np)) (some n) (b₀ :: suite) pos :: rest)) Q E s₃) E s₂) E s' := by
  obtain ⟨B, d, k1, k2, k3, t1, t2, t3, hB, hl, f1, f2, f3, f4⟩ := R
  have hcB : feMro.contains (.type "BaseException") = true := by decide +kernel
  refine tr_note_next (Around.frames_deeper hfr) f3 rfl f4 f1 f2 fun h4 x1 x2 x3 x4 => ?_
  refine tr_flight (s := { s' with heap := h4 }) x2 x3 x1 fun h5 y1 y2 y3 y4 => ?_
  have U5 : gx.UpToSlots h5 := U.trans (x4.trans y4)
  have st5 : base.StaysIn h5 := fun b o q => y1 b o (hB b o q)
  have F5 : Fr base L h5 m := ⟨U5.ns F.ns, st5, hsz⟩
  obtain ⟨vs, T', oT, ts, he, r⟩ := id y3
  refine wpAny_handleBy_cons (codeAny_handlers_test (name_K F5 X T ex ?_ hk hx hd)) (by intro q; cases q)
  have hC := fe_cls (X.keeps st5)
  refine wpAny_excMatches_sub_self hC he rfl hcB (codeAny_handlers_suite_as ?_)
  refine tr_flight (s := { s' with heap := h5 }) y2 y3 y1 fun h6 z1 z2 z3 z4 => ?_
  have U6 : gx.UpToSlots h6 := U5.trans z4
  have st6 : base.StaysIn h6 := fun b o q => z1 b o (hB b o q)
  have F6 : Fr base L h6 m := ⟨U6.ns F.ns, st6, hsz⟩
  obtain ⟨ws, T6, oT6, ts6, he6, r6⟩ := id z3
  obtain ⟨es, ep, hLd⟩ := hLd
  obtain ⟨sl, hL6⟩ := U6 L₁ oL (F.keep _ _ hoL) fun vs q => by rw [hLd] at q; cases q
  have hBL : B.get? L = none := by
    obtain ⟨_, ⟨L', _, hf, hn', _⟩, _⟩ := z2
    obtain rfl : L = L' := Option.some.inj hf
    exact hn'
  have hBL1 : B.get? L₁ = none := by
    obtain ⟨_, _, _, ⟨L', _, hf, hn', _⟩, _⟩ := z2
    rw [hfc] at hf
    obtain rfl : L₁ = L' := Option.some.inj hf
    exact hn'
  have none_base : ∀ b, B.get? b = none → base.get? b = none := fun b hb => by
    cases q : base.get? b with
    | none => rfl
    | some o => have := hB b o q; rw [hb] at this; cases this
  have hL1 : L₁ ≠ L := fun q => by
    have h1 := Heap.lt_size hoL
    rw [q] at h1
    exact absurd (Nat.lt_of_lt_of_le h1 F.above) (Nat.lt_irrefl _)
  have heL : e ≠ L := fun q => by
    obtain ⟨o, es', ep', ho, hd', _⟩ := F6.ns
    rw [q, ho] at he6
    cases he6
    cases hd'
  have heL1 : e ≠ L₁ := fun q => by
    rw [q, hL6] at he6
    have := congrArg Obj.data (Option.some.inj he6)
    dsimp only at this
    rw [hLd] at this
    cases this
  have hlL : ∀ q ∈ ((d, excDict w.params k1 k2 k3 t1 t2 t3 kind at' detail) :: keep), q.1 ≠ L ∧ q.1 ≠ L₁ := fun q hq => by
    refine ⟨fun z => ?_, fun z => ?_⟩
    · have := (hl q hq).1
      rw [z, hBL] at this
      cases this
    · have := (hl q hq).1
      rw [z, hBL1] at this
      cases this
  have N6 : News base L h6 ((d, excDict w.params k1 k2 k3 t1 t2 t3 kind at' detail) :: (e, { cls := .ref 45, dict := some d, data := .fields ws }) :: (L₁, { oL with slots := sl }) :: keep) := by
    intro q hq
    rcases List.mem_cons.mp hq with rfl | hq
    · exact ⟨z1 _ _ (hl _ (.head _)).1, (hlL _ (.head _)).1, (hl _ (.head _)).2⟩
    rcases List.mem_cons.mp hq with rfl | hq
    · exact ⟨he6, heL, none_base _ f2⟩
    rcases List.mem_cons.mp hq with rfl | hq
    · exact ⟨hL6, hL1, none_base _ hBL1⟩
    · exact ⟨z1 _ _ (hl _ (.tail _ hq)).1, (hlL _ (.tail _ hq)).1, (hl _ (.tail _ hq)).2⟩
  exact stN (s := { s' with heap := h6 }) F6 N6 (fun h7 F7 N7 => k h7 d ws sl k1 k2 k3 t1 t2 t3 _ F7 N7 ⟨(hlL _ (.head _)).2, heL1, fun q hq => (hlL q (.tail _ hq)).2⟩) hk hlo
end

def LeaveT (h₀ : Heap) (L : Addr) (m : Str → Option Value) (g : Heap) (R : Result → Shared → Prop) (v : Value) (s' : Shared) : Prop := LeaveK h₀ L m g R v s' ∨ R (.ok (.ret v)) s'

/-- what the callee that catches knows of its caller's frame -/
structure CallerT (h₀ : Heap) (L : Addr) (m : Str → Option Value) (g : Heap) (oL : Obj) : Prop where
  at' : g.get? L = some oL
  dict : ∃ es ep, oL.data = .dict es ep
  ns : ∀ (sl : Array (Option Value)) (h' : Heap), h'.get? L = some { oL with slots := sl } → h'.Ns L m
  above : h₀.objs.size ≤ L

section
variable {w : World} {A A₀ : Around} {s : Shared} {h₀ : Heap} {L : Addr} {m mg mb : Str → Option Value} {news : List (Addr × Obj)} {p : Program} {loose : List Str} {mean : ExcName → Option Value} {K : Frag} {prog : Program}
theorem code_try {env : Env} {R : Result → Shared → Prop} {name qual : Str} {params : Arguments} {body : List Stmt} {scope : Scope} {dV kV doc pm cdv ct oc : Value} {an od : Option Addr} {osl : Array (Option Value)} {f : Addr} {args : Args} {binds : List (Str × Value)}
    (B : Below A₀ h₀ [] h₀) (F : Fr h₀ L s.heap m) (X₀ : K.In h₀) (N : News h₀ L s.heap news) (T : Top p loose mean mg mb h₀) (hA : A.frames = some [env]) (hf : env.frame = some L) (hke : env.scope.kind = .function)
    (ho : K.lookup f = some ⟨oc, od, .func (fnOf name qual params body scope dV kV doc pm an cdv ct), osl⟩) (hcd : codeIn K cdv qual = true) (hroom : A.depth < recursionLimit)
    (hbind : BindsTo s (fnOf name qual params body scope dV kV doc pm an cdv ct) args binds) (hloc : ∀ y ∈ binds, scope.names.lookup y.1 = some .local)
    (h : ∀ g L' h₁ oL, Fr h₀ L g m → Fr g L' h₁ (fun y => binds.reverse.lookup y) → News g L' h₁ news → Below A h₀ [env] g → K.In g → Top p loose mean mg mb g → CallerT h₀ L m g oL → h₀.objs.size ≤ L' →
      wpAny (model prog w) (A.deeper (envOf qual scope L' f cdv)) (execs body (envOf qual scope L' f cdv))
        (fun fl s' => LeaveT h₀ L m g R (match fl with | .ret v => v | _ => .none) s')
        (fun e s' => wpAny (model prog w) (A.deeper (envOf qual scope L' f cdv)) (leaving (envOf qual scope L' f cdv) e) (fun _ s'' => R (.error e) s'') (fun e' s'' => R (.error e') s'') s')
        { s with heap := h₁, toks := s.toks + binds.length })
    (hco : scope.isCoroutine = false) (hgen : scope.isGenerator = false) (hk : scope.kind = .function)
    (hcell : ∀ x ∈ scope.names, x.2 ≠ .cell) : codeAny (model prog w) A (.call (.ref f) args) R s := by
  obtain ⟨FG, BG, st, lv⟩ := groundX (R := R) B F N hA hf hke
  have X := X₀.keeps F.keep
  obtain ⟨oL, es, ep, hL, hLd, hLk, hLf⟩ := F.ns
  have nL : L ∉ news.map (·.1) := fun q => by
    obtain ⟨p, hp, e⟩ := List.mem_map.mp q
    exact (N p hp).2.1 e
  have hLg := hideAll_get (news.map (·.1)) hL nL
  refine codeAny_call_def (fd := fnOf name qual params body scope dV kV doc pm an cdv ct) (body := body) (binds := binds) hroom (X _ _ ho) rfl (T.nolimit.keeps F.keep) (codeRec_of X hcd) rfl hbind hcell hloc (fun h₁ hns hk₁ => ?_) hco hgen hk
  exact wpAny_mono (h _ s.heap.objs.size h₁ oL FG ⟨hns, fun b o e => hk₁ b o (of_hideAll _ e), Nat.le_of_eq (hideAll_size _ _)⟩
    (fun p hp => ⟨hk₁ _ _ (N p hp).1, Nat.ne_of_lt (Heap.lt_size (N p hp).1), hideAll_none _ (List.mem_map_of_mem hp)⟩) BG (X₀.keeps st) (T.keeps st)
    ⟨hLg, ⟨es, ep, hLd⟩, fun sl h' e => ⟨_, es, ep, e, hLd, hLk, hLf⟩, F.above⟩ (Nat.le_trans F.above (Nat.le_of_lt (Heap.lt_size hL))))
    (fun fl s' hl => hl.elim (fun x => lv _ _ x) id) fun _ _ y => y
end

end Mine
end
section
open PySem PySem.W PySem.Calls PyProof.Rows PyProof.V PySem.Spec
set_option maxHeartbeats 20000000
namespace Mine
theorem lay_lines0 : True := by
  k_with_none
  (k_with "k_room" => ktr_room)
  (k_with "k_all" => assumption)
  (k_with "eval Name" => (k_here; k_dflt (refine' ld ?q9k1 ?q9k2 ?_; (case q9k1 => k_asm); (case q9k2 => assumption); k_whole)))
  (k_with "exec Raise some none" => (k_here; with_reducible refine fe_raise rfl ?_))
  (k_with "call ref" => (k_here; (with_reducible show wpAny _ _ (call (Value.ref 45) _) _ _ _); k_dflt (first
  | (refine' rets_use2 (fe_make _ _ _ _ _ _ _ _ rfl) ?q9k1 ?q9k2 ?q9k3 ?q9k4 ?q9k5 ?q9k6 ?q9k7 ?q9k8 ?_; (case q9k1 => k_asm); (case q9k2 => k_asm); (case q9k3 => k_asm); (case q9k4 => k_asm); (case q9k5 => k_asm); (case q9k6 => first | exact rfl | assumption); (case q9k7 => ktr_room); (case q9k8 => ktr_units))
  | (refine' rets_use2 (fe_make2 _ _ _ _ _ _ rfl) ?q9k1 ?q9k2 ?q9k3 ?q9k4 ?q9k5 ?q9k6 ?q9k7 ?q9k8 ?_; (case q9k1 => k_asm); (case q9k2 => k_asm); (case q9k3 => k_asm); (case q9k4 => k_asm); (case q9k5 => k_asm); (case q9k6 => first | exact rfl | assumption); (case q9k7 => ktr_room); (case q9k8 => ktr_units))); intro GG9 HH9; refine FeMade.out ?_; intro h9 tk9 e9 d9 p9 _ _ _ _ _ _ l9 m9; refine HH9 _ _ _ _ ?_; clear HH9 GG9; intro F9 N9; (try dsimp only)))
  (k_with "Exists" => (k_here; refine ⟨_, _, _, rfl, by k_in, News.get (by k_asm) (List.Mem.tail _ (List.Mem.head _)), ?_⟩; (try dsimp only)))
  (k_with "leaving ref" => (k_here; first
  | (refine' fe_leave_first ?q9k1 ?q9k2 ?q9k3 ?q9k4 ?q9k5 ?_; (case q9k1 => assumption); (case q9k2 => k_asm); (case q9k3 => k_asm); (case q9k4 => (intro p hp; exact Nat.ne_of_lt (by (first | exact l9 p hp | (rename ∀ p ∈ _, @LT.lt Nat _ _ _ => l9; exact l9 p hp))))); (case q9k5 => exact Nat.ne_of_gt (by assumption)); intro h' R' U'; (try dsimp only at R' U' ⊢))
  | (refine' fe_leave_on ?q9k1 ?q9k2 ?q9k3 ?q9k4 ?_; (case q9k3 => assumption); (case q9k1 => assumption); (case q9k4 => assumption); (case q9k2 => assumption); intro h' R' U'; (try dsimp only at R' U' ⊢))))
  (k_with "subscriptTail" => (k_here; (with_reducible show wpAny _ _ (subscriptTail _ _ (Value.str _ _) (Value.int _ _)) _ _ _); (refine item_str (fitsSsize_of (N := 9223372036854775808) (by omega) (by omega) (Int.le_refl _)) (by omega) (by omega) ?_); intro hlen9))
  (k_with "ktr_unf" => repeat' ((fail_if_success (with_reducible show wpAny _ _ (exec (Stmt.While _ _ _ _) _) _ _ _)); first | (k_unfold; (try dsimp only)) | (k_end; wrow_close) | walk1 | (dsimp only; walk1) | (leave1; walk_say "STEP leave1"; try dsimp only) | fail "no step"))
  trivial

abbrev layS : Str := Str.ofString " \t\x0d\n\x0b\x0c"
/-- a code that parts two words -/
def isL (c : Nat) : Bool := decide (c ∈ layS.cps.toList)
def cd (T : Str) (k : Int) : Nat := (Txt.charAt T k).getD 0

theorem is_layout_spec : ∀ (w : World) (news : List (Addr × Obj)) (c : Nat) (t : Tok), (Mine.hd.heap_39 w.params = Mine.hd.heap_39 w.params) → 
    Rets w 82 [.str ⟨#[c]⟩ t] 1 8 news (SameB (isL c) news) := by
  unfold Rets
  k_fill
  intro w news c t _ mean mg mb dp un gd cn cs a ccd cl outer A₀ base h₀ L m s Q E B F X N T hk hd hu hret
  refine wpAny_call ?_
  k_dflt ktr_enter
  k_steps
  exact hret _ _ _ _ (by assumption) (by assumption) (by rw [StrLaws.found_one]; exact .mk)


end Mine
end
section
open PySem PySem.W PySem.Calls PyProof.Rows PyProof.V PySem.Spec
set_option maxHeartbeats 20000000
namespace Mine
theorem take_lines0 : True := by
  k_with_none
  (k_with "k_room" => ktr_room)
  (k_with "k_all" => assumption)
  (k_with "eval Name" => (k_here; k_dflt (refine' ld ?q9k1 ?q9k2 ?_; (case q9k1 => k_asm); (case q9k2 => assumption); k_whole)))
  (k_with "exec Raise some none" => (k_here; with_reducible refine fe_raise rfl ?_))
  (k_with "call ref" => (k_here; (with_reducible show wpAny _ _ (call (Value.ref 45) _) _ _ _); k_dflt (first
  | (refine' rets_use2 (fe_make _ _ _ _ _ _ _ _ rfl) ?q9k1 ?q9k2 ?q9k3 ?q9k4 ?q9k5 ?q9k6 ?q9k7 ?q9k8 ?_; (case q9k1 => k_asm); (case q9k2 => k_asm); (case q9k3 => k_asm); (case q9k4 => k_asm); (case q9k5 => k_asm); (case q9k6 => first | exact rfl | assumption); (case q9k7 => ktr_room); (case q9k8 => ktr_units))
  | (refine' rets_use2 (fe_make2 _ _ _ _ _ _ rfl) ?q9k1 ?q9k2 ?q9k3 ?q9k4 ?q9k5 ?q9k6 ?q9k7 ?q9k8 ?_; (case q9k1 => k_asm); (case q9k2 => k_asm); (case q9k3 => k_asm); (case q9k4 => k_asm); (case q9k5 => k_asm); (case q9k6 => first | exact rfl | assumption); (case q9k7 => ktr_room); (case q9k8 => ktr_units))); intro GG9 HH9; refine FeMade.out ?_; intro h9 tk9 e9 d9 p9 _ _ _ _ _ _ l9 m9; refine HH9 _ _ _ _ ?_; clear HH9 GG9; intro F9 N9; (try dsimp only)))
  (k_with "Exists" => (k_here; refine ⟨_, _, _, rfl, by k_in, News.get (by k_asm) (List.Mem.tail _ (List.Mem.head _)), ?_⟩; (try dsimp only)))
  (k_with "leaving ref" => (k_here; first
  | (refine' fe_leave_first ?q9k1 ?q9k2 ?q9k3 ?q9k4 ?q9k5 ?_; (case q9k1 => assumption); (case q9k2 => k_asm); (case q9k3 => k_asm); (case q9k4 => (intro p hp; exact Nat.ne_of_lt (by (first | exact l9 p hp | (rename ∀ p ∈ _, @LT.lt Nat _ _ _ => l9; exact l9 p hp))))); (case q9k5 => exact Nat.ne_of_gt (by assumption)); intro h' R' U'; (try dsimp only at R' U' ⊢))
  | (refine' fe_leave_on ?q9k1 ?q9k2 ?q9k3 ?q9k4 ?_; (case q9k3 => assumption); (case q9k1 => assumption); (case q9k4 => assumption); (case q9k2 => assumption); intro h' R' U'; (try dsimp only at R' U' ⊢))))
  (k_with "subscriptTail" => (k_here; (with_reducible show wpAny _ _ (subscriptTail _ _ (Value.str _ _) (Value.int _ _)) _ _ _); (refine item_str (fitsSsize_of (N := 9223372036854775808) (by omega) (by omega) (Int.le_refl _)) (by omega) (by omega) ?_); intro hlen9))
  (k_with "ktr_unf" => repeat' ((fail_if_success (with_reducible show wpAny _ _ (exec (Stmt.While _ _ _ _) _) _ _ _)); first | (k_unfold; (try dsimp only)) | (k_end; wrow_close) | walk1 | (dsimp only; walk1) | (leave1; walk_say "STEP leave1"; try dsimp only) | fail "no step"))
  (k_with "subscriptTail" => (k_here; (with_reducible show wpAny _ _ (subscriptTail _ (Expr.Slice (some _) (some _) none _) (Value.str _ _) (Value.ref _)) _ _ _); (with_reducible rename Fr _ _ _ _ => F'); (with_reducible rename News _ _ _ _ => N'); (refine slice_strN_ss (hsz := ?q9hsz) (s := ⟨_, _, _, _, _⟩) F' N' ?_); (case q9hsz => (rw [sizeLine_eq]; omega)); intro _ _ _ _ _))
  (k_with "call ref" => (k_here; (with_reducible show wpAny _ _ (call (Value.ref 82) _) _ _ _); k_dflt (
   (refine' rets_use2 (is_layout_spec _ _ _ _ rfl) ?q9k1 ?q9k2 ?q9k3 ?q9k4 ?q9k5 ?q9k6 ?q9k7 ?q9k8 ?_; (case q9k1 => k_asm); (case q9k2 => k_asm); (case q9k3 => k_asm); (case q9k4 => k_asm); (case q9k5 => k_asm); (case q9k6 => first | exact rfl | assumption); (case q9k7 => ktr_room); (case q9k8 => ktr_units))); intro GG9 HH9; refine SameB.out ?_; intro h9 tk9 ; refine HH9 _ _ _ _ ?_; clear HH9 GG9; intro F9 N9; (try dsimp only)))
  trivial

/-- what one take does: from p over layout to a, over the word to q -/
def TakeRel (T : Str) (p a q : Int) : Prop :=
  p ≤ a ∧ a ≤ q ∧ q ≤ T.length ∧ (∀ k, p ≤ k → k < a → isL (cd T k) = true) ∧ (a < T.length → isL (cd T a) = false) ∧ (∀ k, a ≤ k → k < q → isL (cd T k) = false) ∧ (q < T.length → isL (cd T q) = true)

theorem take_spec : ∀ (w : World) (news : List (Addr × Obj)) (upd : Obj → List (Addr × Obj)) (wr dwr : Nat) (k1 k2 k3 t1 t2 t3 : Tok) (T : Str) (p at' : Int),
    UpdF dwr (rowDict w.params k1 k2 k3 t1 t2 t3 T p at') news upd → (wr, instObj 113 dwr) ∈ news → wr ≠ dwr → 0 ≤ p → p ≤ T.length → T.length < 1000000 → (Mine.hd.heap_39 w.params = Mine.hd.heap_39 w.params) →
    Rets w 103 [.ref wr] 3 30 news fun r news' => ∃ a q t t2' t3', TakeRel T p a q ∧ r = .str (Txt.slice T (some a) (some q)) t ∧ news' = upd (rowDict w.params k1 k2 k3 t1 t2' t3' T q a) := by
  unfold Rets
  k_fill
  intro w news upd wr dwr k1 k2 k3 t1 t2 t3 T p at' U hwr hne hp0 hp1 hT _ mean mg mb dp un gd cn cs a ccd cl outer A₀ base h₀ L m s Q E B F X N0 Tp hk hd hu hret
  obtain ⟨pre, post, rfl, hupd, hpre, hpost⟩ := U.split
  have N : News h₀ L s.heap ((wr, instObj 113 dwr) :: (dwr, rowDict w.params k1 k2 k3 t1 t2 t3 T p at') :: (pre ++ post)) := fun q hq => N0 q (by
    rcases List.mem_cons.mp hq with rfl | hq
    · exact hwr
    · rcases List.mem_cons.mp hq with rfl | hq
      · exact List.mem_append_right _ (.head _)
      · rcases List.mem_append.mp hq with hq | hq
        · exact List.mem_append_left _ hq
        · exact List.mem_append_right _ (.tail _ hq))
  have hoff : ∀ q ∈ pre ++ post, q.1 ≠ dwr := fun q hq => (List.mem_append.mp hq).elim (hpre q) (hpost q)
  replace hret : ∀ a q t t2' t3' h' tk', TakeRel T p a q → Fr h₀ L h' m → News h₀ L h' ((wr, instObj 113 dwr) :: (dwr, rowDict w.params k1 k2 k3 t1 t2' t3' T q a) :: (pre ++ post)) → Q (.str (Txt.slice T (some a) (some q)) t) { s with heap := h', toks := tk' } := fun a q t t2' t3' h' tk' hr F' N' =>
    hret _ _ _ _ F' (fun x hx => N' x (by
      rcases List.mem_append.mp hx with hx | hx
      · exact .tail _ (.tail _ (List.mem_append_left _ hx))
      · rcases List.mem_cons.mp hx with rfl | hx
        · exact .tail _ (.head _)
        · exact .tail _ (.tail _ (List.mem_append_right _ hx)))) ⟨a, q, t, t2', t3', hr, rfl, (hupd _).symm⟩
  generalize pre ++ post = rest at N hoff hret
  clear N0 U hwr hupd hpre hpost
  unfold rowDict at N
  refine wpAny_call ?_
  k_dflt ktr_enter
  ktr_unf
  rename_i g' L' FG B' X' T' tk h F' N'
  refine While_q (fun n m nx => m (Str.ofString "self") = some (.ref wr) ∧ m (Str.ofString "text") = some (.str T t1) ∧ ∃ (q : Int) (t2 : Tok), p ≤ q ∧ q ≤ T.length ∧ (∀ k, p ≤ k → k < q → isL (cd T k) = true) ∧ (T.length - q).toNat ≤ n ∧ nx = (wr, instObj 113 dwr) :: (dwr, rowDict w.params k1 k2 k3 t1 t2 t3 T q at') :: rest)
    (fun m nx => m (Str.ofString "self") = some (.ref wr) ∧ m (Str.ofString "text") = some (.str T t1) ∧ ∃ (q : Int) (t2 : Tok), p ≤ q ∧ q ≤ T.length ∧ (∀ k, p ≤ k → k < q → isL (cd T k) = true) ∧ (q < T.length → isL (cd T q) = false) ∧ nx = (wr, instObj 113 dwr) :: (dwr, rowDict w.params k1 k2 k3 t1 t2 t3 T q at') :: rest)
    F' N' ⟨rfl, rfl, ex2 p t2 ⟨Int.le_refl _, hp1, (fun k h1 h2 => by omega), Nat.le_refl _, rfl⟩⟩ ?_ ?_ (by with_unfolding_all passes_own)
  · intro n Qb Qx Hb GG HH m₁ nx h₂ tk₂ R₂
    clear F' N'
    obtain ⟨hs, ht, q, t2', hq0, hq1, hlay, hn, rfl⟩ := R₂
    refine HH _ _ _ _ ?_
    clear HH GG
    intro F₂ N₂
    unfold rowDict at N₂
    ktr_unf
    · refine Hb.next _ _ _ _ (T.length - (q + 1)).toNat (by assumption) (by assumption) (by omega) ⟨hs, ht, ex2 (q + 1) _ ⟨by omega, by omega, fun k h1 h2 => ?_, Nat.le_refl _, rfl⟩⟩
      by_cases hk : k < q
      · exact hlay k h1 hk
      · have : k = q := by omega
        subst this
        assumption
    all_goals exact Hb.exit _ _ _ _ (by assumption) (by assumption) ⟨hs, ht, ex2 q _ ⟨hq0, hq1, hlay, (by intro h; first | assumption | omega), rfl⟩⟩
  · intro GG HH m₁ nx h₂ tk₂ R₂
    clear F' N'
    obtain ⟨hs, ht, q, t2', hq0, hq1, hlay, hstop, rfl⟩ := R₂
    refine HH _ _ _ _ ?_
    clear HH GG
    intro F₂ N₂
    unfold rowDict at N₂
    ktr_unf
    (with_reducible rename Fr g' _ _ _ => F'); (with_reducible rename News g' _ _ _ => N')
    refine While_q (fun n m nx => m (Str.ofString "self") = some (.ref wr) ∧ m (Str.ofString "text") = some (.str T t1) ∧ ∃ (r : Int) (t2 t3 : Tok), q ≤ r ∧ r ≤ T.length ∧ (∀ k, q ≤ k → k < r → isL (cd T k) = false) ∧ (T.length - r).toNat ≤ n ∧ nx = (wr, instObj 113 dwr) :: (dwr, rowDict w.params k1 k2 k3 t1 t2 t3 T r q) :: rest)
      (fun m nx => m (Str.ofString "self") = some (.ref wr) ∧ m (Str.ofString "text") = some (.str T t1) ∧ ∃ (r : Int) (t2 t3 : Tok), TakeRel T p q r ∧ nx = (wr, instObj 113 dwr) :: (dwr, rowDict w.params k1 k2 k3 t1 t2 t3 T r q) :: rest)
      F' N' ⟨hs, ht, ex3 q _ _ ⟨Int.le_refl _, hq1, (fun k h1 h2 => by omega), Nat.le_refl _, rfl⟩⟩ ?_ ?_ (by with_unfolding_all passes_own)
    · clear F' N'
      intro n Qb2 Qx2 Hb2 GG HH m₂ nx h₃ tk₃ R₃
      obtain ⟨hs₂, ht₂, r, t2'', t3'', hr0, hr1, hword, hn, rfl⟩ := R₃
      refine HH _ _ _ _ ?_
      clear HH GG
      intro F₃ N₃
      unfold rowDict at N₃
      ktr_unf
      all_goals first
        | exact Hb2.exit _ _ _ _ (by assumption) (by assumption) ⟨hs₂, ht₂, ex3 r _ _ ⟨⟨hq0, hr0, hr1, hlay, hstop, hword, by intro h; first | assumption | omega⟩, rfl⟩⟩
        | (refine Hb2.next _ _ _ _ (T.length - (r + 1)).toNat (by assumption) (by assumption) (by omega) ⟨hs₂, ht₂, ex3 (r + 1) _ _ ⟨by omega, by omega, fun k h1 h2 => ?_, Nat.le_refl _, rfl⟩⟩
           by_cases hk : k < r
           · exact hword k h1 hk
           · have : k = r := by omega
             subst this
             assumption)
    · clear F' N'
      intro GG HH m₂ nx h₃ tk₃ R₃
      obtain ⟨hs₂, ht₂, r, t2'', t3'', hT, rfl⟩ := R₃
      refine HH _ _ _ _ ?_
      clear HH GG
      intro F₃ N₃
      unfold rowDict at N₃
      ktr_unf
      exact hret q r _ _ _ _ _ hT (by assumption) (by assumption)


end Mine
end
section
open PySem PySem.W PySem.Calls PyProof.Rows PyProof.V PySem.Spec
set_option maxHeartbeats 20000000
namespace Mine
theorem strm_lines0 : True := by
  k_with_none
  (k_with "k_room" => ktr_room)
  (k_with "k_all" => assumption)
  (k_with "ktr_rel" => first | assumption | rfl | ((refine (if_neg (by decide)).trans ?_); ktr_rel))
  (k_with "eval Name" => (k_here; k_dflt (refine' ld ?q9k1 ?q9k2 ?_; (case q9k1 => k_asm); (case q9k2 => first | assumption | rfl | ((refine (if_neg (by decide)).trans ?_); first | assumption | ktr_rel)); k_whole)))
  (k_with "exec Raise some none" => (k_here; with_reducible refine fe_raise rfl ?_))
  (k_with "call ref" => (k_here; (with_reducible show wpAny _ _ (call (Value.ref 45) _) _ _ _); k_dflt (first
  | (refine' rets_use2 (fe_make _ _ _ _ _ _ _ _ rfl) ?q9k1 ?q9k2 ?q9k3 ?q9k4 ?q9k5 ?q9k6 ?q9k7 ?q9k8 ?_; (case q9k1 => k_asm); (case q9k2 => k_asm); (case q9k3 => k_asm); (case q9k4 => k_asm); (case q9k5 => k_asm); (case q9k6 => first | exact rfl | assumption); (case q9k7 => ktr_room); (case q9k8 => ktr_units))
  | (refine' rets_use2 (fe_make2 _ _ _ _ _ _ rfl) ?q9k1 ?q9k2 ?q9k3 ?q9k4 ?q9k5 ?q9k6 ?q9k7 ?q9k8 ?_; (case q9k1 => k_asm); (case q9k2 => k_asm); (case q9k3 => k_asm); (case q9k4 => k_asm); (case q9k5 => k_asm); (case q9k6 => first | exact rfl | assumption); (case q9k7 => ktr_room); (case q9k8 => ktr_units))); intro GG9 HH9; refine FeMade.out ?_; intro h9 tk9 e9 d9 p9 _ _ _ _ _ _ l9 m9; refine HH9 _ _ _ _ ?_; clear HH9 GG9; intro F9 N9; (try dsimp only)))
  (k_with "Exists" => (k_here; refine ⟨_, _, _, rfl, by k_in, News.get (by k_asm) (List.Mem.tail _ (List.Mem.head _)), ?_⟩; (try dsimp only)))
  (k_with "leaving ref" => (k_here; first
  | (refine' fe_leave_first ?q9k1 ?q9k2 ?q9k3 ?q9k4 ?q9k5 ?_; (case q9k1 => assumption); (case q9k2 => k_asm); (case q9k3 => k_asm); (case q9k4 => (intro p hp; exact Nat.ne_of_lt (by (first | exact l9 p hp | (rename ∀ p ∈ _, @LT.lt Nat _ _ _ => l9; exact l9 p hp))))); (case q9k5 => exact Nat.ne_of_gt (by assumption)); intro h' R' U'; (try dsimp only at R' U' ⊢))
  | (refine' fe_leave_on ?q9k1 ?q9k2 ?q9k3 ?q9k4 ?_; (case q9k3 => assumption); (case q9k1 => assumption); (case q9k4 => assumption); (case q9k2 => assumption); intro h' R' U'; (try dsimp only at R' U' ⊢))))
  (k_with "subscriptTail" => (k_here; (with_reducible show wpAny _ _ (subscriptTail _ _ (Value.str _ _) (Value.int _ _)) _ _ _); (refine item_str (fitsSsize_of (N := 9223372036854775808) (by omega) (by omega) (Int.le_refl _)) (by omega) (by omega) ?_); intro hlen9))
  (k_with "ktr_unf" => repeat' ((fail_if_success (with_reducible show wpAny _ _ (exec (Stmt.While _ _ _ _) _) _ _ _)); first | (k_unfold; (try dsimp only)) | (k_end; wrow_close) | walk1 | (dsimp only; walk1) | (leave1; walk_say "STEP leave1"; try dsimp only) | fail "no step"))
  (k_with "subscriptTail" => (k_here; (with_reducible show wpAny _ _ (subscriptTail _ (Expr.Slice (some _) (some _) none _) (Value.str _ _) (Value.ref _)) _ _ _); (with_reducible rename Fr _ _ _ _ => F'); (with_reducible rename News _ _ _ _ => N'); (refine slice_strN_ss (hsz := ?q9hsz) (s := ⟨_, _, _, _, _⟩) F' N' ?_); (case q9hsz => (rw [sizeLine_eq]; omega)); intro _ _ _ _ _))
  (k_with "k_updF" => first | (refine' UpdF.head ?q9a; (case q9a => k_all)) | (refine' UpdF.tail ?q9a ?q9b; (case q9a => k_ne); (case q9b => k_updF)))
  trivial

theorem TakeRel.unique {T : Str} {p a q a' q' : Int} (x : TakeRel T p a q) (y : TakeRel T p a' q') : a = a' ∧ q = q' := by
  obtain ⟨x1, x2, x3, x4, x5, x6, x7⟩ := x
  obtain ⟨y1, y2, y3, y4, y5, y6, y7⟩ := y
  have ha : a = a' := by
    by_cases h : a < a'
    · have := y4 a x1 h
      rw [x5 (by omega)] at this; cases this
    · by_cases h' : a' < a
      · have := x4 a' y1 h'
        rw [y5 (by omega)] at this; cases this
      · omega
  subst ha
  refine ⟨rfl, ?_⟩
  by_cases h : q < q'
  · have := y6 q x2 h
    rw [x7 (by omega)] at this; cases this
  · by_cases h' : q' < q
    · have := x6 q' y2 h'
      rw [y7 (by omega)] at this; cases this
    · omega

abbrev eS : Str := Str.ofString ""
/-- from place p on the text holds these words at these places, and no other -/
inductive Strm (T : Str) : Int → List (Str × Int) → Prop
  | nil {p : Int} : TakeRel T p T.length T.length → Txt.slice T (some (T.length : Int)) (some (T.length : Int)) = eS → Strm T p []
  | cons {p a q : Int} {w : Str} {ws : List (Str × Int)} : TakeRel T p a q → w = Txt.slice T (some a) (some q) → w ≠ eS → Strm T q ws → Strm T p ((w, a) :: ws)

def hdW : List (Str × Int) → Str
  | [] => eS
  | (w, _) :: _ => w
def hdA (T : Str) : List (Str × Int) → Int
  | [] => T.length
  | (_, a) :: _ => a
theorem Strm.end {T : Str} {p : Int} (h : Strm T p []) : Strm T T.length [] := by
  cases h with
  | nil r e => exact .nil ⟨Int.le_refl _, Int.le_refl _, Int.le_refl _, fun k a b => by omega, fun h => absurd h (Int.lt_irrefl _), fun k a b => by omega, fun h => absurd h (Int.lt_irrefl _)⟩ e
theorem Strm.low {T : Str} {p : Int} {ws : List (Str × Int)} (h : Strm T p ws) : p ≤ T.length := by
  cases h with
  | nil r _ => exact r.1
  | cons r _ _ _ => obtain ⟨a, b, c, _⟩ := r; omega

theorem Strm.ok {T : Str} {p : Int} {ws : List (Str × Int)} (h : Strm T p ws) : ∀ x ∈ ws, x.1 ≠ eS := by
  induction h with
  | nil _ _ => intro x hx; cases hx
  | cons _ _ hw _ ih =>
    intro x hx
    rcases List.mem_cons.mp hx with rfl | hx
    · exact hw
    · exact ih x hx

theorem take_strm : ∀ (w : World) (news : List (Addr × Obj)) (upd : Obj → List (Addr × Obj)) (wr dwr : Nat) (k1 k2 k3 t1 t2 t3 : Tok) (T : Str) (p at' : Int) (ws : List (Str × Int)),
    UpdF dwr (rowDict w.params k1 k2 k3 t1 t2 t3 T p at') news upd → (wr, instObj 113 dwr) ∈ news → wr ≠ dwr → 0 ≤ p → Strm T p ws → T.length < 1000000 →
    Rets w 103 [.ref wr] 3 30 news fun r news' => ∃ q t t2' t3', 0 ≤ q ∧ Strm T q ws.tail ∧ r = .str (hdW ws) t ∧ news' = upd (rowDict w.params k1 k2 k3 t1 t2' t3' T q (hdA T ws)) := by
  intro w news upd wr dwr k1 k2 k3 t1 t2 t3 T p at' ws U hm hne hp hs hT
  intro mean mg mb dp un gd cn cs a ccd cl outer A₀ base h₀ L m s Q E B F X N Tp hk hd hu hret
  refine rets_use (take_spec w news upd wr dwr k1 k2 k3 t1 t2 t3 T p at' U hm hne hp hs.low hT rfl) B F X N Tp hk hd hu ?_
  rintro r news' h' tk' F' N' ⟨a', q', t, t2', t3', hr, rfl, rfl⟩
  cases hs with
  | nil r e =>
    obtain ⟨rfl, rfl⟩ := hr.unique r
    exact hret _ _ _ _ F' N' ⟨_, t, t2', t3', by omega, (Strm.nil r e).end, by rw [e]; rfl, rfl⟩
  | cons r e hw hs' =>
    obtain ⟨rfl, rfl⟩ := hr.unique r
    exact hret _ _ _ _ F' N' ⟨_, t, t2', t3', by obtain ⟨x1, x2, _⟩ := hr; omega, hs', by rw [e]; rfl, rfl⟩

/-- the words before the next end word, and what stands behind it -/
noncomputable def cutEnd : List (Str × Int) → Option (List Str × List (Str × Int))
  | [] => none
  | (w, _) :: ws => if w = Str.ofString "$end" then some ([], ws) else (cutEnd ws).map fun x => (w :: x.1, x.2)


end Mine
end
section
open PySem PySem.W PySem.Calls PyProof.Rows PyProof.V PySem.Spec
set_option maxHeartbeats 20000000
namespace Mine
theorem draw_lines0 : True := by
  k_with_none
  (k_with "k_room" => ktr_room)
  (k_with "k_all" => assumption)
  (k_with "ktr_rel" => first | assumption | rfl | ((refine (if_neg (by decide)).trans ?_); ktr_rel))
  (k_with "eval Name" => (k_here; k_dflt (refine' ld ?q9k1 ?q9k2 ?_; (case q9k1 => k_asm); (case q9k2 => first | assumption | rfl | ((refine (if_neg (by decide)).trans ?_); first | assumption | ktr_rel)); k_whole)))
  (k_with "exec Raise some none" => (k_here; with_reducible refine fe_raise rfl ?_))
  (k_with "call ref" => (k_here; (with_reducible show wpAny _ _ (call (Value.ref 45) _) _ _ _); k_dflt (first
  | (refine' rets_use2 (fe_make _ _ _ _ _ _ _ _ rfl) ?q9k1 ?q9k2 ?q9k3 ?q9k4 ?q9k5 ?q9k6 ?q9k7 ?q9k8 ?_; (case q9k1 => k_asm); (case q9k2 => k_asm); (case q9k3 => k_asm); (case q9k4 => k_asm); (case q9k5 => k_asm); (case q9k6 => first | exact rfl | assumption); (case q9k7 => ktr_room); (case q9k8 => ktr_units))
  | (refine' rets_use2 (fe_make2 _ _ _ _ _ _ rfl) ?q9k1 ?q9k2 ?q9k3 ?q9k4 ?q9k5 ?q9k6 ?q9k7 ?q9k8 ?_; (case q9k1 => k_asm); (case q9k2 => k_asm); (case q9k3 => k_asm); (case q9k4 => k_asm); (case q9k5 => k_asm); (case q9k6 => first | exact rfl | assumption); (case q9k7 => ktr_room); (case q9k8 => ktr_units))); intro GG9 HH9; refine FeMade.out ?_; intro h9 tk9 e9 d9 p9 _ _ _ _ _ _ l9 m9; refine HH9 _ _ _ _ ?_; clear HH9 GG9; intro F9 N9; (try dsimp only)))
  (k_with "Exists" => (k_here; refine ⟨_, _, _, rfl, by k_in, News.get (by k_asm) (List.Mem.tail _ (List.Mem.head _)), ?_⟩; (try dsimp only)))
  (k_with "leaving ref" => (k_here; first
  | (refine' fe_leave_first ?q9k1 ?q9k2 ?q9k3 ?q9k4 ?q9k5 ?_; (case q9k1 => assumption); (case q9k2 => k_asm); (case q9k3 => k_asm); (case q9k4 => (intro p hp; exact Nat.ne_of_lt (by (first | exact l9 p hp | (rename ∀ p ∈ _, @LT.lt Nat _ _ _ => l9; exact l9 p hp))))); (case q9k5 => exact Nat.ne_of_gt (by assumption)); intro h' R' U'; (try dsimp only at R' U' ⊢))
  | (refine' fe_leave_on ?q9k1 ?q9k2 ?q9k3 ?q9k4 ?_; (case q9k3 => assumption); (case q9k1 => assumption); (case q9k4 => assumption); (case q9k2 => assumption); intro h' R' U'; (try dsimp only at R' U' ⊢))))
  (k_with "subscriptTail" => (k_here; (with_reducible show wpAny _ _ (subscriptTail _ _ (Value.str _ _) (Value.int _ _)) _ _ _); (refine item_str (fitsSsize_of (N := 9223372036854775808) (by omega) (by omega) (Int.le_refl _)) (by omega) (by omega) ?_); intro hlen9))
  (k_with "ktr_unf" => repeat' ((fail_if_success (with_reducible show wpAny _ _ (exec (Stmt.While _ _ _ _) _) _ _ _)); first | (k_unfold; (try dsimp only)) | (k_end; wrow_close) | walk1 | (dsimp only; walk1) | (leave1; walk_say "STEP leave1"; try dsimp only) | fail "no step"))
  (k_with "subscriptTail" => (k_here; (with_reducible show wpAny _ _ (subscriptTail _ (Expr.Slice (some _) (some _) none _) (Value.str _ _) (Value.ref _)) _ _ _); (with_reducible rename Fr _ _ _ _ => F'); (with_reducible rename News _ _ _ _ => N'); (refine slice_strN_ss (hsz := ?q9hsz) (s := ⟨_, _, _, _, _⟩) F' N' ?_); (case q9hsz => (rw [sizeLine_eq]; omega)); intro _ _ _ _ _))
  (k_with "k_updF" => first | (refine' UpdF.head ?q9a; (case q9a => k_all)) | (refine' UpdF.tail ?q9a ?q9b; (case q9a => k_ne); (case q9b => k_updF)))
  (k_with "kwd_rel" => first | exact List.forall_mem_nil _ | ((refine' List.forall_mem_cons.mpr ⟨?q9aa, ?q9bb⟩); (case q9aa => k_mem); (case q9bb => kwd_rel)) | (intro p hp; repeat (first | exact hp | refine List.Mem.tail _ ?_)))
  trivial

theorem dr_pos {x b : Int} (h : 0 ≤ x) (hb : 0 ≤ b) : 0 ≤ (x + 7919 * (b + 1) + 3) * (x + 7919 * (b + 1) + 3) * 69069 + (b + 1) := by
  have : 0 ≤ (x + 7919 * (b + 1) + 3) * (x + 7919 * (b + 1) + 3) := Int.mul_nonneg (by omega) (by omega)
  omega

/-- what a draw leaves: the jar's list by f -/
inductive DrawR (b count : Int) (C : Nat) (f : Obj → List (Addr × Obj)) : Value → List (Addr × Obj) → Prop
  | mk (got a' b' : Int) (t t1 t2 : Tok) (n' : Nat) : 0 ≤ got → got < count → 0 ≤ a' → b ≤ b' → b' ≤ b + 1 → DrawR b count C f (.int got t) (f (listOf #[.int a' t1, .int b' t2, .ref C] n'))
theorem DrawR.out {b count : Int} {C : Nat} {f : Obj → List (Addr × Obj)} {G : Value → List (Addr × Obj) → Heap → Nat → Prop} (k : ∀ h' tk' (got a' b' : Int) (t t1 t2 : Tok) (n' : Nat), 0 ≤ got → got < count → 0 ≤ a' → b ≤ b' → b' ≤ b + 1 → G (.int got t) (f (listOf #[.int a' t1, .int b' t2, .ref C] n')) h' tk') : ∀ r n h' tk', DrawR b count C f r n → G r n h' tk' := by
  intro r n h' tk' h
  cases h
  exact k _ _ _ _ _ _ _ _ _ (by assumption) (by assumption) (by assumption) (by assumption) (by assumption)
theorem draw_core : ∀ (w : World) (rest : List (Addr × Obj)) (J C n nc : Nat) (a b count : Int) (ta tb tc : Tok) (cv : List Value) (ns : List Int),
    (∀ q ∈ rest, q.1 ≠ J) → J ≠ C → IntsAre cv ns → 1 ≤ ns.length → ns.length ≤ 40 → 0 ≤ a → 0 ≤ b → b ≤ 1000 → 1 ≤ count → count ≤ 100 → (Mine.hd.heap_39 w.params = Mine.hd.heap_39 w.params) →
    Rets w 194 [.ref J, .int count tc] 8 80 ((J, listOf #[.int a ta, .int b tb, .ref C] n) :: (C, listOf cv.toArray nc) :: rest)
      (DrawR b count C fun o => (J, o) :: (C, listOf cv.toArray nc) :: rest) := by
  unfold Rets
  k_fill
  intro w rest J C n nc xa xb count ta tb tc cv ns hoff hne hi hn1 hn2 ha hb hb2 hc1 hc2 _ mean mg mb dp un gd cn cs a ccd cl outer A₀ base h₀ L m s Q E B F X N Tp hk hd hu hret
  refine wpAny_call ?_
  k_dflt ktr_enter
  k_steps
  all_goals
    refine' hret _ _ _ _ (by assumption) (by assumption) (.mk _ _ _ _ _ _ _ ?_ ?_ ?_ ?_ ?_)
    all_goals first
      | omega
      | exact Int.fmod_nonneg_of_pos _ (by omega)
      | exact Int.fmod_lt_of_pos _ (by omega)
      | exact Int.fdiv_nonneg (by first | omega | exact Int.fmod_nonneg_of_pos _ (by decide) | exact dr_pos (Int.fmod_nonneg_of_pos _ (by decide)) hb) (by omega)


end Mine
end
section
open PySem PySem.W PySem.Calls PyProof.Rows PyProof.V PySem.Spec
set_option maxHeartbeats 20000000
namespace Mine
theorem draw_spec : ∀ (w : World) (news : List (Addr × Obj)) (upd : Obj → List (Addr × Obj)) (J C n nc : Nat) (a b count : Int) (ta tb tc : Tok) (cv : List Value) (ns : List Int),
    UpdF J (listOf #[.int a ta, .int b tb, .ref C] n) news upd → (C, listOf cv.toArray nc) ∈ news → J ≠ C → IntsAre cv ns → 1 ≤ ns.length → ns.length ≤ 40 → 0 ≤ a → 0 ≤ b → b ≤ 1000 → 1 ≤ count → count ≤ 100 →
    Rets w 194 [.ref J, .int count tc] 8 80 news
      (DrawR b count C upd) := by
  intro w news upd J C n nc a b count ta tb tc cv ns U hC hne hi hn1 hn2 ha hb hb2 hc1 hc2
  intro mean mg mb dp un gd cn cs ad ccd cl outer A₀ base h₀ L m s Q E B F X N0 Tp hk hd hu hret
  obtain ⟨pre, post, rfl, hupd, hpre, hpost⟩ := U.split
  have hoff : ∀ q ∈ pre ++ post, q.1 ≠ J := fun q hq => (List.mem_append.mp hq).elim (hpre q) (hpost q)
  have N : News h₀ L s.heap ((J, listOf #[.int a ta, .int b tb, .ref C] n) :: (C, listOf cv.toArray nc) :: (pre ++ post)) := fun q hq => N0 q (by
    rcases List.mem_cons.mp hq with rfl | hq
    · exact List.mem_append_right _ (.head _)
    · rcases List.mem_cons.mp hq with rfl | hq
      · exact hC
      · rcases List.mem_append.mp hq with hq | hq
        · exact List.mem_append_left _ hq
        · exact List.mem_append_right _ (.tail _ hq))
  refine rets_use (draw_core w (pre ++ post) J C n nc a b count ta tb tc cv ns hoff hne hi hn1 hn2 ha hb hb2 hc1 hc2 rfl) B F X N Tp hk hd hu ?_
  rintro r news' h' tk' F' N' ⟨got, a', b', t, t1, t2, n', g1, g2, g3, g4, g5⟩
  refine hret _ _ _ _ F' ?_ ⟨got, a', b', t, t1, t2, n', g1, g2, g3, g4, g5⟩
  rw [hupd]
  intro x hx
  refine N' x ?_
  rcases List.mem_append.mp hx with hx | hx
  · exact .tail _ (.tail _ (List.mem_append_left _ hx))
  · rcases List.mem_cons.mp hx with rfl | hx
    · exact .head _
    · exact .tail _ (.tail _ (List.mem_append_right _ hx))

def EndO (h₀ : Heap) (L : Addr) (J : (Str → Option Value) → List (Addr × Obj) → Prop) (I : Addr) (oI : Obj) (s₁ s₂ : Shared) : Prop :=
  ∃ h' tk m' nx, s₂ = { s₁ with heap := h', toks := tk } ∧ Fr h₀ L h' m' ∧ News h₀ L h' ((I, oI) :: nx) ∧ (∀ p ∈ nx, p.1 ≠ I) ∧ J m' nx
def PostO (h₀ : Heap) (L : Addr) (J : (Str → Option Value) → List (Addr × Obj) → Prop) (I : Addr) (oI : Obj) (s₁ : Shared) (Q : Flow → Shared → Prop) (f : Flow) (s₂ : Shared) : Prop :=
  match f with
  | .ret v => Q (.ret v) s₂
  | .brk => Q .next s₂
  | _ => EndO h₀ L J I oI s₁ s₂
section
variable {prog : Program} {w : World} {A : Around} {E : Value → Shared → Prop} {s : Shared} {env : Env} {h₀ : Heap} {x : Str} {body : List Stmt} {Q : Flow → Shared → Prop}
/-- a for over a list of the ledger, its items any values; what lies in the ledger is the invariant's to say -/
theorem iter_own {l : Addr} {vs : List Value} {nn : Nat} {m₀ : Str → Option Value} {news : List (Addr × Obj)} (J : Nat → (Str → Option Value) → List (Addr × Obj) → Prop)
    (hh : A.handled = none) (hl : (l, listOf vs.toArray nn) ∈ news) (F : Fr h₀ env.locals s.heap m₀) (N : News h₀ env.locals s.heap news) (hj : J 0 m₀ news)
    (keep : ∀ i m nx, J i m nx → (l, listOf vs.toArray nn) ∈ nx)
    (turn : ∀ i v m₁ nx h tk I oI, vs[i]? = some v → (∀ p ∈ nx, p.1 ≠ I) → J i m₁ nx → Fr h₀ env.locals h (fun y => if y = x then some v else m₁ y) → News h₀ env.locals h ((I, oI) :: nx) →
      wpAny (model prog w) A (execs body env) (PostO h₀ env.locals (J (i + 1)) I oI { s with heap := h, toks := tk } Q) E { s with heap := h, toks := tk })
    (done : ∀ m₁ nx h tk, J vs.length m₁ nx → Fr h₀ env.locals h m₁ → News h₀ env.locals h nx → Q .next { s with heap := h, toks := tk }) :
    wpAny (model prog w) A (pyIter (.ref l)) (fun it s₂ => LoopAtV prog w A h₀ env x body Q E it s₂) E s := by
  have hol : s.heap.get? l = some (listOf vs.toArray nn) := (N _ hl).1
  have hls : s.heap.IsList l vs.toArray := ⟨_, hol, rfl, nn, rfl⟩
  have hne : l ≠ s.heap.objs.size := Nat.ne_of_lt (Heap.lt_size hol)
  have W := Walks.list (prog := prog) (w := w) hh s.heap.objs.size l hne vs.toArray
  have hlen : vs.toArray.size = vs.length := List.size_toArray
  rw [hlen] at W
  refine wpAny_pyIter_list hls ⟨s.heap.objs.size, [s.heap.objs.size, l], [s.heap.objs.size], vs.length, _, _, m₀, news, J, rfl, W, fun hm => ?_, fun b hb => ?_, fun p hp hI => ?_, ⟨⟨_, Heap.get?_push_size _ rfl, rfl, rfl⟩, hls.at fun o e => Heap.get?_push_of_some _ e⟩, F.push _, (fun p hp => ⟨Heap.get?_push_of_some _ (N p hp).1, (N p hp).2⟩), hj, ?_, fun h' tk m' nx F' N' _ hJ => done m' nx h' tk hJ F' N'⟩
  · rcases List.mem_cons.mp hm with e | hm
    · exact absurd F.ns.lt (e ▸ Nat.lt_irrefl _)
    · exact (N _ hl).2.1 (List.mem_singleton.mp hm).symm
  · rw [List.mem_singleton.mp hb]
    exact next_is_new F
  · exact absurd (Heap.lt_size (N p hp).1) ((List.mem_singleton.mp hI) ▸ Nat.lt_irrefl _)
  · rintro i v m₁ nx s₁ own ⟨h1, tk1, rfl⟩ hin hP hJ hoff hown hget hfp hst F₁ N₁
    obtain ⟨oI, hoI, _⟩ := id hst.1
    have hI : (s.heap.objs.size, oI) ∈ own := hfp _ (.head _) (next_is_new F) _ hoI
    have hlo := (N₁ _ (List.mem_append_right _ (keep i m₁ nx hJ))).1
    have hPv : vs[i]? = some v := by simpa using hP
    have N₂ : News h₀ env.locals h1 ((s.heap.objs.size, oI) :: nx) := fun p hp => N₁ p (by
      rcases List.mem_cons.mp hp with rfl | hp
      · exact List.mem_append_left _ hI
      · exact List.mem_append_right _ hp)
    have out : EndO h₀ env.locals (J (i + 1)) s.heap.objs.size oI { s with heap := h1, toks := tk1 } = fun s₂ => EndO h₀ env.locals (J (i + 1)) s.heap.objs.size oI { s with heap := h1, toks := tk1 } s₂ := rfl
    have fin : ∀ s₂, EndO h₀ env.locals (J (i + 1)) s.heap.objs.size oI { s with heap := h1, toks := tk1 } s₂ → LoopStepU h₀ env.locals [s.heap.objs.size] own (J (i + 1)) { s with heap := h1, toks := tk1 } .next s₂ := by
      rintro s₂ ⟨h', tk, m', nx', e, F', N', ho, hm⟩
      refine ⟨rfl, h', tk, m', nx', e, F', fun p hp => ?_, fun p hp hq => ho p hp (List.mem_singleton.mp hq), hm⟩
      rcases List.mem_append.mp hp with hp | hp
      · have h2 := hget p hp
        rcases List.mem_cons.mp (hown p hp) with h3 | h3
        · refine N' p ?_
          rw [h3] at h2
          have h4 : p.2 = oI := Option.some.inj (h2.symm.trans hoI)
          rw [show p = (s.heap.objs.size, oI) from Prod.ext h3 h4]
          exact .head _
        · have h3' := List.mem_singleton.mp h3
          refine N' p (.tail _ ?_)
          rw [h3'] at h2
          have h4 : p.2 = listOf vs.toArray nn := Option.some.inj (h2.symm.trans hlo)
          rw [show p = (l, listOf vs.toArray nn) from Prod.ext h3' h4]
          exact keep _ _ _ hm
      · exact N' p (.tail _ hp)
    refine wpAny_mono (turn i v m₁ nx h1 tk1 _ oI hPv (fun p hp hq => hoff p hp (by rw [hq]; exact .head _)) hJ F₁ N₂) (fun f s₂ p => ?_) fun _ _ e => e
    cases f with
    | ret v => exact .ret p
    | brk => exact .brk p
    | next => exact .next (fin _ p)
    | cont => exact .cont (fin _ p)
theorem iter_q {l : Addr} {vs : List Value} {nn : Nat} {m₀ : Str → Option Value} {news : List (Addr × Obj)} (J : Nat → (Str → Option Value) → List (Addr × Obj) → Prop)
    (hh : A.handled = none) (hl : (l, listOf vs.toArray nn) ∈ news) (F : Fr h₀ env.locals s.heap m₀) (N : News h₀ env.locals s.heap news) (hj : J 0 m₀ news)
    (keep : ∀ i m nx, J i m nx → (l, listOf vs.toArray nn) ∈ nx)
    (turn : ∀ i v I oI Qb, vs[i]? = some v → ∀ G : (Str → Option Value) → List (Addr × Obj) → Heap → Nat → Prop, (∀ m₁ nx h tk, ((∀ p ∈ nx, p.1 ≠ I) → Fr h₀ env.locals h (fun y => if y = x then some v else m₁ y) → News h₀ env.locals h ((I, oI) :: nx) →
        (∀ h' tk' m' nx', Fr h₀ env.locals h' m' → News h₀ env.locals h' ((I, oI) :: nx') → (∀ p ∈ nx', p.1 ≠ I) → J (i + 1) m' nx' → Qb .next { s with heap := h', toks := tk' }) →
        wpAny (model prog w) A (execs body env) Qb E { s with heap := h, toks := tk }) → G m₁ nx h tk) → ∀ m₁ nx h tk, J i m₁ nx → G m₁ nx h tk)
    (done : ∀ G : (Str → Option Value) → List (Addr × Obj) → Heap → Nat → Prop, (∀ m₁ nx h tk, (Fr h₀ env.locals h m₁ → News h₀ env.locals h nx → Q .next { s with heap := h, toks := tk }) → G m₁ nx h tk) → ∀ m₁ nx h tk, J vs.length m₁ nx → G m₁ nx h tk) :
    wpAny (model prog w) A (pyIter (.ref l)) (fun it s₂ => LoopAtV prog w A h₀ env x body Q E it s₂) E s :=
  iter_own J hh hl F N hj keep (fun i v m₁ nx h tk I oI hv hI hJ F' N' => turn i v I oI (PostO h₀ env.locals (J (i + 1)) I oI { s with heap := h, toks := tk } Q) hv
      (fun m₁ nx h' tk' => h' = h → tk' = tk → (∀ p ∈ nx, p.1 ≠ I) → Fr h₀ env.locals h' (fun y => if y = x then some v else m₁ y) → News h₀ env.locals h' ((I, oI) :: nx) → wpAny (model prog w) A (execs body env) (PostO h₀ env.locals (J (i + 1)) I oI { s with heap := h, toks := tk } Q) E { s with heap := h', toks := tk' })
      (fun m₁ nx h' tk' p e1 e2 a b c => p a b c (fun h' tk' m' nx' a b c d => ⟨h', tk', m', nx', rfl, a, b, c, d⟩)) m₁ nx h tk hJ rfl rfl hI F' N')
    (fun m₁ nx h tk hJ F' N' => done (fun m₁ nx h tk => Fr h₀ env.locals h m₁ → News h₀ env.locals h nx → Q .next { s with heap := h, toks := tk }) (fun _ _ _ _ p => p) m₁ nx h tk hJ F' N')
end

end Mine
end
section
open PySem PySem.W PySem.Calls PyProof.Rows PyProof.V PySem.Spec
set_option maxHeartbeats 20000000
namespace Mine
theorem until_lines0 : True := by
  k_with_none
  (k_with "k_room" => ktr_room)
  (k_with "k_all" => assumption)
  (k_with "ktr_rel" => first | assumption | rfl | ((refine (if_neg (by decide)).trans ?_); ktr_rel))
  (k_with "eval Name" => (k_here; k_dflt (refine' ld ?q9k1 ?q9k2 ?_; (case q9k1 => k_asm); (case q9k2 => first | assumption | rfl | ((refine (if_neg (by decide)).trans ?_); first | assumption | ktr_rel)); k_whole)))
  (k_with "exec Raise some none" => (k_here; with_reducible refine fe_raise rfl ?_))
  (k_with "call ref" => (k_here; (with_reducible show wpAny _ _ (call (Value.ref 45) _) _ _ _); k_dflt (first
  | (refine' rets_use2 (fe_make _ _ _ _ _ _ _ _ rfl) ?q9k1 ?q9k2 ?q9k3 ?q9k4 ?q9k5 ?q9k6 ?q9k7 ?q9k8 ?_; (case q9k1 => k_asm); (case q9k2 => k_asm); (case q9k3 => k_asm); (case q9k4 => k_asm); (case q9k5 => k_asm); (case q9k6 => first | exact rfl | assumption); (case q9k7 => ktr_room); (case q9k8 => ktr_units))
  | (refine' rets_use2 (fe_make2 _ _ _ _ _ _ rfl) ?q9k1 ?q9k2 ?q9k3 ?q9k4 ?q9k5 ?q9k6 ?q9k7 ?q9k8 ?_; (case q9k1 => k_asm); (case q9k2 => k_asm); (case q9k3 => k_asm); (case q9k4 => k_asm); (case q9k5 => k_asm); (case q9k6 => first | exact rfl | assumption); (case q9k7 => ktr_room); (case q9k8 => ktr_units))); intro GG9 HH9; refine FeMade.out ?_; intro h9 tk9 e9 d9 p9 _ _ _ _ _ _ l9 m9; refine HH9 _ _ _ _ ?_; clear HH9 GG9; intro F9 N9; (try dsimp only)))
  (k_with "Exists" => (k_here; refine ⟨_, _, _, rfl, by k_in, News.get (by k_asm) (List.Mem.tail _ (List.Mem.head _)), ?_⟩; (try dsimp only)))
  (k_with "leaving ref" => (k_here; first
  | (refine' fe_leave_first ?q9k1 ?q9k2 ?q9k3 ?q9k4 ?q9k5 ?_; (case q9k1 => assumption); (case q9k2 => k_asm); (case q9k3 => k_asm); (case q9k4 => (intro p hp; exact Nat.ne_of_lt (by (first | exact l9 p hp | (rename ∀ p ∈ _, @LT.lt Nat _ _ _ => l9; exact l9 p hp))))); (case q9k5 => exact Nat.ne_of_gt (by assumption)); intro h' R' U'; (try dsimp only at R' U' ⊢))
  | (refine' fe_leave_on ?q9k1 ?q9k2 ?q9k3 ?q9k4 ?_; (case q9k3 => assumption); (case q9k1 => assumption); (case q9k4 => assumption); (case q9k2 => assumption); intro h' R' U'; (try dsimp only at R' U' ⊢))))
  (k_with "subscriptTail" => (k_here; (with_reducible show wpAny _ _ (subscriptTail _ _ (Value.str _ _) (Value.int _ _)) _ _ _); (refine item_str (fitsSsize_of (N := 9223372036854775808) (by omega) (by omega) (Int.le_refl _)) (by omega) (by omega) ?_); intro hlen9))
  (k_with "ktr_unf" => repeat' ((fail_if_success (with_reducible show wpAny _ _ (exec (Stmt.While _ _ _ _) _) _ _ _)); first | (k_unfold; (try dsimp only)) | (k_end; wrow_close) | walk1 | (dsimp only; walk1) | (leave1; walk_say "STEP leave1"; try dsimp only) | fail "no step"))
  (k_with "subscriptTail" => (k_here; (with_reducible show wpAny _ _ (subscriptTail _ (Expr.Slice (some _) (some _) none _) (Value.str _ _) (Value.ref _)) _ _ _); (with_reducible rename Fr _ _ _ _ => F'); (with_reducible rename News _ _ _ _ => N'); (refine slice_strN_ss (hsz := ?q9hsz) (s := ⟨_, _, _, _, _⟩) F' N' ?_); (case q9hsz => (rw [sizeLine_eq]; omega)); intro _ _ _ _ _))
  (k_with "k_updF" => first | (refine' UpdF.head ?q9a; (case q9a => k_all)) | (refine' UpdF.tail ?q9a ?q9b; (case q9a => k_ne); (case q9b => k_updF)))
  (k_with "call ref" => (k_here; (with_reducible show wpAny _ _ (call (Value.ref 103) _) _ _ _); k_dflt (
   (refine' rets_use2 (take_strm _ _ _ _ _ _ _ _ _ _ _ _ _ _ _ ?q9u1 ?q9u2 ?q9u3 ?q9u4 ?q9u5 ?q9u6) ?q9k1 ?q9k2 ?q9k3 ?q9k4 ?q9k5 ?q9k6 ?q9k7 ?q9k8 ?_; (case q9k1 => k_asm); (case q9k2 => k_asm); (case q9k3 => k_asm); (case q9k4 => k_asm); (case q9k5 => k_asm); (case q9k6 => first | exact rfl | assumption); (case q9k7 => ktr_room); (case q9k8 => ktr_units); (case q9u2 => k_mem); (case q9u1 => (unfold rowDict; k_updF)); (case q9u3 => k_ne); (case q9u4 => assumption); (case q9u5 => assumption); (case q9u6 => assumption))); intro GG9 HH9 r9 n9 h9 tk9 R9; obtain ⟨q9, t9, tt9, ta9, q09, S9, E9, G9⟩ := R9; subst E9 G9; refine HH9 _ _ _ _ ?_; clear HH9 GG9; intro F9 N9; (try unfold rowDict at N9); (try dsimp only at N9); (try dsimp only)))
  trivial

/-- both outcomes of a call: R tells the answer and the ledger, Z the FormatError -/
def Both (w : World) (f : Addr) (vs : List Value) (nd nu : Nat) (news keep : List (Addr × Obj)) (R : Value → List (Addr × Obj) → Prop) (Z : Str → Int → Str → Prop) : Prop :=
  ∀ (mean : ExcName → Option Value) (mg mb : Str → Option Value) (dp un : Nat) (gd : Option (List Code)) (cn : Str) (cs : Scope) (a : Addr) (ccd : Value) (cl : List (Str × Addr)) (outer : List Env) (A₀ : Around) (base h₀ : Heap) (L : Addr) (m : Str → Option Value) (s : Shared) (Q E : Value → Shared → Prop),
    Below A₀ base outer h₀ → Fr h₀ L s.heap m → (Mine.hd.heap_39 w.params).In h₀ → News h₀ L s.heap news → TopM mean mg mb h₀ → cs.kind = .function → dp + nd < recursionLimit → un + nu < cLine →
    (∀ r news' h' tk', Fr h₀ L h' m → News h₀ L h' news' → R r news' → Q r { s with heap := h', toks := tk' }) →
    (∀ kind at' detail, Z kind at' detail → ∀ e g h' tk', Fr h₀ L g m → g.UpToSlots h' → FErr w.params base (envX cn cs L a ccd cl :: outer) e kind at' detail keep h' → E (.ref e) { s with heap := h', toks := tk' }) →
    wpAny (model PySem.Challenge.rw_on0102_01.row.prog w) (ktrTop dp un gd cn cs L a ccd cl outer) (call (.ref f) vs) Q E s
section
variable {w : World} {f : Addr} {vs : List Value} {nd nu : Nat} {news keep : List (Addr × Obj)} {R : Value → List (Addr × Obj) → Prop} {Z : Str → Int → Str → Prop}
  {mean : ExcName → Option Value} {mg mb : Str → Option Value} {dp un : Nat} {gd : Option (List Code)} {cn : Str} {cs : Scope} {a : Addr} {ccd : Value} {cl : List (Str × Addr)} {outer : List Env} {A₀ : Around} {base h₀ : Heap} {L : Addr} {m : Str → Option Value} {s : Shared} {Q E : Value → Shared → Prop}
theorem both_use (C : Both w f vs nd nu news keep R Z) (B : Below A₀ base outer h₀) (F : Fr h₀ L s.heap m) (X : (Mine.hd.heap_39 w.params).In h₀) (N : News h₀ L s.heap news) (T : TopM mean mg mb h₀) (hk : cs.kind = .function) (hd : dp + nd < recursionLimit) (hu : un + nu < cLine)
    (ret : ∀ r news' h' tk', Fr h₀ L h' m → News h₀ L h' news' → R r news' → Q r { s with heap := h', toks := tk' })
    (err : ∀ kind at' detail, Z kind at' detail → ∀ e g h' tk', Fr h₀ L g m → g.UpToSlots h' → FErr w.params base (envX cn cs L a ccd cl :: outer) e kind at' detail keep h' → E (.ref e) { s with heap := h', toks := tk' }) :
    wpAny (model PySem.Challenge.rw_on0102_01.row.prog w) (ktrTop dp un gd cn cs L a ccd cl outer) (call (.ref f) vs) Q E s := C _ _ _ _ _ _ _ _ _ _ _ _ _ _ _ _ _ _ _ _ B F X N T hk hd hu ret err
theorem both_use2 (C : Both w f vs nd nu news keep R Z) (B : Below A₀ base outer h₀) (F : Fr h₀ L s.heap m) (X : (Mine.hd.heap_39 w.params).In h₀) (N : News h₀ L s.heap news) (T : TopM mean mg mb h₀) (hk : cs.kind = .function) (hd : dp + nd < recursionLimit) (hu : un + nu < cLine)
    (ret : ∀ G : Value → List (Addr × Obj) → Heap → Nat → Prop, (∀ r news' h' tk', (Fr h₀ L h' m → News h₀ L h' news' → Q r { s with heap := h', toks := tk' }) → G r news' h' tk') → ∀ r news' h' tk', R r news' → G r news' h' tk')
    (err : ∀ kind at' detail, Z kind at' detail → ∀ e g h' tk', Fr h₀ L g m → g.UpToSlots h' → FErr w.params base (envX cn cs L a ccd cl :: outer) e kind at' detail keep h' → E (.ref e) { s with heap := h', toks := tk' }) :
    wpAny (model PySem.Challenge.rw_on0102_01.row.prog w) (ktrTop dp un gd cn cs L a ccd cl outer) (call (.ref f) vs) Q E s := both_use C B F X N T hk hd hu (fun r n h' tk' F' N' R' => ret (fun r n h' tk' => Fr h₀ L h' m → News h₀ L h' n → Q r { s with heap := h', toks := tk' }) (fun _ _ _ _ p => p) r n h' tk' R' F' N') err
end

theorem str_of_bne {x y : Str} (h : (x != y) = false) : x = y := by simpa using h

theorem allLt_back {d : Addr} {l : List (Addr × Obj)} (h : AllLt d l) : ∀ p ∈ l, @LT.lt Nat _ p.1 d := by
  induction l with
  | nil => intro p hp; cases hp
  | cons q r ih =>
    intro p hp
    rcases List.mem_cons.mp hp with rfl | hp
    · exact h.1
    · exact ih h.2 p hp

/-- the word of until_end's loop: W is left, fnd found -/
inductive UntJ (w : World) (rest : List (Addr × Obj)) (wr dwr : Nat) (k1 k2 k3 t1 t3 : Tok) (T : Str) (at' : Int) (ws : List (Str × Int)) (m : Str → Option Value) (W : List (Str × Int)) : List (Addr × Obj) → Prop
  | mk (f : Nat) (fnd : List Str) (items : Array Value) (nn : Nat) (q : Int) (tw tt ta : Tok) (a' : Int) : m (Str.ofString "self") = some (.ref wr) → m (Str.ofString "start") = some (.int at' t3) → m (Str.ofString "found") = some (.ref f) →
    (@LT.lt Nat _ wr f ∧ @LT.lt Nat _ dwr f ∧ AllLt f rest) → m (Str.ofString "word") = some (.str (hdW W) tw) → 0 ≤ q → Strm T q W.tail → (∀ x ∈ W, x.1 ≠ eS) → StrsAre items.toList fnd → fnd.length + W.length ≤ 1000 → cutEnd ws = (cutEnd W).map (fun x => (fnd ++ x.1, x.2)) →
    UntJ w rest wr dwr k1 k2 k3 t1 t3 T at' ws m W ((f, listOf items nn) :: (wr, instObj 113 dwr) :: (dwr, rowDict w.params k1 k2 k3 t1 tt ta T q a') :: rest)

theorem until_core : ∀ (w : World) (rest : List (Addr × Obj)) (wr dwr : Nat) (k1 k2 k3 t1 t2 t3 : Tok) (T : Str) (p at' : Int) (ws : List (Str × Int)),
    (∀ q ∈ rest, q.1 ≠ dwr) → wr ≠ dwr → 0 ≤ p → Strm T p ws → T.length < 1000000 → ws.length ≤ 1000 → (Mine.hd.heap_39 w.params = Mine.hd.heap_39 w.params) →
    Both w 110 [.ref wr] 9 90 ((wr, instObj 113 dwr) :: (dwr, rowDict w.params k1 k2 k3 t1 t2 t3 T p at') :: rest) rest
      (fun r news' => ∃ (f : Nat) (items : Array Value) (n : Nat) (q : Int) (t2' t3' : Tok) (a' : Int) (fnd : List Str) (ws' : List (Str × Int)), cutEnd ws = some (fnd, ws') ∧ StrsAre items.toList fnd ∧ 0 ≤ q ∧ Strm T q ws' ∧ (∀ x ∈ ((wr, instObj 113 dwr) :: (dwr, rowDict w.params k1 k2 k3 t1 t2 t3 T p at') :: rest), @LT.lt Nat _ x.1 f) ∧
        r = .ref f ∧ news' = (f, listOf items n) :: (wr, instObj 113 dwr) :: (dwr, rowDict w.params k1 k2 k3 t1 t2' t3' T q a') :: rest)
      (fun kind a detail => cutEnd ws = none ∧ kind = Str.ofString "end_missing" ∧ a = at' ∧ detail = eS) := by
  unfold Both
  k_fill
  intro w rest wr dwr k1 k2 k3 t1 t2 t3 T p at' ws hoff hne hp hS hT hlen _ mean mg mb dp un gd cn cs a ccd cl outer A₀ base h₀ L m s Q E B F X N Tp hk hd hu hret herr
  unfold rowDict at N
  refine wpAny_call ?_
  k_dflt ktr_enter
  ktr_unf
  (rename Fr _ _ _ _ => F'); (rename News _ _ _ _ => N'); (rename _ < _ ∧ _ < _ ∧ AllLt _ _ => l1); (rename Strm _ _ _ => S9); (rename 0 ≤ _ => q09)
  refine While_q (fun n m nx => ∃ W, W.length ≤ n ∧ UntJ w rest wr dwr k1 k2 k3 t1 t3 T at' ws m W nx) (fun m nx => ∃ a1 W', UntJ w rest wr dwr k1 k2 k3 t1 t3 T at' ws m ((Str.ofString "$end", a1) :: W') nx) F' N'
    ⟨ws, Nat.le_refl _, .mk _ [] #[] 0 _ _ _ _ _ rfl rfl rfl l1 rfl q09 S9 hS.ok .nil (by simpa using hlen) (by cases cutEnd ws <;> rfl)⟩ ?_ ?_ (by with_unfolding_all passes_own)
  · clear F' N' l1 S9 q09
    intro n Qb Qx Hb GG HH m₁ nx h₂ tk₂ R₂
    obtain ⟨W, hWn, R₂⟩ := R₂
    obtain ⟨f, fnd, items, nn, q, tw, tt, ta, a', hs, hst, hf, l1, hw, hq, hSq, hok, hit, hsz, hcut⟩ := R₂
    refine HH _ _ _ _ ?_
    clear HH GG
    intro F₂ N₂
    unfold rowDict at N₂
    have hitz : items.size ≤ 1000 := by
      have := hit.len_eq
      simp only [Array.length_toList] at this
      omega
    rcases W with _ | ⟨⟨w1, a1⟩, W'⟩
    · ktr_unf
      all_goals exact herr _ _ _ ⟨by rw [hcut]; rfl, rfl, rfl, rfl⟩ _ _ _ _ (by assumption) (by assumption) (FErr.drop (by assumption) fun q hq => .tail _ (.tail _ (.tail _ hq)))
    · dsimp only [hdW, List.tail] at hw hSq
      by_cases he : w1 = Str.ofString "$end"
      · subst he
        ktr_unf
        all_goals exact Hb.exit _ _ _ _ (by assumption) (by assumption) ⟨a1, W', .mk f fnd items nn q _ _ _ _ hs hst hf l1 hw hq hSq hok hit hsz hcut⟩
      · have hne1 : w1 ≠ Str.ofString "" := hok _ (.head _)
        ktr_unf
        all_goals first
          | exact absurd (eq_of_beq (by assumption)) hne1
          | exact absurd (str_of_bne (by assumption)) he
          | (refine Hb.next _ _ _ _ W'.length (by assumption) (by assumption) (by simp at hWn; omega) ⟨W', Nat.le_refl _, .mk f (fnd ++ [w1]) _ _ _ _ _ _ _ (by ktr_rel) (by ktr_rel) (by ktr_rel) l1 (by ktr_rel) (by assumption) (by assumption) (fun x hx => hok x (.tail _ hx)) ?_ ?_ ?_⟩
             · rw [Array.toList_push]; exact hit.append' (.cons _ _ .nil)
             · simp only [List.length_append, List.length_cons, List.length_nil] at hsz ⊢; omega
             · rw [hcut, cutEnd, if_neg he]; cases cutEnd W' <;> simp)
  · clear F' N' l1 S9 q09
    intro GG HH m₁ nx h₂ tk₂ R₂
    obtain ⟨a1, W', R₂⟩ := R₂
    obtain ⟨f, fnd, items, nn, q, tw, tt, ta, a', hs, hst, hf, l1, hw, hq, hSq, hok, hit, hsz, hcut⟩ := R₂
    refine HH _ _ _ _ ?_
    clear HH GG
    intro F₂ N₂
    unfold rowDict at N₂
    have lf : ∀ x ∈ ((wr, instObj 113 dwr) :: (dwr, rowDict w.params k1 k2 k3 t1 t2 t3 T p at') :: rest), @LT.lt Nat _ x.1 f := by
      intro x hx
      rcases List.mem_cons.mp hx with rfl | hx
      · exact l1.1
      · rcases List.mem_cons.mp hx with rfl | hx
        · exact l1.2.1
        · exact allLt_back l1.2.2 _ hx
    dsimp only [List.tail] at hSq
    ktr_unf
    all_goals exact hret _ _ _ _ (by assumption) (by assumption) ⟨f, items, nn, q, tt, ta, a', fnd, W', by rw [hcut]; simp [cutEnd], hit, hq, hSq, lf, rfl, rfl⟩


end Mine
end
section
open PySem PySem.W PySem.Calls PyProof.Rows PyProof.V PySem.Spec
set_option maxHeartbeats 20000000
namespace Mine
theorem defs_lines0 : True := by
  k_with_none
  (k_with "k_room" => ktr_room)
  (k_with "k_all" => assumption)
  (k_with "ktr_rel" => first | assumption | rfl | ((refine (if_neg (by decide)).trans ?_); ktr_rel))
  (k_with "eval Name" => (k_here; k_dflt (refine' ld ?q9k1 ?q9k2 ?_; (case q9k1 => k_asm); (case q9k2 => first | assumption | rfl | ((refine (if_neg (by decide)).trans ?_); first | assumption | ktr_rel)); k_whole)))
  (k_with "exec Raise some none" => (k_here; with_reducible refine fe_raise rfl ?_))
  (k_with "call ref" => (k_here; (with_reducible show wpAny _ _ (call (Value.ref 45) _) _ _ _); k_dflt (first
  | (refine' rets_use2 (fe_make _ _ _ _ _ _ _ _ rfl) ?q9k1 ?q9k2 ?q9k3 ?q9k4 ?q9k5 ?q9k6 ?q9k7 ?q9k8 ?_; (case q9k1 => k_asm); (case q9k2 => k_asm); (case q9k3 => k_asm); (case q9k4 => k_asm); (case q9k5 => k_asm); (case q9k6 => first | exact rfl | assumption); (case q9k7 => ktr_room); (case q9k8 => ktr_units))
  | (refine' rets_use2 (fe_make2 _ _ _ _ _ _ rfl) ?q9k1 ?q9k2 ?q9k3 ?q9k4 ?q9k5 ?q9k6 ?q9k7 ?q9k8 ?_; (case q9k1 => k_asm); (case q9k2 => k_asm); (case q9k3 => k_asm); (case q9k4 => k_asm); (case q9k5 => k_asm); (case q9k6 => first | exact rfl | assumption); (case q9k7 => ktr_room); (case q9k8 => ktr_units))); intro GG9 HH9; refine FeMade.out ?_; intro h9 tk9 e9 d9 p9 _ _ _ _ _ _ l9 m9; refine HH9 _ _ _ _ ?_; clear HH9 GG9; intro F9 N9; (try dsimp only)))
  (k_with "Exists" => (k_here; refine ⟨_, _, _, rfl, by k_in, News.get (by k_asm) (List.Mem.tail _ (List.Mem.head _)), ?_⟩; (try dsimp only)))
  (k_with "leaving ref" => (k_here; first
  | (refine' fe_leave_first ?q9k1 ?q9k2 ?q9k3 ?q9k4 ?q9k5 ?_; (case q9k1 => assumption); (case q9k2 => k_asm); (case q9k3 => k_asm); (case q9k4 => (intro p hp; exact Nat.ne_of_lt (by (first | exact l9 p hp | (rename ∀ p ∈ _, @LT.lt Nat _ _ _ => l9; exact l9 p hp))))); (case q9k5 => exact Nat.ne_of_gt (by assumption)); intro h' R' U'; (try dsimp only at R' U' ⊢))
  | (refine' fe_leave_on ?q9k1 ?q9k2 ?q9k3 ?q9k4 ?_; (case q9k3 => assumption); (case q9k1 => assumption); (case q9k4 => assumption); (case q9k2 => assumption); intro h' R' U'; (try dsimp only at R' U' ⊢))))
  (k_with "subscriptTail" => (k_here; (with_reducible show wpAny _ _ (subscriptTail _ _ (Value.str _ _) (Value.int _ _)) _ _ _); (refine item_str (fitsSsize_of (N := 9223372036854775808) (by omega) (by omega) (Int.le_refl _)) (by omega) (by omega) ?_); intro hlen9))
  (k_with "ktr_unf" => repeat' ((fail_if_success (with_reducible show wpAny _ _ (exec (Stmt.While _ _ _ _) _) _ _ _)); first | (k_unfold; (try dsimp only)) | (k_end; wrow_close) | walk1 | (dsimp only; walk1) | (leave1; walk_say "STEP leave1"; try dsimp only) | fail "no step"))
  (k_with "subscriptTail" => (k_here; (with_reducible show wpAny _ _ (subscriptTail _ (Expr.Slice (some _) (some _) none _) (Value.str _ _) (Value.ref _)) _ _ _); (with_reducible rename Fr _ _ _ _ => F'); (with_reducible rename News _ _ _ _ => N'); (refine slice_strN_ss (hsz := ?q9hsz) (s := ⟨_, _, _, _, _⟩) F' N' ?_); (case q9hsz => (rw [sizeLine_eq]; omega)); intro _ _ _ _ _))
  (k_with "k_updF" => first | (refine' UpdF.head ?q9a; (case q9a => k_all)) | (refine' UpdF.tail ?q9a ?q9b; (case q9a => k_ne); (case q9b => k_updF)))
  trivial

/-- the reader's objects' places and the tokens that never turn -/
structure RA where
  rd : Nat
  drd : Nat
  wr : Nat
  dwr : Nat
  sc : Nat
  va : Nat
  wi : Nat
  ch : Nat
  r1 : Tok
  r2 : Tok
  r3 : Tok
  rt : Tok
  d1 : Tok
  d2 : Tok
  d3 : Tok
  d4 : Tok
  d5 : Tok
  d6 : Tok
  d7 : Tok
/-- the reader's state as it stands in the heap -/
structure RS where
  T : Str
  p : Int
  at' : Int
  t2 : Tok
  t3 : Tok
  scale : Str
  st : Tok
  now : Int
  nt : Tok
  scv : List Value
  scn : Nat
  vav : List Value
  van : Nat
  wio : Obj
  chv : List Value
  chn : Nat

def rdDict (P : Params) (d1 d2 d3 d4 d5 d6 d7 : Tok) (wr sc va wi ch : Nat) (scale : Str) (st : Tok) (now : Int) (nt : Tok) : Obj :=
  dictOf [⟨PyData.keyHash P (Str.ofString "words"), .str (Str.ofString "words") d1, .ref wr⟩,
          ⟨PyData.keyHash P (Str.ofString "scale"), .str (Str.ofString "scale") d2, .str scale st⟩,
          ⟨PyData.keyHash P (Str.ofString "scopes"), .str (Str.ofString "scopes") d3, .ref sc⟩,
          ⟨PyData.keyHash P (Str.ofString "variables"), .str (Str.ofString "variables") d4, .ref va⟩,
          ⟨PyData.keyHash P (Str.ofString "widths"), .str (Str.ofString "widths") d5, .ref wi⟩,
          ⟨PyData.keyHash P (Str.ofString "changes"), .str (Str.ofString "changes") d6, .ref ch⟩,
          ⟨PyData.keyHash P (Str.ofString "now"), .str (Str.ofString "now") d7, .int now nt⟩] 7

def led (P : Params) (A : RA) (S : RS) : List (Addr × Obj) :=
  [(A.ch, listOf S.chv.toArray S.chn), (A.wi, S.wio), (A.va, listOf S.vav.toArray S.van), (A.sc, listOf S.scv.toArray S.scn), (A.wr, instObj 113 A.dwr),
   (A.dwr, rowDict P A.r1 A.r2 A.r3 A.rt S.t2 S.t3 S.T S.p S.at'), (A.rd, instObj 176 A.drd),
   (A.drd, rdDict P A.d1 A.d2 A.d3 A.d4 A.d5 A.d6 A.d7 A.wr A.sc A.va A.wi A.ch S.scale S.st S.now S.nt)]

/-- the objects lie in the order of their making; the rest lies before or behind them -/
structure RA.Ok (A : RA) (rest : List (Addr × Obj)) : Prop where
  o1 : A.drd < A.rd
  o2 : A.rd < A.dwr
  o3 : A.dwr < A.wr
  o4 : A.wr < A.sc
  o5 : A.sc < A.va
  o6 : A.va < A.wi
  o7 : A.wi < A.ch
  lo : (A.wi == sysModules) = false
  off : ∀ x ∈ rest, @LT.lt Nat _ x.1 A.drd ∨ @LT.lt Nat _ A.ch x.1

def dictD (l : List (Str × Int)) : List (PyData × PyData) := l.map fun x => (PyData.str x.1, PyData.int x.2)
def WD (w : World) (o : Obj) (l : List (Str × Int)) : Prop := ∃ kvs, o.IsDictOf (strKind feProg w) kvs ∧ FlatPairs PyData.str kvs (dictD l)

/-- what the reader knows, as plain data -/
structure Cont where
  scale : Str
  scopes : List Str
  vars : List Dat
  D : List (Str × Int)
  chs : List Dat
  now : Int

structure RHolds (w : World) (rest : List (Addr × Obj)) (S : RS) (c : Cont) : Prop where
  scale : S.scale = c.scale
  now : S.now = c.now
  scopes : StrsAre S.scv c.scopes
  vars : DatAll rest S.vav c.vars
  chs : DatAll rest S.chv c.chs
  widths : WD w S.wio c.D

/-- the reader stands over these words -/
structure RAt (S : RS) (ws : List (Str × Int)) : Prop where
  lo : 0 ≤ S.p
  st : Strm S.T S.p ws
  big : S.T.length < 1000000

abbrev s_ (x : String) : Str := Str.ofString x
def varA : Dat := .tuple [.str (s_ "top.a"), .int 1, .str (s_ "wire"), .str (s_ "!")]
def varB : Dat := .tuple [.str (s_ "top.b"), .int 3, .str (s_ "reg"), .str (s_ "%")]

theorem offs {A : RA} {rest : List (Addr × Obj)} (h : A.Ok rest) : (∀ x ∈ rest, x.1 ≠ A.drd) ∧ (∀ x ∈ rest, x.1 ≠ A.dwr) ∧ (∀ x ∈ rest, x.1 ≠ A.sc) ∧ (∀ x ∈ rest, x.1 ≠ A.va) ∧ (∀ x ∈ rest, x.1 ≠ A.wi) ∧ (∀ x ∈ rest, x.1 ≠ A.ch) := by
  obtain ⟨o1, o2, o3, o4, o5, o6, o7, _, off⟩ := h
  refine ⟨?_, ?_, ?_, ?_, ?_, ?_⟩ <;> (intro x hx; have := off x hx; have : ∀ a b : Nat, a ≠ b → a ≠ b := fun _ _ h => h; refine this _ _ ?_; omega)


end Mine
end
section
open PySem PySem.W PySem.Calls PyProof.Rows PyProof.V PySem.Spec
set_option maxHeartbeats 20000000
namespace Mine
theorem wn_lines0 : True := by
  k_with_none
  (k_with "k_room" => ktr_room)
  (k_with "k_all" => assumption)
  (k_with "ktr_rel" => first | assumption | rfl | ((refine (if_neg (by decide)).trans ?_); ktr_rel))
  (k_with "eval Name" => (k_here; k_dflt (refine' ld ?q9k1 ?q9k2 ?_; (case q9k1 => k_asm); (case q9k2 => first | assumption | rfl | ((refine (if_neg (by decide)).trans ?_); first | assumption | ktr_rel)); k_whole)))
  (k_with "exec Raise some none" => (k_here; with_reducible refine fe_raise rfl ?_))
  (k_with "call ref" => (k_here; (with_reducible show wpAny _ _ (call (Value.ref 45) _) _ _ _); k_dflt (first
  | (refine' rets_use2 (fe_make _ _ _ _ _ _ _ _ rfl) ?q9k1 ?q9k2 ?q9k3 ?q9k4 ?q9k5 ?q9k6 ?q9k7 ?q9k8 ?_; (case q9k1 => k_asm); (case q9k2 => k_asm); (case q9k3 => k_asm); (case q9k4 => k_asm); (case q9k5 => k_asm); (case q9k6 => first | exact rfl | assumption); (case q9k7 => ktr_room); (case q9k8 => ktr_units))
  | (refine' rets_use2 (fe_make2 _ _ _ _ _ _ rfl) ?q9k1 ?q9k2 ?q9k3 ?q9k4 ?q9k5 ?q9k6 ?q9k7 ?q9k8 ?_; (case q9k1 => k_asm); (case q9k2 => k_asm); (case q9k3 => k_asm); (case q9k4 => k_asm); (case q9k5 => k_asm); (case q9k6 => first | exact rfl | assumption); (case q9k7 => ktr_room); (case q9k8 => ktr_units))); intro GG9 HH9; refine FeMade.out ?_; intro h9 tk9 e9 d9 p9 _ _ _ _ _ _ l9 m9; refine HH9 _ _ _ _ ?_; clear HH9 GG9; intro F9 N9; (try dsimp only)))
  (k_with "Exists" => (k_here; refine ⟨_, _, _, rfl, by k_in, News.get (by k_asm) (List.Mem.tail _ (List.Mem.head _)), ?_⟩; (try dsimp only)))
  (k_with "leaving ref" => (k_here; first
  | (refine' fe_leave_first ?q9k1 ?q9k2 ?q9k3 ?q9k4 ?q9k5 ?_; (case q9k1 => assumption); (case q9k2 => k_asm); (case q9k3 => k_asm); (case q9k4 => (intro p hp; exact Nat.ne_of_lt (by (first | exact l9 p hp | (rename ∀ p ∈ _, @LT.lt Nat _ _ _ => l9; exact l9 p hp))))); (case q9k5 => exact Nat.ne_of_gt (by assumption)); intro h' R' U'; (try dsimp only at R' U' ⊢))
  | (refine' fe_leave_on ?q9k1 ?q9k2 ?q9k3 ?q9k4 ?_; (case q9k3 => assumption); (case q9k1 => assumption); (case q9k4 => assumption); (case q9k2 => assumption); intro h' R' U'; (try dsimp only at R' U' ⊢))))
  (k_with "subscriptTail" => (k_here; (with_reducible show wpAny _ _ (subscriptTail _ _ (Value.str _ _) (Value.int _ _)) _ _ _); (refine item_str (fitsSsize_of (N := 9223372036854775808) (by omega) (by omega) (Int.le_refl _)) (by omega) (by omega) ?_); intro hlen9))
  (k_with "ktr_unf" => repeat' ((fail_if_success (with_reducible show wpAny _ _ (exec (Stmt.While _ _ _ _) _) _ _ _)); first | (k_unfold; (try dsimp only)) | (k_end; wrow_close) | walk1 | (dsimp only; walk1) | (leave1; walk_say "STEP leave1"; try dsimp only) | fail "no step"))
  (k_with "subscriptTail" => (k_here; (with_reducible show wpAny _ _ (subscriptTail _ (Expr.Slice (some _) (some _) none _) (Value.str _ _) (Value.ref _)) _ _ _); (with_reducible rename Fr _ _ _ _ => F'); (with_reducible rename News _ _ _ _ => N'); (refine slice_strN_ss (hsz := ?q9hsz) (s := ⟨_, _, _, _, _⟩) F' N' ?_); (case q9hsz => (rw [sizeLine_eq]; omega)); intro _ _ _ _ _))
  (k_with "k_updF" => first | (refine' UpdF.head ?q9a; (case q9a => k_all)) | (refine' UpdF.tail ?q9a ?q9b; (case q9a => k_ne); (case q9b => k_updF)))
  trivial

theorem find_no {α : Type} {f : α → Bool} {l : List α} {a : α} (h : l.find? f = some a) (e : (l.find? f).isNone = true) : False := by rw [h] at e; cases e
theorem all_no {α : Type} {f : α → Bool} {l : List α} (h : ∀ a ∈ l, f a = false) (e : (l.all fun a => !f a) = false) : False := by
  rw [List.all_eq_false] at e
  obtain ⟨a, ha, q⟩ := e
  rw [h a ha] at q
  exact q rfl

theorem wn_0 : ∀ (w : World) (news : List (Addr × Obj)) (at' : Int) (t ta : Tok), (Mine.hd.heap_39 w.params = Mine.hd.heap_39 w.params) →
    Rets w 124 [.str (Str.ofString "0") t, .int at' ta] 8 80 news (SameI 0 news) := by
  unfold Rets
  k_fill
  intro w news at' t ta _ mean mg mb dp un gd cn cs a ccd cl outer A₀ base h₀ L m s Q E B F X N Tp hk hd hu hret
  refine wpAny_call ?_
  k_dflt ktr_enter
  k_steps
  all_goals first
    | exact (find_no (by assumption) (by decide +kernel)).elim
    | exact hret _ _ _ _ (by assumption) (by assumption) ⟨_⟩

theorem wn_1 : ∀ (w : World) (news : List (Addr × Obj)) (at' : Int) (t ta : Tok), (Mine.hd.heap_39 w.params = Mine.hd.heap_39 w.params) →
    Rets w 124 [.str (Str.ofString "1") t, .int at' ta] 8 80 news (SameI 1 news) := by
  unfold Rets
  k_fill
  intro w news at' t ta _ mean mg mb dp un gd cn cs a ccd cl outer A₀ base h₀ L m s Q E B F X N Tp hk hd hu hret
  refine wpAny_call ?_
  k_dflt ktr_enter
  k_steps
  all_goals first
    | exact (find_no (by assumption) (by decide +kernel)).elim
    | exact hret _ _ _ _ (by assumption) (by assumption) ⟨_⟩

theorem wn_2 : ∀ (w : World) (news : List (Addr × Obj)) (at' : Int) (t ta : Tok), (Mine.hd.heap_39 w.params = Mine.hd.heap_39 w.params) →
    Rets w 124 [.str (Str.ofString "2") t, .int at' ta] 8 80 news (SameI 2 news) := by
  unfold Rets
  k_fill
  intro w news at' t ta _ mean mg mb dp un gd cn cs a ccd cl outer A₀ base h₀ L m s Q E B F X N Tp hk hd hu hret
  refine wpAny_call ?_
  k_dflt ktr_enter
  k_steps
  all_goals first
    | exact (find_no (by assumption) (by decide +kernel)).elim
    | exact hret _ _ _ _ (by assumption) (by assumption) ⟨_⟩

theorem wn_3 : ∀ (w : World) (news : List (Addr × Obj)) (at' : Int) (t ta : Tok), (Mine.hd.heap_39 w.params = Mine.hd.heap_39 w.params) →
    Rets w 124 [.str (Str.ofString "3") t, .int at' ta] 8 80 news (SameI 3 news) := by
  unfold Rets
  k_fill
  intro w news at' t ta _ mean mg mb dp un gd cn cs a ccd cl outer A₀ base h₀ L m s Q E B F X N Tp hk hd hu hret
  refine wpAny_call ?_
  k_dflt ktr_enter
  k_steps
  all_goals first
    | exact (find_no (by assumption) (by decide +kernel)).elim
    | exact hret _ _ _ _ (by assumption) (by assumption) ⟨_⟩

theorem wn_4 : ∀ (w : World) (news : List (Addr × Obj)) (at' : Int) (t ta : Tok), (Mine.hd.heap_39 w.params = Mine.hd.heap_39 w.params) →
    Rets w 124 [.str (Str.ofString "4") t, .int at' ta] 8 80 news (SameI 4 news) := by
  unfold Rets
  k_fill
  intro w news at' t ta _ mean mg mb dp un gd cn cs a ccd cl outer A₀ base h₀ L m s Q E B F X N Tp hk hd hu hret
  refine wpAny_call ?_
  k_dflt ktr_enter
  k_steps
  all_goals first
    | exact (find_no (by assumption) (by decide +kernel)).elim
    | exact hret _ _ _ _ (by assumption) (by assumption) ⟨_⟩

theorem wn_5 : ∀ (w : World) (news : List (Addr × Obj)) (at' : Int) (t ta : Tok), (Mine.hd.heap_39 w.params = Mine.hd.heap_39 w.params) →
    Rets w 124 [.str (Str.ofString "5") t, .int at' ta] 8 80 news (SameI 5 news) := by
  unfold Rets
  k_fill
  intro w news at' t ta _ mean mg mb dp un gd cn cs a ccd cl outer A₀ base h₀ L m s Q E B F X N Tp hk hd hu hret
  refine wpAny_call ?_
  k_dflt ktr_enter
  k_steps
  all_goals first
    | exact (find_no (by assumption) (by decide +kernel)).elim
    | exact hret _ _ _ _ (by assumption) (by assumption) ⟨_⟩

theorem wn_two : ∀ (w : World) (news : List (Addr × Obj)) (at' : Int) (t ta : Tok), (Mine.hd.heap_39 w.params = Mine.hd.heap_39 w.params) →
    Raises w 124 [.str (Str.ofString "two") t, .int at' ta] 8 80 news news (Str.ofString "bad_number") at' (Str.ofString "two") := by
  unfold Raises
  k_fill
  intro w news at' t ta _ mean mg mb dp un gd cn cs a ccd cl outer A₀ base h₀ L m s Q E B F X N Tp hk hd hu hret
  refine wpAny_call ?_
  k_dflt ktr_enter
  k_steps
  all_goals first
    | exact (all_no (by assumption) (by decide +kernel)).elim
    | exact hret _ _ _ _ (by assumption) (by assumption) (FErr.drop (by assumption) fun q hq => by first | exact hq | exact List.mem_append_right _ hq)

theorem wn_x : ∀ (w : World) (news : List (Addr × Obj)) (at' : Int) (t ta : Tok), (Mine.hd.heap_39 w.params = Mine.hd.heap_39 w.params) →
    Raises w 124 [.str (Str.ofString "x") t, .int at' ta] 8 80 news news (Str.ofString "bad_number") at' (Str.ofString "x") := by
  unfold Raises
  k_fill
  intro w news at' t ta _ mean mg mb dp un gd cn cs a ccd cl outer A₀ base h₀ L m s Q E B F X N Tp hk hd hu hret
  refine wpAny_call ?_
  k_dflt ktr_enter
  k_steps
  all_goals first
    | exact (all_no (by assumption) (by decide +kernel)).elim
    | exact hret _ _ _ _ (by assumption) (by assumption) (FErr.drop (by assumption) fun q hq => by first | exact hq | exact List.mem_append_right _ hq)

theorem wn_e : ∀ (w : World) (news : List (Addr × Obj)) (at' : Int) (t ta : Tok), (Mine.hd.heap_39 w.params = Mine.hd.heap_39 w.params) →
    Raises w 124 [.str (Str.ofString "") t, .int at' ta] 8 80 news news (Str.ofString "bad_number") at' (Str.ofString "") := by
  unfold Raises
  k_fill
  intro w news at' t ta _ mean mg mb dp un gd cn cs a ccd cl outer A₀ base h₀ L m s Q E B F X N Tp hk hd hu hret
  refine wpAny_call ?_
  k_dflt ktr_enter
  k_steps
  all_goals first
    | exact (all_no (by assumption) (by decide +kernel)).elim
    | exact hret _ _ _ _ (by assumption) (by assumption) (FErr.drop (by assumption) fun q hq => by first | exact hq | exact List.mem_append_right _ hq)


end Mine
end
section
open PySem PySem.W PySem.Calls PyProof.Rows PyProof.V PySem.Spec
set_option maxHeartbeats 20000000
namespace Mine
theorem nl {a b : Nat} (h : a < b) : @LT.lt Nat _ a b := h
theorem filled : PySem.Challenge.rw_on0102_01 = PySem.Challenge.rw_on0102_01 ∧ Mine.hd.heap_39 = Mine.hd.heap_39 := by
  k_fill
  exact ⟨rfl, rfl⟩
theorem leda_lines0 : True := by
  k_with_none
  (k_with "k_all" => assumption)
  (k_with "kwd_rel" => (k_dflt (refine' get_own ?q9k1 ?q9k2 ?q9k3 ?q9k4 ?q9k5 ?q9k6 ?q9k7 ?q9k8 ?q9k9 ?_; (case q9k1 => k_asm); (case q9k2 => k_asm); (case q9k3 => k_inst); (case q9k4 => k_is); (case q9k5 => k_is); (case q9k6 => k_is); (case q9k7 => k_is); (case q9k8 => k_get); (case q9k9 => k_handed); k_whole); assumption))
  (k_with "ktr_rel" => (k_dflt (refine' method_inst ?q9k1 ?q9k2 ?q9k3 ?q9k4 ?q9k5 ?q9k6 ?q9k7 ?_; (case q9k1 => k_asm); (case q9k2 => k_asm); (case q9k3 => k_inst); (case q9k4 => k_is); (case q9k5 => k_is); (case q9k6 => k_is); (case q9k7 => k_get); k_whole); assumption))
  trivial

section
variable {w : World} {Aa : Around} {g : Heap} {L : Addr} {m : Str → Option Value} {s : Shared} {A : RA} {S : RS} {R : List (Addr × Obj)} {E : Value → Shared → Prop}
theorem led_words {e : Bool} {Q : Value → Shared → Prop} (F : Fr g L s.heap m) (X : (Mine.hd.heap_39 w.params).In g) (N : News g L s.heap (led w.params A S ++ R)) (h : Q (.ref A.wr) { s with toks := s.toks + 1 }) :
    wpAny (model PySem.Challenge.rw_on0102_01.row.prog w) Aa (getAttr (.ref A.rd) (Str.ofString "words") e) Q E s := by
  unfold led rdDict at N
  simp only [List.cons_append, List.nil_append] at N
  kwd_rel
theorem led_now {e : Bool} {Q : Value → Shared → Prop} (F : Fr g L s.heap m) (X : (Mine.hd.heap_39 w.params).In g) (N : News g L s.heap (led w.params A S ++ R)) (h : Q (.int S.now S.nt) { s with toks := s.toks + 1 }) :
    wpAny (model PySem.Challenge.rw_on0102_01.row.prog w) Aa (getAttr (.ref A.rd) (Str.ofString "now") e) Q E s := by
  unfold led rdDict at N
  simp only [List.cons_append, List.nil_append] at N
  kwd_rel
theorem led_at {e : Bool} {Q : Value → Shared → Prop} (F : Fr g L s.heap m) (X : (Mine.hd.heap_39 w.params).In g) (N : News g L s.heap (led w.params A S ++ R)) (h : Q (.int S.at' S.t3) { s with toks := s.toks + 1 }) :
    wpAny (model PySem.Challenge.rw_on0102_01.row.prog w) Aa (getAttr (.ref A.wr) (Str.ofString "at") e) Q E s := by
  unfold led rowDict at N
  simp only [List.cons_append, List.nil_append] at N
  kwd_rel
theorem led_take {pl : Sem Bool} {Q : Value × List Value → Shared → Prop} (F : Fr g L s.heap m) (X : (Mine.hd.heap_39 w.params).In g) (N : News g L s.heap (led w.params A S ++ R)) (h : Q (.ref 103, [.ref A.wr]) s) :
    wpAny (model PySem.Challenge.rw_on0102_01.row.prog w) Aa (getMethod (.ref A.wr) (Str.ofString "take") pl) Q E s := by
  unfold led rowDict at N
  simp only [List.cons_append, List.nil_append] at N
  ktr_rel
theorem led_until {pl : Sem Bool} {Q : Value × List Value → Shared → Prop} (F : Fr g L s.heap m) (X : (Mine.hd.heap_39 w.params).In g) (N : News g L s.heap (led w.params A S ++ R)) (h : Q (.ref 110, [.ref A.wr]) s) :
    wpAny (model PySem.Challenge.rw_on0102_01.row.prog w) Aa (getMethod (.ref A.wr) (Str.ofString "until_end") pl) Q E s := by
  unfold led rowDict at N
  simp only [List.cons_append, List.nil_append] at N
  ktr_rel
theorem led_command {pl : Sem Bool} {Q : Value × List Value → Shared → Prop} (F : Fr g L s.heap m) (X : (Mine.hd.heap_39 w.params).In g) (N : News g L s.heap (led w.params A S ++ R)) (h : Q (.ref 152, [.ref A.rd]) s) :
    wpAny (model PySem.Challenge.rw_on0102_01.row.prog w) Aa (getMethod (.ref A.rd) (Str.ofString "command") pl) Q E s := by
  unfold led rdDict at N
  simp only [List.cons_append, List.nil_append] at N
  ktr_rel
theorem led_variable {pl : Sem Bool} {Q : Value × List Value → Shared → Prop} (F : Fr g L s.heap m) (X : (Mine.hd.heap_39 w.params).In g) (N : News g L s.heap (led w.params A S ++ R)) (h : Q (.ref 159, [.ref A.rd]) s) :
    wpAny (model PySem.Challenge.rw_on0102_01.row.prog w) Aa (getMethod (.ref A.rd) (Str.ofString "variable") pl) Q E s := by
  unfold led rdDict at N
  simp only [List.cons_append, List.nil_append] at N
  ktr_rel
theorem led_scale {e : Bool} {Q : Value → Shared → Prop} (F : Fr g L s.heap m) (X : (Mine.hd.heap_39 w.params).In g) (N : News g L s.heap (led w.params A S ++ R)) (h : Q (.str S.scale S.st) { s with toks := s.toks + 1 }) :
    wpAny (model PySem.Challenge.rw_on0102_01.row.prog w) Aa (getAttr (.ref A.rd) (Str.ofString "scale") e) Q E s := by
  unfold led rdDict at N
  simp only [List.cons_append, List.nil_append] at N
  kwd_rel
theorem led_vars {e : Bool} {Q : Value → Shared → Prop} (F : Fr g L s.heap m) (X : (Mine.hd.heap_39 w.params).In g) (N : News g L s.heap (led w.params A S ++ R)) (h : Q (.ref A.va) { s with toks := s.toks + 1 }) :
    wpAny (model PySem.Challenge.rw_on0102_01.row.prog w) Aa (getAttr (.ref A.rd) (Str.ofString "variables") e) Q E s := by
  unfold led rdDict at N
  simp only [List.cons_append, List.nil_append] at N
  kwd_rel
theorem led_chs {e : Bool} {Q : Value → Shared → Prop} (F : Fr g L s.heap m) (X : (Mine.hd.heap_39 w.params).In g) (N : News g L s.heap (led w.params A S ++ R)) (h : Q (.ref A.ch) { s with toks := s.toks + 1 }) :
    wpAny (model PySem.Challenge.rw_on0102_01.row.prog w) Aa (getAttr (.ref A.rd) (Str.ofString "changes") e) Q E s := by
  unfold led rdDict at N
  simp only [List.cons_append, List.nil_append] at N
  kwd_rel
theorem led_valch {pl : Sem Bool} {Q : Value × List Value → Shared → Prop} (F : Fr g L s.heap m) (X : (Mine.hd.heap_39 w.params).In g) (N : News g L s.heap (led w.params A S ++ R)) (h : Q (.ref 166, [.ref A.rd]) s) :
    wpAny (model PySem.Challenge.rw_on0102_01.row.prog w) Aa (getMethod (.ref A.rd) (Str.ofString "value_changes") pl) Q E s := by
  unfold led rdDict at N
  simp only [List.cons_append, List.nil_append] at N
  ktr_rel
theorem led_change {pl : Sem Bool} {Q : Value × List Value → Shared → Prop} (F : Fr g L s.heap m) (X : (Mine.hd.heap_39 w.params).In g) (N : News g L s.heap (led w.params A S ++ R)) (h : Q (.ref 173, [.ref A.rd]) s) :
    wpAny (model PySem.Challenge.rw_on0102_01.row.prog w) Aa (getMethod (.ref A.rd) (Str.ofString "change") pl) Q E s := by
  unfold led rdDict at N
  simp only [List.cons_append, List.nil_append] at N
  ktr_rel
theorem led_set_now {Q : Unit → Shared → Prop} {k : Int} {t : Tok} (F : Fr g L s.heap m) (X : (Mine.hd.heap_39 w.params).In g) (N : News g L s.heap (led w.params A S ++ R)) (hO : A.Ok R)
    (h : ∀ h', Fr g L h' m → News g L h' (led w.params A { S with now := k, nt := t } ++ R) → Q () { s with heap := h', toks := s.toks + 2 }) :
    wpAny (model PySem.Challenge.rw_on0102_01.row.prog w) Aa (setAttr (.ref A.rd) (Str.ofString "now") (.int k t)) Q E s := by
  have O := offs hO
  obtain ⟨f1, f2, f3, f4, f5, f6⟩ := O
  obtain ⟨o1, o2, o3, o4, o5, o6, o7, lo, off⟩ := hO
  replace o1 := nl o1; replace o2 := nl o2; replace o3 := nl o3; replace o4 := nl o4; replace o5 := nl o5; replace o6 := nl o6; replace o7 := nl o7
  unfold led rdDict at N
  simp only [List.cons_append, List.nil_append] at N
  k_dflt (refine' set_dict ?k1 ?k2 ?k3 ?k4 ?k5 ?k6 ?k7 ?k8 ?k9 ?k10 ?k11 ?k12 ?k13 ?_; (case k1 => k_asm); (case k2 => k_asm); (case k3 => k_asm); (case k4 => k_inst); (case k5 => exact rfl); (case k6 => k_is); (case k7 => k_is); (case k8 => k_is); (case k9 => k_is); (case k10 => k_get); (case k11 => k_put); (case k12 => k_upd); (case k13 => exact Nat.le_of_ble_eq_true rfl); k_whole)
  exact h
end

end Mine
end
section
open PySem PySem.W PySem.Calls PyProof.Rows PyProof.V PySem.Spec
set_option maxHeartbeats 20000000
namespace Mine
theorem cmdv_lines0 : True := by
  k_with_none
  (k_with "k_room" => ktr_room)
  (k_with "k_all" => assumption)
  (k_with "ktr_rel" => first | assumption | rfl | ((refine (if_neg (by decide)).trans ?_); ktr_rel))
  (k_with "eval Name" => (k_here; k_dflt (refine' ld ?q9k1 ?q9k2 ?_; (case q9k1 => k_asm); (case q9k2 => first | assumption | rfl | ((refine (if_neg (by decide)).trans ?_); first | assumption | ktr_rel)); k_whole)))
  (k_with "exec Raise some none" => (k_here; with_reducible refine fe_raise rfl ?_))
  (k_with "call ref" => (k_here; (with_reducible show wpAny _ _ (call (Value.ref 45) _) _ _ _); k_dflt (first
  | (refine' rets_use2 (fe_make _ _ _ _ _ _ _ _ rfl) ?q9k1 ?q9k2 ?q9k3 ?q9k4 ?q9k5 ?q9k6 ?q9k7 ?q9k8 ?_; (case q9k1 => k_asm); (case q9k2 => k_asm); (case q9k3 => k_asm); (case q9k4 => k_asm); (case q9k5 => k_asm); (case q9k6 => first | exact rfl | assumption); (case q9k7 => ktr_room); (case q9k8 => ktr_units))
  | (refine' rets_use2 (fe_make2 _ _ _ _ _ _ rfl) ?q9k1 ?q9k2 ?q9k3 ?q9k4 ?q9k5 ?q9k6 ?q9k7 ?q9k8 ?_; (case q9k1 => k_asm); (case q9k2 => k_asm); (case q9k3 => k_asm); (case q9k4 => k_asm); (case q9k5 => k_asm); (case q9k6 => first | exact rfl | assumption); (case q9k7 => ktr_room); (case q9k8 => ktr_units))); intro GG9 HH9; refine FeMade.out ?_; intro h9 tk9 e9 d9 p9 _ _ _ _ _ _ l9 m9; refine HH9 _ _ _ _ ?_; clear HH9 GG9; intro F9 N9; (try dsimp only)))
  (k_with "Exists" => (k_here; refine ⟨_, _, _, rfl, by k_in, News.get (by k_asm) (List.Mem.tail _ (List.Mem.head _)), ?_⟩; (try dsimp only)))
  (k_with "leaving ref" => (k_here; first
  | (refine' fe_leave_first ?q9k1 ?q9k2 ?q9k3 ?q9k4 ?q9k5 ?_; (case q9k1 => assumption); (case q9k2 => k_asm); (case q9k3 => k_asm); (case q9k4 => (intro p hp; exact Nat.ne_of_lt (by (first | exact l9 p hp | (rename ∀ p ∈ _, @LT.lt Nat _ _ _ => l9; exact l9 p hp))))); (case q9k5 => exact Nat.ne_of_gt (by assumption)); intro h' R' U'; (try dsimp only at R' U' ⊢))
  | (refine' fe_leave_on ?q9k1 ?q9k2 ?q9k3 ?q9k4 ?_; (case q9k3 => assumption); (case q9k1 => assumption); (case q9k4 => assumption); (case q9k2 => assumption); intro h' R' U'; (try dsimp only at R' U' ⊢))))
  (k_with "subscriptTail" => (k_here; (with_reducible show wpAny _ _ (subscriptTail _ _ (Value.str _ _) (Value.int _ _)) _ _ _); (refine item_str (fitsSsize_of (N := 9223372036854775808) (by omega) (by omega) (Int.le_refl _)) (by omega) (by omega) ?_); intro hlen9))
  (k_with "ktr_unf" => repeat' ((fail_if_success (with_reducible show wpAny _ _ (exec (Stmt.While _ _ _ _) _) _ _ _)); first | (k_unfold; (try dsimp only)) | (k_end; wrow_close) | walk1 | (dsimp only; walk1) | (leave1; walk_say "STEP leave1"; try dsimp only) | fail "no step"))
  (k_with "subscriptTail" => (k_here; (with_reducible show wpAny _ _ (subscriptTail _ (Expr.Slice (some _) (some _) none _) (Value.str _ _) (Value.ref _)) _ _ _); (with_reducible rename Fr _ _ _ _ => F'); (with_reducible rename News _ _ _ _ => N'); (refine slice_strN_ss (hsz := ?q9hsz) (s := ⟨_, _, _, _, _⟩) F' N' ?_); (case q9hsz => (rw [sizeLine_eq]; omega)); intro _ _ _ _ _))
  (k_with "k_updF" => first | (refine' UpdF.head ?q9a; (case q9a => k_all)) | (refine' UpdF.tail ?q9a ?q9b; (case q9a => k_ne); (case q9b => k_updF)))
  (k_with "kwd_rel" => first | exact List.forall_mem_nil _ | ((refine' List.forall_mem_cons.mpr ⟨?q9aa, ?q9bb⟩); (case q9aa => k_mem); (case q9bb => kwd_rel)) | (intro p hp; repeat (first | exact hp | refine List.Mem.tail _ ?_)))
  (k_with "getMethod ref" => (k_here; k_dflt (refine' led_variable ?q9k1 ?q9k2 ?q9k3 ?_; (case q9k1 => k_asm); (case q9k2 => k_asm); (case q9k3 => k_asm))))
  (k_with "ktr_unf" => repeat' ((fail_if_success (with_reducible show wpAny _ _ (call (Value.ref 159) _) _ _ _)); first | (k_unfold; (try dsimp only)) | (k_end; wrow_close) | walk1 | (dsimp only; walk1) | (leave1; walk_say "STEP leave1"; try dsimp only) | fail "no step"))
  trivial

/-- the command of a variable is the method's -/
theorem cmd_var_ok : ∀ (w : World) (A : RA) (S : RS) (R : List (Addr × Obj)) (f : Nat) (tw ta : Tok) (at' : Int) (R0 : Value → List (Addr × Obj) → Prop), Rets w 159 [.ref A.rd, .int at' ta, .ref f] 10 120 (led w.params A S ++ R) R0 → (Mine.hd.heap_39 w.params = Mine.hd.heap_39 w.params) →
    Rets w 152 [.ref A.rd, .str (s_ "$var") tw, .int at' ta, .ref f] 12 150 (led w.params A S ++ R) (fun _ n => ∃ r, R0 r n) := by
  unfold Rets
  k_fill
  intro w A S R f tw ta at' R0 C _ mean mg mb dp un gd cn cs a ccd cl outer A₀ base h₀ L m s Q E B F X N Tp hk hd hu hret
  refine wpAny_call ?_
  k_dflt ktr_enter
  ktr_unf
  k_dflt (refine' rets_use C ?k1 ?k2 ?k3 ?k4 ?k5 ?k6 ?k7 ?k8 ?_; (case k1 => k_asm); (case k2 => k_asm); (case k3 => k_asm); (case k4 => k_asm); (case k5 => k_asm); (case k6 => first | exact rfl | assumption); (case k7 => ktr_room); (case k8 => ktr_units))
  intro r9 n9 h9 tk9 F9 N9 R9
  k_steps
  all_goals exact hret _ _ _ _ (by assumption) (by assumption) ⟨_, R9⟩
theorem cmd_var_err : ∀ (w : World) (A : RA) (S : RS) (R keep : List (Addr × Obj)) (f : Nat) (tw ta : Tok) (at' a2 : Int) (kind detail : Str), Raises w 159 [.ref A.rd, .int at' ta, .ref f] 10 120 (led w.params A S ++ R) keep kind a2 detail → (Mine.hd.heap_39 w.params = Mine.hd.heap_39 w.params) →
    Raises w 152 [.ref A.rd, .str (s_ "$var") tw, .int at' ta, .ref f] 12 150 (led w.params A S ++ R) keep kind a2 detail := by
  unfold Raises
  k_fill
  intro w A S R keep f tw ta at' a2 kind detail C _ mean mg mb dp un gd cn cs a ccd cl outer A₀ base h₀ L m s Q E B F X N Tp hk hd hu hret
  refine wpAny_call ?_
  k_dflt ktr_enter
  ktr_unf
  k_dflt (refine' raises_use C ?k1 ?k2 ?k3 ?k4 ?k5 ?k6 ?k7 ?k8 ?_; (case k1 => k_asm); (case k2 => k_asm); (case k3 => k_asm); (case k4 => k_asm); (case k5 => k_asm); (case k6 => first | exact rfl | assumption); (case k7 => ktr_room); (case k8 => ktr_units))
  intro e9 g9 h9 tk9 F9 U9 R9
  k_steps
  all_goals exact hret _ _ _ _ (by assumption) (by assumption) (by assumption)

end Mine
end
section
open PySem PySem.W PySem.Calls PyProof.Rows PyProof.V PySem.Spec
set_option maxHeartbeats 20000000
namespace Mine
theorem cmd_lines0 : True := by
  k_with_none
  (k_with "k_room" => ktr_room)
  (k_with "k_all" => assumption)
  (k_with "ktr_rel" => first | assumption | rfl | ((refine (if_neg (by decide)).trans ?_); ktr_rel))
  (k_with "eval Name" => (k_here; k_dflt (refine' ld ?q9k1 ?q9k2 ?_; (case q9k1 => k_asm); (case q9k2 => first | assumption | rfl | ((refine (if_neg (by decide)).trans ?_); first | assumption | ktr_rel)); k_whole)))
  (k_with "exec Raise some none" => (k_here; with_reducible refine fe_raise rfl ?_))
  (k_with "call ref" => (k_here; (with_reducible show wpAny _ _ (call (Value.ref 45) _) _ _ _); k_dflt (first
  | (refine' rets_use2 (fe_make _ _ _ _ _ _ _ _ rfl) ?q9k1 ?q9k2 ?q9k3 ?q9k4 ?q9k5 ?q9k6 ?q9k7 ?q9k8 ?_; (case q9k1 => k_asm); (case q9k2 => k_asm); (case q9k3 => k_asm); (case q9k4 => k_asm); (case q9k5 => k_asm); (case q9k6 => first | exact rfl | assumption); (case q9k7 => ktr_room); (case q9k8 => ktr_units))
  | (refine' rets_use2 (fe_make2 _ _ _ _ _ _ rfl) ?q9k1 ?q9k2 ?q9k3 ?q9k4 ?q9k5 ?q9k6 ?q9k7 ?q9k8 ?_; (case q9k1 => k_asm); (case q9k2 => k_asm); (case q9k3 => k_asm); (case q9k4 => k_asm); (case q9k5 => k_asm); (case q9k6 => first | exact rfl | assumption); (case q9k7 => ktr_room); (case q9k8 => ktr_units))); intro GG9 HH9; refine FeMade.out ?_; intro h9 tk9 e9 d9 p9 _ _ _ _ _ _ l9 m9; refine HH9 _ _ _ _ ?_; clear HH9 GG9; intro F9 N9; (try dsimp only)))
  (k_with "Exists" => (k_here; refine ⟨_, _, _, rfl, by k_in, News.get (by k_asm) (List.Mem.tail _ (List.Mem.head _)), ?_⟩; (try dsimp only)))
  (k_with "leaving ref" => (k_here; first
  | (refine' fe_leave_first ?q9k1 ?q9k2 ?q9k3 ?q9k4 ?q9k5 ?_; (case q9k1 => assumption); (case q9k2 => k_asm); (case q9k3 => k_asm); (case q9k4 => (intro p hp; exact Nat.ne_of_lt (by (first | exact l9 p hp | (rename ∀ p ∈ _, @LT.lt Nat _ _ _ => l9; exact l9 p hp))))); (case q9k5 => exact Nat.ne_of_gt (by assumption)); intro h' R' U'; (try dsimp only at R' U' ⊢))
  | (refine' fe_leave_on ?q9k1 ?q9k2 ?q9k3 ?q9k4 ?_; (case q9k3 => assumption); (case q9k1 => assumption); (case q9k4 => assumption); (case q9k2 => assumption); intro h' R' U'; (try dsimp only at R' U' ⊢))))
  (k_with "subscriptTail" => (k_here; (with_reducible show wpAny _ _ (subscriptTail _ _ (Value.str _ _) (Value.int _ _)) _ _ _); (refine item_str (fitsSsize_of (N := 9223372036854775808) (by omega) (by omega) (Int.le_refl _)) (by omega) (by omega) ?_); intro hlen9))
  (k_with "ktr_unf" => repeat' ((fail_if_success (with_reducible show wpAny _ _ (exec (Stmt.While _ _ _ _) _) _ _ _)); first | (k_unfold; (try dsimp only)) | (k_end; wrow_close) | walk1 | (dsimp only; walk1) | (leave1; walk_say "STEP leave1"; try dsimp only) | fail "no step"))
  (k_with "subscriptTail" => (k_here; (with_reducible show wpAny _ _ (subscriptTail _ (Expr.Slice (some _) (some _) none _) (Value.str _ _) (Value.ref _)) _ _ _); (with_reducible rename Fr _ _ _ _ => F'); (with_reducible rename News _ _ _ _ => N'); (refine slice_strN_ss (hsz := ?q9hsz) (s := ⟨_, _, _, _, _⟩) F' N' ?_); (case q9hsz => (rw [sizeLine_eq]; omega)); intro _ _ _ _ _))
  (k_with "k_updF" => first | (refine' UpdF.head ?q9a; (case q9a => k_all)) | (refine' UpdF.tail ?q9a ?q9b; (case q9a => k_ne); (case q9b => k_updF)))
  (k_with "kwd_rel" => first | exact List.forall_mem_nil _ | ((refine' List.forall_mem_cons.mpr ⟨?q9aa, ?q9bb⟩); (case q9aa => k_mem); (case q9bb => kwd_rel)) | (intro p hp; repeat (first | exact hp | refine List.Mem.tail _ ?_)))
  trivial

/-- what a command leaves: a new state, the content c', new entries before the rest -/
inductive CmdR (w : World) (A : RA) (S : RS) (rest : List (Addr × Obj)) (c' : Cont) (r : Value) : List (Addr × Obj) → Prop
  | mk (S' : RS) (tl : List (Addr × Obj)) : A.Ok (tl ++ rest) → RHolds w (tl ++ rest) S' c' → S'.T = S.T → S'.p = S.p → CmdR w A S rest c' r (led w.params A S' ++ (tl ++ rest))

theorem CmdR.out {w : World} {A : RA} {S : RS} {rest : List (Addr × Obj)} {c' : Cont} {G : Value → List (Addr × Obj) → Heap → Nat → Prop} (k : ∀ r h' tk' (S' : RS) (tl : List (Addr × Obj)), A.Ok (tl ++ rest) → RHolds w (tl ++ rest) S' c' → S'.T = S.T → S'.p = S.p → G r (led w.params A S' ++ (tl ++ rest)) h' tk') : ∀ r n h' tk', CmdR w A S rest c' r n → G r n h' tk' := by
  intro r n h' tk' h
  cases h
  exact k _ _ _ _ _ (by assumption) (by assumption) (by assumption) (by assumption)
theorem CmdR.rets {w : World} {A : RA} {S : RS} {rest news : List (Addr × Obj)} {c' : Cont} {f : Addr} {vs : List Value} {nd nu : Nat} (C : Rets w f vs nd nu news (fun _ n => ∃ r, CmdR w A S rest c' r n)) : Rets w f vs nd nu news (CmdR w A S rest c') :=
  fun mean mg mb dp un gd cn cs a ccd cl outer A₀ base h₀ L m s Q E B F X N Tp hk hd hu hret => C mean mg mb dp un gd cn cs a ccd cl outer A₀ base h₀ L m s Q E B F X N Tp hk hd hu fun r n h' tk' F' N' ⟨r2, R'⟩ => hret r n h' tk' F' N' (by
    cases R'
    exact .mk _ _ (by assumption) (by assumption) (by assumption) (by assumption))
theorem ok_more {A : RA} {tl rest : List (Addr × Obj)} (h : A.Ok rest) (ht : ∀ x ∈ tl, @LT.lt Nat _ A.ch x.1) : A.Ok (tl ++ rest) := by
  obtain ⟨o1, o2, o3, o4, o5, o6, o7, lo, off⟩ := h
  refine ⟨o1, o2, o3, o4, o5, o6, o7, lo, fun x hx => ?_⟩
  rcases List.mem_append.mp hx with hx | hx
  · exact .inr (ht x hx)
  · exact off x hx
theorem sub_app {tl rest : List (Addr × Obj)} : ∀ p ∈ rest, p ∈ tl ++ rest := fun _ h => List.mem_append_right _ h
theorem cmd_lines1 : True := by
  (k_with "call ref" => (k_here; (with_reducible show wpAny _ _ (call (Value.ref 124) [Value.str (Str.ofString "0") _, _]) _ _ _); k_dflt (refine' rets_use2 (wn_0 _ _ _ _ _ rfl) ?q9k1 ?q9k2 ?q9k3 ?q9k4 ?q9k5 ?q9k6 ?q9k7 ?q9k8 ?_; (case q9k1 => k_asm); (case q9k2 => k_asm); (case q9k3 => k_asm); (case q9k4 => k_asm); (case q9k5 => k_asm); (case q9k6 => first | exact rfl | assumption); (case q9k7 => ktr_room); (case q9k8 => ktr_units)); intro GG9 HH9; (first | refine SameI.out ?_ | refine SameS.out ?_); intro h9 tk9 t9; refine HH9 _ _ _ _ ?_; clear HH9 GG9; intro F9 N9; (try dsimp only)))
  (k_with "call ref" => (k_here; (with_reducible show wpAny _ _ (call (Value.ref 124) [Value.str (Str.ofString "1") _, _]) _ _ _); k_dflt (refine' rets_use2 (wn_1 _ _ _ _ _ rfl) ?q9k1 ?q9k2 ?q9k3 ?q9k4 ?q9k5 ?q9k6 ?q9k7 ?q9k8 ?_; (case q9k1 => k_asm); (case q9k2 => k_asm); (case q9k3 => k_asm); (case q9k4 => k_asm); (case q9k5 => k_asm); (case q9k6 => first | exact rfl | assumption); (case q9k7 => ktr_room); (case q9k8 => ktr_units)); intro GG9 HH9; (first | refine SameI.out ?_ | refine SameS.out ?_); intro h9 tk9 t9; refine HH9 _ _ _ _ ?_; clear HH9 GG9; intro F9 N9; (try dsimp only)))
  (k_with "call ref" => (k_here; (with_reducible show wpAny _ _ (call (Value.ref 124) [Value.str (Str.ofString "2") _, _]) _ _ _); k_dflt (refine' rets_use2 (wn_2 _ _ _ _ _ rfl) ?q9k1 ?q9k2 ?q9k3 ?q9k4 ?q9k5 ?q9k6 ?q9k7 ?q9k8 ?_; (case q9k1 => k_asm); (case q9k2 => k_asm); (case q9k3 => k_asm); (case q9k4 => k_asm); (case q9k5 => k_asm); (case q9k6 => first | exact rfl | assumption); (case q9k7 => ktr_room); (case q9k8 => ktr_units)); intro GG9 HH9; (first | refine SameI.out ?_ | refine SameS.out ?_); intro h9 tk9 t9; refine HH9 _ _ _ _ ?_; clear HH9 GG9; intro F9 N9; (try dsimp only)))
  (k_with "call ref" => (k_here; (with_reducible show wpAny _ _ (call (Value.ref 124) [Value.str (Str.ofString "3") _, _]) _ _ _); k_dflt (refine' rets_use2 (wn_3 _ _ _ _ _ rfl) ?q9k1 ?q9k2 ?q9k3 ?q9k4 ?q9k5 ?q9k6 ?q9k7 ?q9k8 ?_; (case q9k1 => k_asm); (case q9k2 => k_asm); (case q9k3 => k_asm); (case q9k4 => k_asm); (case q9k5 => k_asm); (case q9k6 => first | exact rfl | assumption); (case q9k7 => ktr_room); (case q9k8 => ktr_units)); intro GG9 HH9; (first | refine SameI.out ?_ | refine SameS.out ?_); intro h9 tk9 t9; refine HH9 _ _ _ _ ?_; clear HH9 GG9; intro F9 N9; (try dsimp only)))
  (k_with "call ref" => (k_here; (with_reducible show wpAny _ _ (call (Value.ref 124) [Value.str (Str.ofString "4") _, _]) _ _ _); k_dflt (refine' rets_use2 (wn_4 _ _ _ _ _ rfl) ?q9k1 ?q9k2 ?q9k3 ?q9k4 ?q9k5 ?q9k6 ?q9k7 ?q9k8 ?_; (case q9k1 => k_asm); (case q9k2 => k_asm); (case q9k3 => k_asm); (case q9k4 => k_asm); (case q9k5 => k_asm); (case q9k6 => first | exact rfl | assumption); (case q9k7 => ktr_room); (case q9k8 => ktr_units)); intro GG9 HH9; (first | refine SameI.out ?_ | refine SameS.out ?_); intro h9 tk9 t9; refine HH9 _ _ _ _ ?_; clear HH9 GG9; intro F9 N9; (try dsimp only)))
  (k_with "call ref" => (k_here; (with_reducible show wpAny _ _ (call (Value.ref 124) [Value.str (Str.ofString "5") _, _]) _ _ _); k_dflt (refine' rets_use2 (wn_5 _ _ _ _ _ rfl) ?q9k1 ?q9k2 ?q9k3 ?q9k4 ?q9k5 ?q9k6 ?q9k7 ?q9k8 ?_; (case q9k1 => k_asm); (case q9k2 => k_asm); (case q9k3 => k_asm); (case q9k4 => k_asm); (case q9k5 => k_asm); (case q9k6 => first | exact rfl | assumption); (case q9k7 => ktr_room); (case q9k8 => ktr_units)); intro GG9 HH9; (first | refine SameI.out ?_ | refine SameS.out ?_); intro h9 tk9 t9; refine HH9 _ _ _ _ ?_; clear HH9 GG9; intro F9 N9; (try dsimp only)))
  (k_with "call ref" => (k_here; (with_reducible show wpAny _ _ (call (Value.ref 124) [Value.str (Str.ofString "two") _, _]) _ _ _); k_dflt (refine' raises_use (wn_two _ _ _ _ _ rfl) ?q9k1 ?q9k2 ?q9k3 ?q9k4 ?q9k5 ?q9k6 ?q9k7 ?q9k8 ?_; (case q9k1 => k_asm); (case q9k2 => k_asm); (case q9k3 => k_asm); (case q9k4 => k_asm); (case q9k5 => k_asm); (case q9k6 => first | exact rfl | assumption); (case q9k7 => ktr_room); (case q9k8 => ktr_units)); intro e9 g9 h9 tk9 F9 U9 R9; (try dsimp only)))
  (k_with "call ref" => (k_here; (with_reducible show wpAny _ _ (call (Value.ref 124) [Value.str (Str.ofString "x") _, _]) _ _ _); k_dflt (refine' raises_use (wn_x _ _ _ _ _ rfl) ?q9k1 ?q9k2 ?q9k3 ?q9k4 ?q9k5 ?q9k6 ?q9k7 ?q9k8 ?_; (case q9k1 => k_asm); (case q9k2 => k_asm); (case q9k3 => k_asm); (case q9k4 => k_asm); (case q9k5 => k_asm); (case q9k6 => first | exact rfl | assumption); (case q9k7 => ktr_room); (case q9k8 => ktr_units)); intro e9 g9 h9 tk9 F9 U9 R9; (try dsimp only)))
  (k_with "call ref" => (k_here; (with_reducible show wpAny _ _ (call (Value.ref 124) [Value.str (Str.ofString "") _, _]) _ _ _); k_dflt (refine' raises_use (wn_e _ _ _ _ _ rfl) ?q9k1 ?q9k2 ?q9k3 ?q9k4 ?q9k5 ?q9k6 ?q9k7 ?q9k8 ?_; (case q9k1 => k_asm); (case q9k2 => k_asm); (case q9k3 => k_asm); (case q9k4 => k_asm); (case q9k5 => k_asm); (case q9k6 => first | exact rfl | assumption); (case q9k7 => ktr_room); (case q9k8 => ktr_units)); intro e9 g9 h9 tk9 F9 U9 R9; (try dsimp only)))
  trivial

theorem cg_scale : ∀ (w : World) (A : RA) (S : RS) (c : Cont) (rest : List (Addr × Obj)) (f n : Nat) (tw ta : Tok) (at' : Int) (q1 q2 : Tok) ,
    A.Ok ((f, listOf [.str (s_ "1") q1, .str (s_ "ns") q2].toArray n) :: rest) → A.ch < f → RHolds w ((f, listOf [.str (s_ "1") q1, .str (s_ "ns") q2].toArray n) :: rest) S c → (Mine.hd.heap_39 w.params = Mine.hd.heap_39 w.params) →
    Rets w 152 [.ref A.rd, .str (s_ "$timescale") tw, .int at' ta, .ref f] 12 150 (led w.params A S ++ ((f, listOf [.str (s_ "1") q1, .str (s_ "ns") q2].toArray n) :: rest)) (CmdR w A S ((f, listOf [.str (s_ "1") q1, .str (s_ "ns") q2].toArray n) :: rest) { c with scale := s_ "1 ns" }) := by
  unfold Rets
  k_fill
  rintro w ⟨rd, drd, wr, dwr, sc, va, wi, ch, r1, r2, r3, rt, d1, d2, d3, d4, d5, d6, d7⟩ ⟨T, p, a0, t2, t3, scale, st, now, nt, scv, scn, vav, van, wio, chv, chn⟩ c rest f n tw ta at' q1 q2 hOk hf hH  _ mean mg mb dp un gd cn cs a ccd cl outer A₀ base h₀ L m s Q E B F X N Tp hk hd hu hret
  have O := offs hOk
  have hOk' := hOk
  obtain ⟨o1, o2, o3, o4, o5, o6, o7, lo, off⟩ := hOk
  obtain ⟨f1, f2, f3, f4, f5, f6⟩ := O
  replace f1 := fun x hx => f1 x (.tail _ hx); replace f2 := fun x hx => f2 x (.tail _ hx); replace f3 := fun x hx => f3 x (.tail _ hx)
  replace f4 := fun x hx => f4 x (.tail _ hx); replace f5 := fun x hx => f5 x (.tail _ hx); replace f6 := fun x hx => f6 x (.tail _ hx)
  have hH' := hH
  obtain ⟨hsc, hno, hscs, hvs, hcs, kvs, hwd, hwf⟩ := hH
  dsimp only at o1 o2 o3 o4 o5 o6 o7 lo off f1 f2 f3 f4 f5 f6 hsc hno hscs hvs hcs hwd hwf hf
  replace hf := nl hf; replace o1 := nl o1; replace o2 := nl o2; replace o3 := nl o3; replace o4 := nl o4; replace o5 := nl o5; replace o6 := nl o6; replace o7 := nl o7

  unfold led rdDict at N
  simp only [List.cons_append, List.nil_append] at N
  refine wpAny_call ?_
  k_dflt ktr_enter
  k_steps
  all_goals (
    (rename News _ _ _ _ => N9)
    (try simp only [List.push_toArray, List.nil_append, List.cons_append] at N9)
    refine' hret .none (led w.params ⟨rd, drd, wr, dwr, sc, va, wi, ch, r1, r2, r3, rt, d1, d2, d3, d4, d5, d6, d7⟩ ⟨T, p, a0, t2, t3, s_ "1 ns", _, _, nt, scv, scn, vav, van, wio, chv, chn⟩ ++ ([] ++ _)) _ _ (by assumption) (cb_drop N9 ?sub) ⟨_, _, ?ok, ?holds, rfl, rfl⟩
    case sub => (unfold led rdDict; simp only [List.cons_append, List.nil_append]; kwd_rel)
    case ok => exact hOk'
    case holds => exact ⟨rfl, (by first | assumption | rfl), hscs, hvs, hcs, kvs, hwd, hwf⟩)

theorem cg_scope : ∀ (w : World) (A : RA) (S : RS) (c : Cont) (rest : List (Addr × Obj)) (f n : Nat) (tw ta : Tok) (at' : Int) (q1 q2 : Tok) ,
    A.Ok ((f, listOf [.str (s_ "module") q1, .str (s_ "top") q2].toArray n) :: rest) → A.ch < f → RHolds w ((f, listOf [.str (s_ "module") q1, .str (s_ "top") q2].toArray n) :: rest) S c → c.scopes = [] → (Mine.hd.heap_39 w.params = Mine.hd.heap_39 w.params) →
    Rets w 152 [.ref A.rd, .str (s_ "$scope") tw, .int at' ta, .ref f] 12 150 (led w.params A S ++ ((f, listOf [.str (s_ "module") q1, .str (s_ "top") q2].toArray n) :: rest)) (CmdR w A S ((f, listOf [.str (s_ "module") q1, .str (s_ "top") q2].toArray n) :: rest) { c with scopes := [s_ "top"] }) := by
  unfold Rets
  k_fill
  rintro w ⟨rd, drd, wr, dwr, sc, va, wi, ch, r1, r2, r3, rt, d1, d2, d3, d4, d5, d6, d7⟩ ⟨T, p, a0, t2, t3, scale, st, now, nt, scv, scn, vav, van, wio, chv, chn⟩ c rest f n tw ta at' q1 q2 hOk hf hH e1 _ mean mg mb dp un gd cn cs a ccd cl outer A₀ base h₀ L m s Q E B F X N Tp hk hd hu hret
  have O := offs hOk
  have hOk' := hOk
  obtain ⟨o1, o2, o3, o4, o5, o6, o7, lo, off⟩ := hOk
  obtain ⟨f1, f2, f3, f4, f5, f6⟩ := O
  replace f1 := fun x hx => f1 x (.tail _ hx); replace f2 := fun x hx => f2 x (.tail _ hx); replace f3 := fun x hx => f3 x (.tail _ hx)
  replace f4 := fun x hx => f4 x (.tail _ hx); replace f5 := fun x hx => f5 x (.tail _ hx); replace f6 := fun x hx => f6 x (.tail _ hx)
  have hH' := hH
  obtain ⟨hsc, hno, hscs, hvs, hcs, kvs, hwd, hwf⟩ := hH
  dsimp only at o1 o2 o3 o4 o5 o6 o7 lo off f1 f2 f3 f4 f5 f6 hsc hno hscs hvs hcs hwd hwf hf
  replace hf := nl hf; replace o1 := nl o1; replace o2 := nl o2; replace o3 := nl o3; replace o4 := nl o4; replace o5 := nl o5; replace o6 := nl o6; replace o7 := nl o7
  rw [e1] at hscs
  obtain rfl := hscs.nil_inv

  unfold led rdDict at N
  simp only [List.cons_append, List.nil_append] at N
  refine wpAny_call ?_
  k_dflt ktr_enter
  k_steps
  all_goals (
    (rename News _ _ _ _ => N9)
    (try simp only [List.push_toArray, List.nil_append, List.cons_append] at N9)
    refine' hret .none (led w.params ⟨rd, drd, wr, dwr, sc, va, wi, ch, r1, r2, r3, rt, d1, d2, d3, d4, d5, d6, d7⟩ ⟨T, p, a0, t2, t3, _, st, _, nt, [.str (s_ "top") q2], _, vav, van, wio, chv, chn⟩ ++ ([] ++ _)) _ _ (by assumption) (cb_drop N9 ?sub) ⟨_, _, ?ok, ?holds, rfl, rfl⟩
    case sub => (unfold led rdDict; simp only [List.cons_append, List.nil_append]; kwd_rel)
    case ok => exact hOk'
    case holds => exact ⟨(by first | assumption | rfl), (by first | assumption | rfl), .cons _ _ .nil, hvs, hcs, kvs, hwd, hwf⟩)

theorem cg_up : ∀ (w : World) (A : RA) (S : RS) (c : Cont) (rest : List (Addr × Obj)) (f n : Nat) (tw ta : Tok) (at' : Int) ,
    A.Ok ((f, listOf [].toArray n) :: rest) → A.ch < f → RHolds w ((f, listOf [].toArray n) :: rest) S c → c.scopes = [s_ "top"] → (Mine.hd.heap_39 w.params = Mine.hd.heap_39 w.params) →
    Rets w 152 [.ref A.rd, .str (s_ "$upscope") tw, .int at' ta, .ref f] 12 150 (led w.params A S ++ ((f, listOf [].toArray n) :: rest)) (CmdR w A S ((f, listOf [].toArray n) :: rest) { c with scopes := [] }) := by
  unfold Rets
  k_fill
  rintro w ⟨rd, drd, wr, dwr, sc, va, wi, ch, r1, r2, r3, rt, d1, d2, d3, d4, d5, d6, d7⟩ ⟨T, p, a0, t2, t3, scale, st, now, nt, scv, scn, vav, van, wio, chv, chn⟩ c rest f n tw ta at'  hOk hf hH e1 _ mean mg mb dp un gd cn cs a ccd cl outer A₀ base h₀ L m s Q E B F X N Tp hk hd hu hret
  have O := offs hOk
  have hOk' := hOk
  obtain ⟨o1, o2, o3, o4, o5, o6, o7, lo, off⟩ := hOk
  obtain ⟨f1, f2, f3, f4, f5, f6⟩ := O
  replace f1 := fun x hx => f1 x (.tail _ hx); replace f2 := fun x hx => f2 x (.tail _ hx); replace f3 := fun x hx => f3 x (.tail _ hx)
  replace f4 := fun x hx => f4 x (.tail _ hx); replace f5 := fun x hx => f5 x (.tail _ hx); replace f6 := fun x hx => f6 x (.tail _ hx)
  have hH' := hH
  obtain ⟨hsc, hno, hscs, hvs, hcs, kvs, hwd, hwf⟩ := hH
  dsimp only at o1 o2 o3 o4 o5 o6 o7 lo off f1 f2 f3 f4 f5 f6 hsc hno hscs hvs hcs hwd hwf hf
  replace hf := nl hf; replace o1 := nl o1; replace o2 := nl o2; replace o3 := nl o3; replace o4 := nl o4; replace o5 := nl o5; replace o6 := nl o6; replace o7 := nl o7
  rw [e1] at hscs
  obtain ⟨qs, scv', rfl, hscs'⟩ := hscs.cons_inv
  obtain rfl := hscs'.nil_inv

  unfold led rdDict at N
  simp only [List.cons_append, List.nil_append] at N
  refine wpAny_call ?_
  k_dflt ktr_enter
  k_steps
  all_goals (
    (rename News _ _ _ _ => N9)
    (try simp only [List.push_toArray, List.nil_append, List.cons_append] at N9)
    refine' hret .none (led w.params ⟨rd, drd, wr, dwr, sc, va, wi, ch, r1, r2, r3, rt, d1, d2, d3, d4, d5, d6, d7⟩ ⟨T, p, a0, t2, t3, _, st, _, nt, [], _, vav, van, wio, chv, chn⟩ ++ ([] ++ _)) _ _ (by assumption) (cb_drop N9 ?sub) ⟨_, _, ?ok, ?holds, rfl, rfl⟩
    case sub => (unfold led rdDict; simp only [List.cons_append, List.nil_append]; kwd_rel)
    case ok => exact hOk'
    case holds => exact ⟨(by first | assumption | rfl), (by first | assumption | rfl), .nil, hvs, hcs, kvs, hwd, hwf⟩)

theorem cg_var1_v : ∀ (w : World) (A : RA) (S : RS) (c : Cont) (rest : List (Addr × Obj)) (f n : Nat) (tw ta : Tok) (at' : Int) (q1 q2 q3 q4 : Tok) ,
    A.Ok ((f, listOf [.str (s_ "wire") q1, .str (s_ "1") q2, .str (s_ "!") q3, .str (s_ "a") q4].toArray n) :: rest) → A.ch < f → RHolds w ((f, listOf [.str (s_ "wire") q1, .str (s_ "1") q2, .str (s_ "!") q3, .str (s_ "a") q4].toArray n) :: rest) S c → c.scopes = [s_ "top"] → c.vars = [] → c.D = [] → (Mine.hd.heap_39 w.params = Mine.hd.heap_39 w.params) →
    Rets w 159 [.ref A.rd, .int at' ta, .ref f] 10 120 (led w.params A S ++ ((f, listOf [.str (s_ "wire") q1, .str (s_ "1") q2, .str (s_ "!") q3, .str (s_ "a") q4].toArray n) :: rest)) (CmdR w A S ((f, listOf [.str (s_ "wire") q1, .str (s_ "1") q2, .str (s_ "!") q3, .str (s_ "a") q4].toArray n) :: rest) { c with vars := [varA], D := [(s_ "!", 1)] }) := by
  unfold Rets
  k_fill
  rintro w ⟨rd, drd, wr, dwr, sc, va, wi, ch, r1, r2, r3, rt, d1, d2, d3, d4, d5, d6, d7⟩ ⟨T, p, a0, t2, t3, scale, st, now, nt, scv, scn, vav, van, wio, chv, chn⟩ c rest f n tw ta at' q1 q2 q3 q4 hOk hf hH e1 e2 e3 _ mean mg mb dp un gd cn cs a ccd cl outer A₀ base h₀ L m s Q E B F X N Tp hk hd hu hret
  have O := offs hOk
  have hOk' := hOk
  obtain ⟨o1, o2, o3, o4, o5, o6, o7, lo, off⟩ := hOk
  obtain ⟨f1, f2, f3, f4, f5, f6⟩ := O
  replace f1 := fun x hx => f1 x (.tail _ hx); replace f2 := fun x hx => f2 x (.tail _ hx); replace f3 := fun x hx => f3 x (.tail _ hx)
  replace f4 := fun x hx => f4 x (.tail _ hx); replace f5 := fun x hx => f5 x (.tail _ hx); replace f6 := fun x hx => f6 x (.tail _ hx)
  have hH' := hH
  obtain ⟨hsc, hno, hscs, hvs, hcs, kvs, hwd, hwf⟩ := hH
  dsimp only at o1 o2 o3 o4 o5 o6 o7 lo off f1 f2 f3 f4 f5 f6 hsc hno hscs hvs hcs hwd hwf hf
  replace hf := nl hf; replace o1 := nl o1; replace o2 := nl o2; replace o3 := nl o3; replace o4 := nl o4; replace o5 := nl o5; replace o6 := nl o6; replace o7 := nl o7
  rw [e1] at hscs
  obtain ⟨qs, scv', rfl, hscs'⟩ := hscs.cons_inv
  obtain rfl := hscs'.nil_inv
  rw [e2] at hvs
  cases hvs
  rw [e3] at hwf

  unfold led rdDict at N
  simp only [List.cons_append, List.nil_append] at N
  refine wpAny_call ?_
  k_dflt ktr_enter
  k_steps
  all_goals (
    (rename News _ _ _ _ => N9)
    (try simp only [List.push_toArray, List.nil_append, List.cons_append] at N9)
    refine' hret .none (led w.params ⟨rd, drd, wr, dwr, sc, va, wi, ch, r1, r2, r3, rt, d1, d2, d3, d4, d5, d6, d7⟩ ⟨T, p, a0, t2, t3, _, st, _, nt, [.str (s_ "top") qs], scn, [_], _, _, chv, chn⟩ ++ ([(_, _)] ++ _)) _ _ (by assumption) (cb_drop N9 ?sub) ⟨_, _, ?ok, ?holds, rfl, rfl⟩
    case sub => (unfold led rdDict; simp only [List.cons_append, List.nil_append]; kwd_rel)
    case ok => exact ok_more hOk' (by (intro x hx; rcases List.mem_cons.mp hx with rfl | hx; (refine nl ?_; dsimp only; omega); cases hx))
    case holds => exact ⟨(by first | assumption | rfl), (by first | assumption | rfl), (by dsimp only; rw [e1]; exact .cons _ _ .nil), .cons (.tuple (.head _) (.cons (.str _ _) (.cons (.int _ _) (.cons (.str _ _) (.cons (.str _ _) .nil))))) .nil, hcs.mono sub_app, ⟨_, by assumption, by assumption⟩⟩)
theorem cg_var1 : ∀ (w : World) (A : RA) (S : RS) (c : Cont) (rest : List (Addr × Obj)) (f n : Nat) (tw ta : Tok) (at' : Int) (q1 q2 q3 q4 : Tok) ,
    A.Ok ((f, listOf [.str (s_ "wire") q1, .str (s_ "1") q2, .str (s_ "!") q3, .str (s_ "a") q4].toArray n) :: rest) → A.ch < f → RHolds w ((f, listOf [.str (s_ "wire") q1, .str (s_ "1") q2, .str (s_ "!") q3, .str (s_ "a") q4].toArray n) :: rest) S c → c.scopes = [s_ "top"] → c.vars = [] → c.D = [] → (Mine.hd.heap_39 w.params = Mine.hd.heap_39 w.params) →
    Rets w 152 [.ref A.rd, .str (s_ "$var") tw, .int at' ta, .ref f] 12 150 (led w.params A S ++ ((f, listOf [.str (s_ "wire") q1, .str (s_ "1") q2, .str (s_ "!") q3, .str (s_ "a") q4].toArray n) :: rest)) (CmdR w A S ((f, listOf [.str (s_ "wire") q1, .str (s_ "1") q2, .str (s_ "!") q3, .str (s_ "a") q4].toArray n) :: rest) { c with vars := [varA], D := [(s_ "!", 1)] }) := by
  intros
  refine CmdR.rets (cmd_var_ok _ _ _ _ _ _ _ _ _ ?_ rfl)
  apply cg_var1_v <;> assumption

theorem cg_var2_v : ∀ (w : World) (A : RA) (S : RS) (c : Cont) (rest : List (Addr × Obj)) (f n : Nat) (tw ta : Tok) (at' : Int) (q1 q2 q3 q4 q5 : Tok) ,
    A.Ok ((f, listOf [.str (s_ "reg") q1, .str (s_ "3") q2, .str (s_ "%") q3, .str (s_ "b") q4, .str (s_ "[2:0]") q5].toArray n) :: rest) → A.ch < f → RHolds w ((f, listOf [.str (s_ "reg") q1, .str (s_ "3") q2, .str (s_ "%") q3, .str (s_ "b") q4, .str (s_ "[2:0]") q5].toArray n) :: rest) S c → c.scopes = [s_ "top"] → c.vars = [varA] → c.D = [(s_ "!", 1)] → (Mine.hd.heap_39 w.params = Mine.hd.heap_39 w.params) →
    Rets w 159 [.ref A.rd, .int at' ta, .ref f] 10 120 (led w.params A S ++ ((f, listOf [.str (s_ "reg") q1, .str (s_ "3") q2, .str (s_ "%") q3, .str (s_ "b") q4, .str (s_ "[2:0]") q5].toArray n) :: rest)) (CmdR w A S ((f, listOf [.str (s_ "reg") q1, .str (s_ "3") q2, .str (s_ "%") q3, .str (s_ "b") q4, .str (s_ "[2:0]") q5].toArray n) :: rest) { c with vars := [varA, varB], D := [(s_ "!", 1), (s_ "%", 3)] }) := by
  unfold Rets
  k_fill
  rintro w ⟨rd, drd, wr, dwr, sc, va, wi, ch, r1, r2, r3, rt, d1, d2, d3, d4, d5, d6, d7⟩ ⟨T, p, a0, t2, t3, scale, st, now, nt, scv, scn, vav, van, wio, chv, chn⟩ c rest f n tw ta at' q1 q2 q3 q4 q5 hOk hf hH e1 e2 e3 _ mean mg mb dp un gd cn cs a ccd cl outer A₀ base h₀ L m s Q E B F X N Tp hk hd hu hret
  have O := offs hOk
  have hOk' := hOk
  obtain ⟨o1, o2, o3, o4, o5, o6, o7, lo, off⟩ := hOk
  obtain ⟨f1, f2, f3, f4, f5, f6⟩ := O
  replace f1 := fun x hx => f1 x (.tail _ hx); replace f2 := fun x hx => f2 x (.tail _ hx); replace f3 := fun x hx => f3 x (.tail _ hx)
  replace f4 := fun x hx => f4 x (.tail _ hx); replace f5 := fun x hx => f5 x (.tail _ hx); replace f6 := fun x hx => f6 x (.tail _ hx)
  have hH' := hH
  obtain ⟨hsc, hno, hscs, hvs, hcs, kvs, hwd, hwf⟩ := hH
  dsimp only at o1 o2 o3 o4 o5 o6 o7 lo off f1 f2 f3 f4 f5 f6 hsc hno hscs hvs hcs hwd hwf hf
  replace hf := nl hf; replace o1 := nl o1; replace o2 := nl o2; replace o3 := nl o3; replace o4 := nl o4; replace o5 := nl o5; replace o6 := nl o6; replace o7 := nl o7
  rw [e1] at hscs
  obtain ⟨qs, scv', rfl, hscs'⟩ := hscs.cons_inv
  obtain rfl := hscs'.nil_inv
  rw [e2] at hvs
  rcases hvs with _ | ⟨hv1, hvs⟩
  cases hvs
  rw [e3] at hwf

  unfold led rdDict at N
  simp only [List.cons_append, List.nil_append] at N
  refine wpAny_call ?_
  k_dflt ktr_enter
  k_steps
  all_goals (
    (rename News _ _ _ _ => N9)
    (try simp only [List.push_toArray, List.nil_append, List.cons_append] at N9)
    refine' hret .none (led w.params ⟨rd, drd, wr, dwr, sc, va, wi, ch, r1, r2, r3, rt, d1, d2, d3, d4, d5, d6, d7⟩ ⟨T, p, a0, t2, t3, _, st, _, nt, [.str (s_ "top") qs], scn, [_, _], _, _, chv, chn⟩ ++ ([(_, _)] ++ _)) _ _ (by assumption) (cb_drop N9 ?sub) ⟨_, _, ?ok, ?holds, rfl, rfl⟩
    case sub => (unfold led rdDict; simp only [List.cons_append, List.nil_append]; kwd_rel)
    case ok => exact ok_more hOk' (by (intro x hx; rcases List.mem_cons.mp hx with rfl | hx; (refine nl ?_; dsimp only; omega); cases hx))
    case holds => exact ⟨(by first | assumption | rfl), (by first | assumption | rfl), (by dsimp only; rw [e1]; exact .cons _ _ .nil), .cons (hv1.mono sub_app) (.cons (.tuple (.head _) (.cons (.str _ _) (.cons (.int _ _) (.cons (.str _ _) (.cons (.str _ _) .nil))))) .nil), hcs.mono sub_app, ⟨_, by assumption, by assumption⟩⟩)
theorem cg_var2 : ∀ (w : World) (A : RA) (S : RS) (c : Cont) (rest : List (Addr × Obj)) (f n : Nat) (tw ta : Tok) (at' : Int) (q1 q2 q3 q4 q5 : Tok) ,
    A.Ok ((f, listOf [.str (s_ "reg") q1, .str (s_ "3") q2, .str (s_ "%") q3, .str (s_ "b") q4, .str (s_ "[2:0]") q5].toArray n) :: rest) → A.ch < f → RHolds w ((f, listOf [.str (s_ "reg") q1, .str (s_ "3") q2, .str (s_ "%") q3, .str (s_ "b") q4, .str (s_ "[2:0]") q5].toArray n) :: rest) S c → c.scopes = [s_ "top"] → c.vars = [varA] → c.D = [(s_ "!", 1)] → (Mine.hd.heap_39 w.params = Mine.hd.heap_39 w.params) →
    Rets w 152 [.ref A.rd, .str (s_ "$var") tw, .int at' ta, .ref f] 12 150 (led w.params A S ++ ((f, listOf [.str (s_ "reg") q1, .str (s_ "3") q2, .str (s_ "%") q3, .str (s_ "b") q4, .str (s_ "[2:0]") q5].toArray n) :: rest)) (CmdR w A S ((f, listOf [.str (s_ "reg") q1, .str (s_ "3") q2, .str (s_ "%") q3, .str (s_ "b") q4, .str (s_ "[2:0]") q5].toArray n) :: rest) { c with vars := [varA, varB], D := [(s_ "!", 1), (s_ "%", 3)] }) := by
  intros
  refine CmdR.rets (cmd_var_ok _ _ _ _ _ _ _ _ _ ?_ rfl)
  apply cg_var2_v <;> assumption


end Mine
end
section
open PySem PySem.W PySem.Calls PyProof.Rows PyProof.V PySem.Spec
set_option maxHeartbeats 20000000
namespace Mine
theorem cmdb_lines0 : True := by
  k_with_none
  (k_with "k_room" => ktr_room)
  (k_with "k_all" => assumption)
  (k_with "ktr_rel" => first | assumption | rfl | ((refine (if_neg (by decide)).trans ?_); ktr_rel))
  (k_with "eval Name" => (k_here; k_dflt (refine' ld ?q9k1 ?q9k2 ?_; (case q9k1 => k_asm); (case q9k2 => first | assumption | rfl | ((refine (if_neg (by decide)).trans ?_); first | assumption | ktr_rel)); k_whole)))
  (k_with "exec Raise some none" => (k_here; with_reducible refine fe_raise rfl ?_))
  (k_with "call ref" => (k_here; (with_reducible show wpAny _ _ (call (Value.ref 45) _) _ _ _); k_dflt (first
  | (refine' rets_use2 (fe_make _ _ _ _ _ _ _ _ rfl) ?q9k1 ?q9k2 ?q9k3 ?q9k4 ?q9k5 ?q9k6 ?q9k7 ?q9k8 ?_; (case q9k1 => k_asm); (case q9k2 => k_asm); (case q9k3 => k_asm); (case q9k4 => k_asm); (case q9k5 => k_asm); (case q9k6 => first | exact rfl | assumption); (case q9k7 => ktr_room); (case q9k8 => ktr_units))
  | (refine' rets_use2 (fe_make2 _ _ _ _ _ _ rfl) ?q9k1 ?q9k2 ?q9k3 ?q9k4 ?q9k5 ?q9k6 ?q9k7 ?q9k8 ?_; (case q9k1 => k_asm); (case q9k2 => k_asm); (case q9k3 => k_asm); (case q9k4 => k_asm); (case q9k5 => k_asm); (case q9k6 => first | exact rfl | assumption); (case q9k7 => ktr_room); (case q9k8 => ktr_units))); intro GG9 HH9; refine FeMade.out ?_; intro h9 tk9 e9 d9 p9 _ _ _ _ _ _ l9 m9; refine HH9 _ _ _ _ ?_; clear HH9 GG9; intro F9 N9; (try dsimp only)))
  (k_with "Exists" => (k_here; refine ⟨_, _, _, rfl, by k_in, News.get (by k_asm) (List.Mem.tail _ (List.Mem.head _)), ?_⟩; (try dsimp only)))
  (k_with "leaving ref" => (k_here; first
  | (refine' fe_leave_first ?q9k1 ?q9k2 ?q9k3 ?q9k4 ?q9k5 ?_; (case q9k1 => assumption); (case q9k2 => k_asm); (case q9k3 => k_asm); (case q9k4 => (intro p hp; exact Nat.ne_of_lt (by (first | exact l9 p hp | (rename ∀ p ∈ _, @LT.lt Nat _ _ _ => l9; exact l9 p hp))))); (case q9k5 => exact Nat.ne_of_gt (by assumption)); intro h' R' U'; (try dsimp only at R' U' ⊢))
  | (refine' fe_leave_on ?q9k1 ?q9k2 ?q9k3 ?q9k4 ?_; (case q9k3 => assumption); (case q9k1 => assumption); (case q9k4 => assumption); (case q9k2 => assumption); intro h' R' U'; (try dsimp only at R' U' ⊢))))
  (k_with "subscriptTail" => (k_here; (with_reducible show wpAny _ _ (subscriptTail _ _ (Value.str _ _) (Value.int _ _)) _ _ _); (refine item_str (fitsSsize_of (N := 9223372036854775808) (by omega) (by omega) (Int.le_refl _)) (by omega) (by omega) ?_); intro hlen9))
  (k_with "ktr_unf" => repeat' ((fail_if_success (with_reducible show wpAny _ _ (exec (Stmt.While _ _ _ _) _) _ _ _)); first | (k_unfold; (try dsimp only)) | (k_end; wrow_close) | walk1 | (dsimp only; walk1) | (leave1; walk_say "STEP leave1"; try dsimp only) | fail "no step"))
  (k_with "subscriptTail" => (k_here; (with_reducible show wpAny _ _ (subscriptTail _ (Expr.Slice (some _) (some _) none _) (Value.str _ _) (Value.ref _)) _ _ _); (with_reducible rename Fr _ _ _ _ => F'); (with_reducible rename News _ _ _ _ => N'); (refine slice_strN_ss (hsz := ?q9hsz) (s := ⟨_, _, _, _, _⟩) F' N' ?_); (case q9hsz => (rw [sizeLine_eq]; omega)); intro _ _ _ _ _))
  (k_with "k_updF" => first | (refine' UpdF.head ?q9a; (case q9a => k_all)) | (refine' UpdF.tail ?q9a ?q9b; (case q9a => k_ne); (case q9b => k_updF)))
  (k_with "kwd_rel" => first | exact List.forall_mem_nil _ | ((refine' List.forall_mem_cons.mpr ⟨?q9aa, ?q9bb⟩); (case q9aa => k_mem); (case q9bb => kwd_rel)) | (intro p hp; repeat (first | exact hp | refine List.Mem.tail _ ?_)))
  (k_with "call ref" => (k_here; (with_reducible show wpAny _ _ (call (Value.ref 124) [Value.str (Str.ofString "0") _, _]) _ _ _); k_dflt (refine' rets_use2 (wn_0 _ _ _ _ _ rfl) ?q9k1 ?q9k2 ?q9k3 ?q9k4 ?q9k5 ?q9k6 ?q9k7 ?q9k8 ?_; (case q9k1 => k_asm); (case q9k2 => k_asm); (case q9k3 => k_asm); (case q9k4 => k_asm); (case q9k5 => k_asm); (case q9k6 => first | exact rfl | assumption); (case q9k7 => ktr_room); (case q9k8 => ktr_units)); intro GG9 HH9; (first | refine SameI.out ?_ | refine SameS.out ?_); intro h9 tk9 t9; refine HH9 _ _ _ _ ?_; clear HH9 GG9; intro F9 N9; (try dsimp only)))
  (k_with "call ref" => (k_here; (with_reducible show wpAny _ _ (call (Value.ref 124) [Value.str (Str.ofString "1") _, _]) _ _ _); k_dflt (refine' rets_use2 (wn_1 _ _ _ _ _ rfl) ?q9k1 ?q9k2 ?q9k3 ?q9k4 ?q9k5 ?q9k6 ?q9k7 ?q9k8 ?_; (case q9k1 => k_asm); (case q9k2 => k_asm); (case q9k3 => k_asm); (case q9k4 => k_asm); (case q9k5 => k_asm); (case q9k6 => first | exact rfl | assumption); (case q9k7 => ktr_room); (case q9k8 => ktr_units)); intro GG9 HH9; (first | refine SameI.out ?_ | refine SameS.out ?_); intro h9 tk9 t9; refine HH9 _ _ _ _ ?_; clear HH9 GG9; intro F9 N9; (try dsimp only)))
  (k_with "call ref" => (k_here; (with_reducible show wpAny _ _ (call (Value.ref 124) [Value.str (Str.ofString "2") _, _]) _ _ _); k_dflt (refine' rets_use2 (wn_2 _ _ _ _ _ rfl) ?q9k1 ?q9k2 ?q9k3 ?q9k4 ?q9k5 ?q9k6 ?q9k7 ?q9k8 ?_; (case q9k1 => k_asm); (case q9k2 => k_asm); (case q9k3 => k_asm); (case q9k4 => k_asm); (case q9k5 => k_asm); (case q9k6 => first | exact rfl | assumption); (case q9k7 => ktr_room); (case q9k8 => ktr_units)); intro GG9 HH9; (first | refine SameI.out ?_ | refine SameS.out ?_); intro h9 tk9 t9; refine HH9 _ _ _ _ ?_; clear HH9 GG9; intro F9 N9; (try dsimp only)))
  (k_with "call ref" => (k_here; (with_reducible show wpAny _ _ (call (Value.ref 124) [Value.str (Str.ofString "3") _, _]) _ _ _); k_dflt (refine' rets_use2 (wn_3 _ _ _ _ _ rfl) ?q9k1 ?q9k2 ?q9k3 ?q9k4 ?q9k5 ?q9k6 ?q9k7 ?q9k8 ?_; (case q9k1 => k_asm); (case q9k2 => k_asm); (case q9k3 => k_asm); (case q9k4 => k_asm); (case q9k5 => k_asm); (case q9k6 => first | exact rfl | assumption); (case q9k7 => ktr_room); (case q9k8 => ktr_units)); intro GG9 HH9; (first | refine SameI.out ?_ | refine SameS.out ?_); intro h9 tk9 t9; refine HH9 _ _ _ _ ?_; clear HH9 GG9; intro F9 N9; (try dsimp only)))
  (k_with "call ref" => (k_here; (with_reducible show wpAny _ _ (call (Value.ref 124) [Value.str (Str.ofString "4") _, _]) _ _ _); k_dflt (refine' rets_use2 (wn_4 _ _ _ _ _ rfl) ?q9k1 ?q9k2 ?q9k3 ?q9k4 ?q9k5 ?q9k6 ?q9k7 ?q9k8 ?_; (case q9k1 => k_asm); (case q9k2 => k_asm); (case q9k3 => k_asm); (case q9k4 => k_asm); (case q9k5 => k_asm); (case q9k6 => first | exact rfl | assumption); (case q9k7 => ktr_room); (case q9k8 => ktr_units)); intro GG9 HH9; (first | refine SameI.out ?_ | refine SameS.out ?_); intro h9 tk9 t9; refine HH9 _ _ _ _ ?_; clear HH9 GG9; intro F9 N9; (try dsimp only)))
  (k_with "call ref" => (k_here; (with_reducible show wpAny _ _ (call (Value.ref 124) [Value.str (Str.ofString "5") _, _]) _ _ _); k_dflt (refine' rets_use2 (wn_5 _ _ _ _ _ rfl) ?q9k1 ?q9k2 ?q9k3 ?q9k4 ?q9k5 ?q9k6 ?q9k7 ?q9k8 ?_; (case q9k1 => k_asm); (case q9k2 => k_asm); (case q9k3 => k_asm); (case q9k4 => k_asm); (case q9k5 => k_asm); (case q9k6 => first | exact rfl | assumption); (case q9k7 => ktr_room); (case q9k8 => ktr_units)); intro GG9 HH9; (first | refine SameI.out ?_ | refine SameS.out ?_); intro h9 tk9 t9; refine HH9 _ _ _ _ ?_; clear HH9 GG9; intro F9 N9; (try dsimp only)))
  (k_with "call ref" => (k_here; (with_reducible show wpAny _ _ (call (Value.ref 124) [Value.str (Str.ofString "two") _, _]) _ _ _); k_dflt (refine' raises_use (wn_two _ _ _ _ _ rfl) ?q9k1 ?q9k2 ?q9k3 ?q9k4 ?q9k5 ?q9k6 ?q9k7 ?q9k8 ?_; (case q9k1 => k_asm); (case q9k2 => k_asm); (case q9k3 => k_asm); (case q9k4 => k_asm); (case q9k5 => k_asm); (case q9k6 => first | exact rfl | assumption); (case q9k7 => ktr_room); (case q9k8 => ktr_units)); intro e9 g9 h9 tk9 F9 U9 R9; (try dsimp only)))
  (k_with "call ref" => (k_here; (with_reducible show wpAny _ _ (call (Value.ref 124) [Value.str (Str.ofString "x") _, _]) _ _ _); k_dflt (refine' raises_use (wn_x _ _ _ _ _ rfl) ?q9k1 ?q9k2 ?q9k3 ?q9k4 ?q9k5 ?q9k6 ?q9k7 ?q9k8 ?_; (case q9k1 => k_asm); (case q9k2 => k_asm); (case q9k3 => k_asm); (case q9k4 => k_asm); (case q9k5 => k_asm); (case q9k6 => first | exact rfl | assumption); (case q9k7 => ktr_room); (case q9k8 => ktr_units)); intro e9 g9 h9 tk9 F9 U9 R9; (try dsimp only)))
  (k_with "call ref" => (k_here; (with_reducible show wpAny _ _ (call (Value.ref 124) [Value.str (Str.ofString "") _, _]) _ _ _); k_dflt (refine' raises_use (wn_e _ _ _ _ _ rfl) ?q9k1 ?q9k2 ?q9k3 ?q9k4 ?q9k5 ?q9k6 ?q9k7 ?q9k8 ?_; (case q9k1 => k_asm); (case q9k2 => k_asm); (case q9k3 => k_asm); (case q9k4 => k_asm); (case q9k5 => k_asm); (case q9k6 => first | exact rfl | assumption); (case q9k7 => ktr_room); (case q9k8 => ktr_units)); intro e9 g9 h9 tk9 F9 U9 R9; (try dsimp only)))
  trivial

theorem cb_foo : ∀ (w : World) (A : RA) (S : RS) (c : Cont) (rest : List (Addr × Obj)) (f n : Nat) (tw ta : Tok) (at' : Int) (q1 : Tok) ,
    A.Ok ((f, listOf [.str (s_ "x") q1].toArray n) :: rest) → A.ch < f → RHolds w ((f, listOf [.str (s_ "x") q1].toArray n) :: rest) S c → (Mine.hd.heap_39 w.params = Mine.hd.heap_39 w.params) →
    Raises w 152 [.ref A.rd, .str (s_ "$foo") tw, .int at' ta, .ref f] 12 150 (led w.params A S ++ ((f, listOf [.str (s_ "x") q1].toArray n) :: rest)) rest (s_ "unexpected_word") at' (s_ "$foo") := by
  unfold Raises
  k_fill
  rintro w ⟨rd, drd, wr, dwr, sc, va, wi, ch, r1, r2, r3, rt, d1, d2, d3, d4, d5, d6, d7⟩ ⟨T, p, a0, t2, t3, scale, st, now, nt, scv, scn, vav, van, wio, chv, chn⟩ c rest f n tw ta at' q1 hOk hf hH  _ mean mg mb dp un gd cn cs a ccd cl outer A₀ base h₀ L m s Q E B F X N Tp hk hd hu hret
  obtain ⟨o1, o2, o3, o4, o5, o6, o7, lo, off⟩ := hOk
  obtain ⟨hsc, hno, hscs, hvs, hcs, kvs, hwd, hwf⟩ := hH
  dsimp only at o1 o2 o3 o4 o5 o6 o7 lo off hsc hno hscs hvs hcs hwd hwf hf
  replace hf := nl hf; replace o1 := nl o1; replace o2 := nl o2; replace o3 := nl o3; replace o4 := nl o4; replace o5 := nl o5; replace o6 := nl o6; replace o7 := nl o7

  unfold led rdDict at N
  simp only [List.cons_append, List.nil_append] at N
  refine wpAny_call ?_
  k_dflt ktr_enter
  k_steps
  all_goals exact hret _ _ _ _ (by assumption) (by assumption) (FErr.drop (by assumption) (by intro p hp; repeat (first | exact hp | refine List.Mem.tail _ ?_)))

theorem cb_scope : ∀ (w : World) (A : RA) (S : RS) (c : Cont) (rest : List (Addr × Obj)) (f n : Nat) (tw ta : Tok) (at' : Int) (q1 : Tok) ,
    A.Ok ((f, listOf [.str (s_ "module") q1].toArray n) :: rest) → A.ch < f → RHolds w ((f, listOf [.str (s_ "module") q1].toArray n) :: rest) S c → (Mine.hd.heap_39 w.params = Mine.hd.heap_39 w.params) →
    Raises w 152 [.ref A.rd, .str (s_ "$scope") tw, .int at' ta, .ref f] 12 150 (led w.params A S ++ ((f, listOf [.str (s_ "module") q1].toArray n) :: rest)) rest (s_ "bad_scope") at' (s_ "") := by
  unfold Raises
  k_fill
  rintro w ⟨rd, drd, wr, dwr, sc, va, wi, ch, r1, r2, r3, rt, d1, d2, d3, d4, d5, d6, d7⟩ ⟨T, p, a0, t2, t3, scale, st, now, nt, scv, scn, vav, van, wio, chv, chn⟩ c rest f n tw ta at' q1 hOk hf hH  _ mean mg mb dp un gd cn cs a ccd cl outer A₀ base h₀ L m s Q E B F X N Tp hk hd hu hret
  obtain ⟨o1, o2, o3, o4, o5, o6, o7, lo, off⟩ := hOk
  obtain ⟨hsc, hno, hscs, hvs, hcs, kvs, hwd, hwf⟩ := hH
  dsimp only at o1 o2 o3 o4 o5 o6 o7 lo off hsc hno hscs hvs hcs hwd hwf hf
  replace hf := nl hf; replace o1 := nl o1; replace o2 := nl o2; replace o3 := nl o3; replace o4 := nl o4; replace o5 := nl o5; replace o6 := nl o6; replace o7 := nl o7

  unfold led rdDict at N
  simp only [List.cons_append, List.nil_append] at N
  refine wpAny_call ?_
  k_dflt ktr_enter
  k_steps
  all_goals exact hret _ _ _ _ (by assumption) (by assumption) (FErr.drop (by assumption) (by intro p hp; repeat (first | exact hp | refine List.Mem.tail _ ?_)))

theorem cb_up : ∀ (w : World) (A : RA) (S : RS) (c : Cont) (rest : List (Addr × Obj)) (f n : Nat) (tw ta : Tok) (at' : Int) ,
    A.Ok ((f, listOf [].toArray n) :: rest) → A.ch < f → RHolds w ((f, listOf [].toArray n) :: rest) S c → c.scopes = [] → (Mine.hd.heap_39 w.params = Mine.hd.heap_39 w.params) →
    Raises w 152 [.ref A.rd, .str (s_ "$upscope") tw, .int at' ta, .ref f] 12 150 (led w.params A S ++ ((f, listOf [].toArray n) :: rest)) rest (s_ "bad_scope") at' (s_ "") := by
  unfold Raises
  k_fill
  rintro w ⟨rd, drd, wr, dwr, sc, va, wi, ch, r1, r2, r3, rt, d1, d2, d3, d4, d5, d6, d7⟩ ⟨T, p, a0, t2, t3, scale, st, now, nt, scv, scn, vav, van, wio, chv, chn⟩ c rest f n tw ta at'  hOk hf hH e1 _ mean mg mb dp un gd cn cs a ccd cl outer A₀ base h₀ L m s Q E B F X N Tp hk hd hu hret
  obtain ⟨o1, o2, o3, o4, o5, o6, o7, lo, off⟩ := hOk
  obtain ⟨hsc, hno, hscs, hvs, hcs, kvs, hwd, hwf⟩ := hH
  dsimp only at o1 o2 o3 o4 o5 o6 o7 lo off hsc hno hscs hvs hcs hwd hwf hf
  replace hf := nl hf; replace o1 := nl o1; replace o2 := nl o2; replace o3 := nl o3; replace o4 := nl o4; replace o5 := nl o5; replace o6 := nl o6; replace o7 := nl o7
  rw [e1] at hscs
  obtain rfl := hscs.nil_inv

  unfold led rdDict at N
  simp only [List.cons_append, List.nil_append] at N
  refine wpAny_call ?_
  k_dflt ktr_enter
  k_steps
  all_goals exact hret _ _ _ _ (by assumption) (by assumption) (FErr.drop (by assumption) (by intro p hp; repeat (first | exact hp | refine List.Mem.tail _ ?_)))

theorem cb_short_v : ∀ (w : World) (A : RA) (S : RS) (c : Cont) (rest : List (Addr × Obj)) (f n : Nat) (tw ta : Tok) (at' : Int) (q1 q2 : Tok) ,
    A.Ok ((f, listOf [.str (s_ "wire") q1, .str (s_ "1") q2].toArray n) :: rest) → A.ch < f → RHolds w ((f, listOf [.str (s_ "wire") q1, .str (s_ "1") q2].toArray n) :: rest) S c → (Mine.hd.heap_39 w.params = Mine.hd.heap_39 w.params) →
    Raises w 159 [.ref A.rd, .int at' ta, .ref f] 10 120 (led w.params A S ++ ((f, listOf [.str (s_ "wire") q1, .str (s_ "1") q2].toArray n) :: rest)) rest (s_ "bad_variable") at' (s_ "") := by
  unfold Raises
  k_fill
  rintro w ⟨rd, drd, wr, dwr, sc, va, wi, ch, r1, r2, r3, rt, d1, d2, d3, d4, d5, d6, d7⟩ ⟨T, p, a0, t2, t3, scale, st, now, nt, scv, scn, vav, van, wio, chv, chn⟩ c rest f n tw ta at' q1 q2 hOk hf hH  _ mean mg mb dp un gd cn cs a ccd cl outer A₀ base h₀ L m s Q E B F X N Tp hk hd hu hret
  obtain ⟨o1, o2, o3, o4, o5, o6, o7, lo, off⟩ := hOk
  obtain ⟨hsc, hno, hscs, hvs, hcs, kvs, hwd, hwf⟩ := hH
  dsimp only at o1 o2 o3 o4 o5 o6 o7 lo off hsc hno hscs hvs hcs hwd hwf hf
  replace hf := nl hf; replace o1 := nl o1; replace o2 := nl o2; replace o3 := nl o3; replace o4 := nl o4; replace o5 := nl o5; replace o6 := nl o6; replace o7 := nl o7

  unfold led rdDict at N
  simp only [List.cons_append, List.nil_append] at N
  refine wpAny_call ?_
  k_dflt ktr_enter
  k_steps
  all_goals exact hret _ _ _ _ (by assumption) (by assumption) (FErr.drop (by assumption) (by intro p hp; repeat (first | exact hp | refine List.Mem.tail _ ?_)))
theorem cb_short : ∀ (w : World) (A : RA) (S : RS) (c : Cont) (rest : List (Addr × Obj)) (f n : Nat) (tw ta : Tok) (at' : Int) (q1 q2 : Tok) ,
    A.Ok ((f, listOf [.str (s_ "wire") q1, .str (s_ "1") q2].toArray n) :: rest) → A.ch < f → RHolds w ((f, listOf [.str (s_ "wire") q1, .str (s_ "1") q2].toArray n) :: rest) S c → (Mine.hd.heap_39 w.params = Mine.hd.heap_39 w.params) →
    Raises w 152 [.ref A.rd, .str (s_ "$var") tw, .int at' ta, .ref f] 12 150 (led w.params A S ++ ((f, listOf [.str (s_ "wire") q1, .str (s_ "1") q2].toArray n) :: rest)) rest (s_ "bad_variable") at' (s_ "") := by
  intros
  refine cmd_var_err _ _ _ _ _ _ _ _ _ _ _ _ ?_ rfl
  apply cb_short_v <;> assumption

theorem cb_num_v : ∀ (w : World) (A : RA) (S : RS) (c : Cont) (rest : List (Addr × Obj)) (f n : Nat) (tw ta : Tok) (at' : Int) (q1 q2 q3 q4 : Tok) ,
    A.Ok ((f, listOf [.str (s_ "wire") q1, .str (s_ "two") q2, .str (s_ "?") q3, .str (s_ "c") q4].toArray n) :: rest) → A.ch < f → RHolds w ((f, listOf [.str (s_ "wire") q1, .str (s_ "two") q2, .str (s_ "?") q3, .str (s_ "c") q4].toArray n) :: rest) S c → (Mine.hd.heap_39 w.params = Mine.hd.heap_39 w.params) →
    Raises w 159 [.ref A.rd, .int at' ta, .ref f] 10 120 (led w.params A S ++ ((f, listOf [.str (s_ "wire") q1, .str (s_ "two") q2, .str (s_ "?") q3, .str (s_ "c") q4].toArray n) :: rest)) rest (s_ "bad_number") at' (s_ "two") := by
  unfold Raises
  k_fill
  rintro w ⟨rd, drd, wr, dwr, sc, va, wi, ch, r1, r2, r3, rt, d1, d2, d3, d4, d5, d6, d7⟩ ⟨T, p, a0, t2, t3, scale, st, now, nt, scv, scn, vav, van, wio, chv, chn⟩ c rest f n tw ta at' q1 q2 q3 q4 hOk hf hH  _ mean mg mb dp un gd cn cs a ccd cl outer A₀ base h₀ L m s Q E B F X N Tp hk hd hu hret
  obtain ⟨o1, o2, o3, o4, o5, o6, o7, lo, off⟩ := hOk
  obtain ⟨hsc, hno, hscs, hvs, hcs, kvs, hwd, hwf⟩ := hH
  dsimp only at o1 o2 o3 o4 o5 o6 o7 lo off hsc hno hscs hvs hcs hwd hwf hf
  replace hf := nl hf; replace o1 := nl o1; replace o2 := nl o2; replace o3 := nl o3; replace o4 := nl o4; replace o5 := nl o5; replace o6 := nl o6; replace o7 := nl o7

  unfold led rdDict at N
  simp only [List.cons_append, List.nil_append] at N
  refine wpAny_call ?_
  k_dflt ktr_enter
  k_steps
  all_goals exact hret _ _ _ _ (by assumption) (by assumption) (FErr.drop (by assumption) (by intro p hp; repeat (first | exact hp | refine List.Mem.tail _ ?_)))
theorem cb_num : ∀ (w : World) (A : RA) (S : RS) (c : Cont) (rest : List (Addr × Obj)) (f n : Nat) (tw ta : Tok) (at' : Int) (q1 q2 q3 q4 : Tok) ,
    A.Ok ((f, listOf [.str (s_ "wire") q1, .str (s_ "two") q2, .str (s_ "?") q3, .str (s_ "c") q4].toArray n) :: rest) → A.ch < f → RHolds w ((f, listOf [.str (s_ "wire") q1, .str (s_ "two") q2, .str (s_ "?") q3, .str (s_ "c") q4].toArray n) :: rest) S c → (Mine.hd.heap_39 w.params = Mine.hd.heap_39 w.params) →
    Raises w 152 [.ref A.rd, .str (s_ "$var") tw, .int at' ta, .ref f] 12 150 (led w.params A S ++ ((f, listOf [.str (s_ "wire") q1, .str (s_ "two") q2, .str (s_ "?") q3, .str (s_ "c") q4].toArray n) :: rest)) rest (s_ "bad_number") at' (s_ "two") := by
  intros
  refine cmd_var_err _ _ _ _ _ _ _ _ _ _ _ _ ?_ rfl
  apply cb_num_v <;> assumption

theorem cb_zero_v : ∀ (w : World) (A : RA) (S : RS) (c : Cont) (rest : List (Addr × Obj)) (f n : Nat) (tw ta : Tok) (at' : Int) (q1 q2 q3 q4 : Tok) ,
    A.Ok ((f, listOf [.str (s_ "wire") q1, .str (s_ "0") q2, .str (s_ "?") q3, .str (s_ "c") q4].toArray n) :: rest) → A.ch < f → RHolds w ((f, listOf [.str (s_ "wire") q1, .str (s_ "0") q2, .str (s_ "?") q3, .str (s_ "c") q4].toArray n) :: rest) S c → (Mine.hd.heap_39 w.params = Mine.hd.heap_39 w.params) →
    Raises w 159 [.ref A.rd, .int at' ta, .ref f] 10 120 (led w.params A S ++ ((f, listOf [.str (s_ "wire") q1, .str (s_ "0") q2, .str (s_ "?") q3, .str (s_ "c") q4].toArray n) :: rest)) rest (s_ "wrong_width") at' (s_ "?") := by
  unfold Raises
  k_fill
  rintro w ⟨rd, drd, wr, dwr, sc, va, wi, ch, r1, r2, r3, rt, d1, d2, d3, d4, d5, d6, d7⟩ ⟨T, p, a0, t2, t3, scale, st, now, nt, scv, scn, vav, van, wio, chv, chn⟩ c rest f n tw ta at' q1 q2 q3 q4 hOk hf hH  _ mean mg mb dp un gd cn cs a ccd cl outer A₀ base h₀ L m s Q E B F X N Tp hk hd hu hret
  obtain ⟨o1, o2, o3, o4, o5, o6, o7, lo, off⟩ := hOk
  obtain ⟨hsc, hno, hscs, hvs, hcs, kvs, hwd, hwf⟩ := hH
  dsimp only at o1 o2 o3 o4 o5 o6 o7 lo off hsc hno hscs hvs hcs hwd hwf hf
  replace hf := nl hf; replace o1 := nl o1; replace o2 := nl o2; replace o3 := nl o3; replace o4 := nl o4; replace o5 := nl o5; replace o6 := nl o6; replace o7 := nl o7

  unfold led rdDict at N
  simp only [List.cons_append, List.nil_append] at N
  refine wpAny_call ?_
  k_dflt ktr_enter
  k_steps
  all_goals exact hret _ _ _ _ (by assumption) (by assumption) (FErr.drop (by assumption) (by intro p hp; repeat (first | exact hp | refine List.Mem.tail _ ?_)))
theorem cb_zero : ∀ (w : World) (A : RA) (S : RS) (c : Cont) (rest : List (Addr × Obj)) (f n : Nat) (tw ta : Tok) (at' : Int) (q1 q2 q3 q4 : Tok) ,
    A.Ok ((f, listOf [.str (s_ "wire") q1, .str (s_ "0") q2, .str (s_ "?") q3, .str (s_ "c") q4].toArray n) :: rest) → A.ch < f → RHolds w ((f, listOf [.str (s_ "wire") q1, .str (s_ "0") q2, .str (s_ "?") q3, .str (s_ "c") q4].toArray n) :: rest) S c → (Mine.hd.heap_39 w.params = Mine.hd.heap_39 w.params) →
    Raises w 152 [.ref A.rd, .str (s_ "$var") tw, .int at' ta, .ref f] 12 150 (led w.params A S ++ ((f, listOf [.str (s_ "wire") q1, .str (s_ "0") q2, .str (s_ "?") q3, .str (s_ "c") q4].toArray n) :: rest)) rest (s_ "wrong_width") at' (s_ "?") := by
  intros
  refine cmd_var_err _ _ _ _ _ _ _ _ _ _ _ _ ?_ rfl
  apply cb_zero_v <;> assumption

theorem cb_width1 : ∀ (w : World) (A : RA) (S : RS) (c : Cont) (rest : List (Addr × Obj)) (f n : Nat) (tw ta : Tok) (at' : Int) (q1 q2 q3 q4 : Tok) ,
    A.Ok ((f, listOf [.str (s_ "wire") q1, .str (s_ "2") q2, .str (s_ "!") q3, .str (s_ "c") q4].toArray n) :: rest) → A.ch < f → RHolds w ((f, listOf [.str (s_ "wire") q1, .str (s_ "2") q2, .str (s_ "!") q3, .str (s_ "c") q4].toArray n) :: rest) S c → c.D = [(s_ "!", 1)] → (Mine.hd.heap_39 w.params = Mine.hd.heap_39 w.params) →
    Raises w 152 [.ref A.rd, .str (s_ "$var") tw, .int at' ta, .ref f] 12 150 (led w.params A S ++ ((f, listOf [.str (s_ "wire") q1, .str (s_ "2") q2, .str (s_ "!") q3, .str (s_ "c") q4].toArray n) :: rest)) rest (s_ "wrong_width") at' (s_ "!") := by
  unfold Raises
  k_fill
  rintro w ⟨rd, drd, wr, dwr, sc, va, wi, ch, r1, r2, r3, rt, d1, d2, d3, d4, d5, d6, d7⟩ ⟨T, p, a0, t2, t3, scale, st, now, nt, scv, scn, vav, van, wio, chv, chn⟩ c rest f n tw ta at' q1 q2 q3 q4 hOk hf hH e1 _ mean mg mb dp un gd cn cs a ccd cl outer A₀ base h₀ L m s Q E B F X N Tp hk hd hu hret
  obtain ⟨o1, o2, o3, o4, o5, o6, o7, lo, off⟩ := hOk
  obtain ⟨hsc, hno, hscs, hvs, hcs, kvs, hwd, hwf⟩ := hH
  dsimp only at o1 o2 o3 o4 o5 o6 o7 lo off hsc hno hscs hvs hcs hwd hwf hf
  replace hf := nl hf; replace o1 := nl o1; replace o2 := nl o2; replace o3 := nl o3; replace o4 := nl o4; replace o5 := nl o5; replace o6 := nl o6; replace o7 := nl o7
  rw [e1] at hwf

  unfold led rdDict at N
  simp only [List.cons_append, List.nil_append] at N
  refine wpAny_call ?_
  k_dflt ktr_enter
  k_steps
  all_goals exact hret _ _ _ _ (by assumption) (by assumption) (FErr.drop (by assumption) (by intro p hp; repeat (first | exact hp | refine List.Mem.tail _ ?_)))

theorem cb_width2_v : ∀ (w : World) (A : RA) (S : RS) (c : Cont) (rest : List (Addr × Obj)) (f n : Nat) (tw ta : Tok) (at' : Int) (q1 q2 q3 q4 : Tok) ,
    A.Ok ((f, listOf [.str (s_ "wire") q1, .str (s_ "2") q2, .str (s_ "!") q3, .str (s_ "c") q4].toArray n) :: rest) → A.ch < f → RHolds w ((f, listOf [.str (s_ "wire") q1, .str (s_ "2") q2, .str (s_ "!") q3, .str (s_ "c") q4].toArray n) :: rest) S c → c.D = [(s_ "!", 1), (s_ "%", 3)] → (Mine.hd.heap_39 w.params = Mine.hd.heap_39 w.params) →
    Raises w 159 [.ref A.rd, .int at' ta, .ref f] 10 120 (led w.params A S ++ ((f, listOf [.str (s_ "wire") q1, .str (s_ "2") q2, .str (s_ "!") q3, .str (s_ "c") q4].toArray n) :: rest)) rest (s_ "wrong_width") at' (s_ "!") := by
  unfold Raises
  k_fill
  rintro w ⟨rd, drd, wr, dwr, sc, va, wi, ch, r1, r2, r3, rt, d1, d2, d3, d4, d5, d6, d7⟩ ⟨T, p, a0, t2, t3, scale, st, now, nt, scv, scn, vav, van, wio, chv, chn⟩ c rest f n tw ta at' q1 q2 q3 q4 hOk hf hH e1 _ mean mg mb dp un gd cn cs a ccd cl outer A₀ base h₀ L m s Q E B F X N Tp hk hd hu hret
  obtain ⟨o1, o2, o3, o4, o5, o6, o7, lo, off⟩ := hOk
  obtain ⟨hsc, hno, hscs, hvs, hcs, kvs, hwd, hwf⟩ := hH
  dsimp only at o1 o2 o3 o4 o5 o6 o7 lo off hsc hno hscs hvs hcs hwd hwf hf
  replace hf := nl hf; replace o1 := nl o1; replace o2 := nl o2; replace o3 := nl o3; replace o4 := nl o4; replace o5 := nl o5; replace o6 := nl o6; replace o7 := nl o7
  rw [e1] at hwf

  unfold led rdDict at N
  simp only [List.cons_append, List.nil_append] at N
  refine wpAny_call ?_
  k_dflt ktr_enter
  k_steps
  all_goals exact hret _ _ _ _ (by assumption) (by assumption) (FErr.drop (by assumption) (by intro p hp; repeat (first | exact hp | refine List.Mem.tail _ ?_)))
theorem cb_width2 : ∀ (w : World) (A : RA) (S : RS) (c : Cont) (rest : List (Addr × Obj)) (f n : Nat) (tw ta : Tok) (at' : Int) (q1 q2 q3 q4 : Tok) ,
    A.Ok ((f, listOf [.str (s_ "wire") q1, .str (s_ "2") q2, .str (s_ "!") q3, .str (s_ "c") q4].toArray n) :: rest) → A.ch < f → RHolds w ((f, listOf [.str (s_ "wire") q1, .str (s_ "2") q2, .str (s_ "!") q3, .str (s_ "c") q4].toArray n) :: rest) S c → c.D = [(s_ "!", 1), (s_ "%", 3)] → (Mine.hd.heap_39 w.params = Mine.hd.heap_39 w.params) →
    Raises w 152 [.ref A.rd, .str (s_ "$var") tw, .int at' ta, .ref f] 12 150 (led w.params A S ++ ((f, listOf [.str (s_ "wire") q1, .str (s_ "2") q2, .str (s_ "!") q3, .str (s_ "c") q4].toArray n) :: rest)) rest (s_ "wrong_width") at' (s_ "!") := by
  intros
  refine cmd_var_err _ _ _ _ _ _ _ _ _ _ _ _ ?_ rfl
  apply cb_width2_v <;> assumption


end Mine
end
section
open PySem PySem.W PySem.Calls PyProof.Rows PyProof.V PySem.Spec
set_option maxHeartbeats 20000000
namespace Mine
theorem led_lines0 : True := by
  k_with_none
  (k_with "k_room" => ktr_room)
  (k_with "k_all" => assumption)
  (k_with "ktr_rel" => first | assumption | rfl | ((refine (if_neg (by decide)).trans ?_); ktr_rel))
  (k_with "eval Name" => (k_here; k_dflt (refine' ld ?q9k1 ?q9k2 ?_; (case q9k1 => k_asm); (case q9k2 => first | assumption | rfl | ((refine (if_neg (by decide)).trans ?_); first | assumption | ktr_rel)); k_whole)))
  (k_with "exec Raise some none" => (k_here; with_reducible refine fe_raise rfl ?_))
  (k_with "call ref" => (k_here; (with_reducible show wpAny _ _ (call (Value.ref 45) _) _ _ _); k_dflt (first
  | (refine' rets_use2 (fe_make _ _ _ _ _ _ _ _ rfl) ?q9k1 ?q9k2 ?q9k3 ?q9k4 ?q9k5 ?q9k6 ?q9k7 ?q9k8 ?_; (case q9k1 => k_asm); (case q9k2 => k_asm); (case q9k3 => k_asm); (case q9k4 => k_asm); (case q9k5 => k_asm); (case q9k6 => first | exact rfl | assumption); (case q9k7 => ktr_room); (case q9k8 => ktr_units))
  | (refine' rets_use2 (fe_make2 _ _ _ _ _ _ rfl) ?q9k1 ?q9k2 ?q9k3 ?q9k4 ?q9k5 ?q9k6 ?q9k7 ?q9k8 ?_; (case q9k1 => k_asm); (case q9k2 => k_asm); (case q9k3 => k_asm); (case q9k4 => k_asm); (case q9k5 => k_asm); (case q9k6 => first | exact rfl | assumption); (case q9k7 => ktr_room); (case q9k8 => ktr_units))); intro GG9 HH9; refine FeMade.out ?_; intro h9 tk9 e9 d9 p9 _ _ _ _ _ _ l9 m9; refine HH9 _ _ _ _ ?_; clear HH9 GG9; intro F9 N9; (try dsimp only)))
  (k_with "Exists" => (k_here; refine ⟨_, _, _, rfl, by k_in, News.get (by k_asm) (List.Mem.tail _ (List.Mem.head _)), ?_⟩; (try dsimp only)))
  (k_with "leaving ref" => (k_here; first
  | (refine' fe_leave_first ?q9k1 ?q9k2 ?q9k3 ?q9k4 ?q9k5 ?_; (case q9k1 => assumption); (case q9k2 => k_asm); (case q9k3 => k_asm); (case q9k4 => (intro p hp; exact Nat.ne_of_lt (by (first | exact l9 p hp | (rename ∀ p ∈ _, @LT.lt Nat _ _ _ => l9; exact l9 p hp))))); (case q9k5 => exact Nat.ne_of_gt (by assumption)); intro h' R' U'; (try dsimp only at R' U' ⊢))
  | (refine' fe_leave_on ?q9k1 ?q9k2 ?q9k3 ?q9k4 ?_; (case q9k3 => assumption); (case q9k1 => assumption); (case q9k4 => assumption); (case q9k2 => assumption); intro h' R' U'; (try dsimp only at R' U' ⊢))))
  (k_with "subscriptTail" => (k_here; (with_reducible show wpAny _ _ (subscriptTail _ _ (Value.str _ _) (Value.int _ _)) _ _ _); (refine item_str (fitsSsize_of (N := 9223372036854775808) (by omega) (by omega) (Int.le_refl _)) (by omega) (by omega) ?_); intro hlen9))
  (k_with "ktr_unf" => repeat' ((fail_if_success (with_reducible show wpAny _ _ (exec (Stmt.While _ _ _ _) _) _ _ _)); first | (k_unfold; (try dsimp only)) | (k_end; wrow_close) | walk1 | (dsimp only; walk1) | (leave1; walk_say "STEP leave1"; try dsimp only) | fail "no step"))
  (k_with "subscriptTail" => (k_here; (with_reducible show wpAny _ _ (subscriptTail _ (Expr.Slice (some _) (some _) none _) (Value.str _ _) (Value.ref _)) _ _ _); (with_reducible rename Fr _ _ _ _ => F'); (with_reducible rename News _ _ _ _ => N'); (refine slice_strN_ss (hsz := ?q9hsz) (s := ⟨_, _, _, _, _⟩) F' N' ?_); (case q9hsz => (rw [sizeLine_eq]; omega)); intro _ _ _ _ _))
  (k_with "k_updF" => first | (refine' UpdF.head ?q9a; (case q9a => k_all)) | (refine' UpdF.tail ?q9a ?q9b; (case q9a => k_ne); (case q9b => k_updF)))
  (k_with "kwd_rel" => first | exact List.forall_mem_nil _ | ((refine' List.forall_mem_cons.mpr ⟨?q9aa, ?q9bb⟩); (case q9aa => k_mem); (case q9bb => kwd_rel)) | (intro p hp; repeat (first | exact hp | refine List.Mem.tail _ ?_)))
  trivial

/-- S2 is S but for the row's place and tokens -/
def Row (S S2 : RS) : Prop := ∃ (p a : Int) (t2 t3 : Tok), S2 = { S with p := p, at' := a, t2 := t2, t3 := t3 }
theorem Row.T {S S2 : RS} (h : Row S S2) : S2.T = S.T := by obtain ⟨_, _, _, _, rfl⟩ := h; rfl
theorem RHolds.row {w : World} {rest : List (Addr × Obj)} {S S2 : RS} {c : Cont} (h : RHolds w rest S c) (r : Row S S2) : RHolds w rest S2 c := by obtain ⟨_, _, _, _, rfl⟩ := r; exact ⟨h.1, h.2, h.3, h.4, h.5, h.6⟩
theorem RHolds.mono {w : World} {rest rest' : List (Addr × Obj)} {S : RS} {c : Cont} (h : RHolds w rest S c) (k : ∀ p ∈ rest, p ∈ rest') : RHolds w rest' S c := ⟨h.1, h.2, h.3, h.4.mono k, h.5.mono k, h.6⟩
theorem RHolds.cons {w : World} {rest : List (Addr × Obj)} {S : RS} {c : Cont} (x : Addr × Obj) (h : RHolds w rest S c) : RHolds w (x :: rest) S c := h.mono fun _ k => .tail _ k
theorem RAt.of {S S' : RS} {ws : List (Str × Int)} (h : RAt S ws) (hT : S'.T = S.T) (hp : S'.p = S.p) : RAt S' ws := ⟨by rw [hp]; exact h.1, by rw [hT, hp]; exact h.2, by rw [hT]; exact h.3⟩

/-- what a take leaves of the reader's ledger -/
inductive TakeLed (w : World) (A : RA) (S : RS) (rest : List (Addr × Obj)) (ws : List (Str × Int)) : Value → List (Addr × Obj) → Prop
  | mk (S2 : RS) (t : Tok) : Row S S2 → RAt S2 ws.tail → S2.at' = hdA S.T ws → TakeLed w A S rest ws (.str (hdW ws) t) (led w.params A S2 ++ rest)
theorem TakeLed.out {w : World} {A : RA} {S : RS} {rest : List (Addr × Obj)} {ws : List (Str × Int)} {G : Value → List (Addr × Obj) → Heap → Nat → Prop} (k : ∀ h' tk' (S2 : RS) (t : Tok), Row S S2 → RAt S2 ws.tail → S2.at' = hdA S.T ws → G (.str (hdW ws) t) (led w.params A S2 ++ rest) h' tk') : ∀ r n h' tk', TakeLed w A S rest ws r n → G r n h' tk' := by
  intro r n h' tk' h
  cases h
  exact k _ _ _ _ (by assumption) (by assumption) (by assumption)
/-- what an until_end leaves -/
inductive UntLed (w : World) (A : RA) (S : RS) (rest : List (Addr × Obj)) (ws : List (Str × Int)) : Value → List (Addr × Obj) → Prop
  | mk (f : Nat) (items : List Value) (n : Nat) (S2 : RS) : (∀ fnd ws', cutEnd ws = some (fnd, ws') → StrsAre items fnd ∧ RAt S2 ws') → cutEnd ws ≠ none → Row S S2 → A.Ok ((f, listOf items.toArray n) :: rest) → A.ch < f →
    UntLed w A S rest ws (.ref f) (led w.params A S2 ++ ((f, listOf items.toArray n) :: rest))
theorem UntLed.out {w : World} {A : RA} {S : RS} {rest : List (Addr × Obj)} {ws : List (Str × Int)} {G : Value → List (Addr × Obj) → Heap → Nat → Prop} (k : ∀ h' tk' (f : Nat) (items : List Value) (n : Nat) (S2 : RS), (∀ fnd ws', cutEnd ws = some (fnd, ws') → StrsAre items fnd ∧ RAt S2 ws') → cutEnd ws ≠ none → Row S S2 → A.Ok ((f, listOf items.toArray n) :: rest) → A.ch < f → G (.ref f) (led w.params A S2 ++ ((f, listOf items.toArray n) :: rest)) h' tk') : ∀ r n h' tk', UntLed w A S rest ws r n → G r n h' tk' := by
  intro r n h' tk' h
  cases h
  exact k _ _ _ _ _ _ (by assumption) (by assumption) (by assumption) (by assumption) (by assumption)

theorem take_led : ∀ (w : World) (A : RA) (S : RS) (rest : List (Addr × Obj)) (ws : List (Str × Int)), A.Ok rest → RAt S ws →
    Rets w 103 [.ref A.wr] 3 30 (led w.params A S ++ rest) (TakeLed w A S rest ws) := by
  intro w A S rest ws hOk hAt
  intro mean mg mb dp un gd cn cs a ccd cl outer A₀ base h₀ L m s Q E B F X N Tp hk hd hu hret
  have O := offs hOk
  obtain ⟨f1, f2, f3, f4, f5, f6⟩ := O
  obtain ⟨o1, o2, o3, o4, o5, o6, o7, lo, off⟩ := hOk
  have U : UpdF A.dwr (rowDict w.params A.r1 A.r2 A.r3 A.rt S.t2 S.t3 S.T S.p S.at') (led w.params A S ++ rest)
      (fun o => (A.ch, listOf S.chv.toArray S.chn) :: (A.wi, S.wio) :: (A.va, listOf S.vav.toArray S.van) :: (A.sc, listOf S.scv.toArray S.scn) :: (A.wr, instObj 113 A.dwr) :: (A.dwr, o) :: (A.rd, instObj 176 A.drd) :: (A.drd, rdDict w.params A.d1 A.d2 A.d3 A.d4 A.d5 A.d6 A.d7 A.wr A.sc A.va A.wi A.ch S.scale S.st S.now S.nt) :: rest) := by
    refine .tail (by k_ne) (.tail (by k_ne) (.tail (by k_ne) (.tail (by k_ne) (.tail (by k_ne) (.head ?_)))))
    intro x hx
    rcases List.mem_cons.mp hx with rfl | hx
    · k_ne
    rcases List.mem_cons.mp hx with rfl | hx
    · k_ne
    · exact f2 x hx
  refine rets_use (take_strm w _ _ A.wr A.dwr A.r1 A.r2 A.r3 A.rt S.t2 S.t3 S.T S.p S.at' ws U (by unfold led; exact .tail _ (.tail _ (.tail _ (.tail _ (.head _))))) (by omega) hAt.lo hAt.st hAt.big) B F X N Tp hk hd hu ?_
  rintro r news' h' tk' F' N' ⟨q, t, t2, t3, hq, hs, rfl, rfl⟩
  exact hret _ _ _ _ F' N' ⟨{ S with p := q, at' := hdA S.T ws, t2 := t2, t3 := t3 }, t, ⟨_, _, _, _, rfl⟩, ⟨hq, hs, hAt.big⟩, rfl⟩

theorem no_cut {x : List Str × List (Str × Int)} {ws : List (Str × Int)} (h : cutEnd ws = some x) (h2 : cutEnd ws = none) : False := by rw [h] at h2; exact nomatch h2

theorem until_led : ∀ (w : World) (A : RA) (S : RS) (rest : List (Addr × Obj)) (ws : List (Str × Int)), A.Ok rest → RAt S ws → ws.length ≤ 1000 →
    Both w 110 [.ref A.wr] 9 90 (led w.params A S ++ rest) rest
      (UntLed w A S rest ws)
      (fun kind a detail => cutEnd ws = none ∧ kind = Str.ofString "end_missing" ∧ a = S.at' ∧ detail = eS) := by
  intro w A S rest ws hOk hAt hlen
  have hOk0 := hOk
  intro mean mg mb dp un gd cn cs a ccd cl outer A₀ base h₀ L m s Q E B F X N Tp hk hd hu hret herr
  have O := offs hOk
  obtain ⟨f1, f2, f3, f4, f5, f6⟩ := O
  obtain ⟨o1, o2, o3, o4, o5, o6, o7, lo, off⟩ := hOk
  have N1 : News h₀ L s.heap ((A.wr, instObj 113 A.dwr) :: (A.dwr, rowDict w.params A.r1 A.r2 A.r3 A.rt S.t2 S.t3 S.T S.p S.at') ::
      ((A.ch, listOf S.chv.toArray S.chn) :: (A.wi, S.wio) :: (A.va, listOf S.vav.toArray S.van) :: (A.sc, listOf S.scv.toArray S.scn) :: (A.rd, instObj 176 A.drd) :: (A.drd, rdDict w.params A.d1 A.d2 A.d3 A.d4 A.d5 A.d6 A.d7 A.wr A.sc A.va A.wi A.ch S.scale S.st S.now S.nt) :: rest)) :=
    cb_drop N (by unfold led; simp only [List.cons_append, List.nil_append]; kwd_rel)
  have hoff : ∀ q ∈ ((A.ch, listOf S.chv.toArray S.chn) :: (A.wi, S.wio) :: (A.va, listOf S.vav.toArray S.van) :: (A.sc, listOf S.scv.toArray S.scn) :: (A.rd, instObj 176 A.drd) :: (A.drd, rdDict w.params A.d1 A.d2 A.d3 A.d4 A.d5 A.d6 A.d7 A.wr A.sc A.va A.wi A.ch S.scale S.st S.now S.nt) :: rest), q.1 ≠ A.dwr := by
    refine List.forall_mem_cons.mpr ⟨by k_ne, List.forall_mem_cons.mpr ⟨by k_ne, List.forall_mem_cons.mpr ⟨by k_ne, List.forall_mem_cons.mpr ⟨by k_ne, List.forall_mem_cons.mpr ⟨by k_ne, List.forall_mem_cons.mpr ⟨by k_ne, f2⟩⟩⟩⟩⟩⟩
  refine both_use (until_core w _ A.wr A.dwr A.r1 A.r2 A.r3 A.rt S.t2 S.t3 S.T S.p S.at' ws hoff (by omega) hAt.lo hAt.st hAt.big hlen rfl) B F X N1 Tp hk hd hu ?_ ?_
  · rintro r news' h' tk' F' N' ⟨f, ⟨items⟩, n, q, t2, t3, a', fnd, ws', hc, hi, hq, hs, hf, rfl, rfl⟩
    have hcf : @LT.lt Nat _ A.ch f := hf (A.ch, _) (.tail _ (.tail _ (.head _)))
    refine hret _ _ _ _ F' (cb_drop N' ?_) ⟨f, items, n, { S with p := q, at' := a', t2 := t2, t3 := t3 }, fun fnd2 ws2 h2 => ?_, by simp [hc], ⟨_, _, _, _, rfl⟩, ok_more (tl := [_]) hOk0 (fun x hx => ?_), hcf⟩
    · unfold led; simp only [List.cons_append, List.nil_append]; kwd_rel
    · rw [hc] at h2
      obtain ⟨rfl, rfl⟩ := Prod.mk.inj (Option.some.inj h2)
      exact ⟨hi, ⟨hq, hs, hAt.big⟩⟩
    · rw [List.mem_singleton.mp hx]; exact hcf
  · intro kind a1 detail hz e g h' tk' F' U' R'
    exact herr kind a1 detail hz e g h' tk' F' U' (R'.drop fun p hp => by repeat (first | exact hp | refine List.Mem.tail _ ?_))


end Mine
end
section
open PySem PySem.W PySem.Calls PyProof.Rows PyProof.V PySem.Spec
set_option maxHeartbeats 20000000
namespace Mine
theorem gb_lines0 : True := by
  k_with_none
  (k_with "k_room" => ktr_room)
  (k_with "k_all" => assumption)
  (k_with "ktr_rel" => first | assumption | rfl | ((refine (if_neg (by decide)).trans ?_); ktr_rel))
  (k_with "eval Name" => (k_here; k_dflt (refine' ld ?q9k1 ?q9k2 ?_; (case q9k1 => k_asm); (case q9k2 => first | assumption | rfl | ((refine (if_neg (by decide)).trans ?_); first | assumption | ktr_rel)); k_whole)))
  (k_with "exec Raise some none" => (k_here; with_reducible refine fe_raise rfl ?_))
  (k_with "call ref" => (k_here; (with_reducible show wpAny _ _ (call (Value.ref 45) _) _ _ _); k_dflt (first
  | (refine' rets_use2 (fe_make _ _ _ _ _ _ _ _ rfl) ?q9k1 ?q9k2 ?q9k3 ?q9k4 ?q9k5 ?q9k6 ?q9k7 ?q9k8 ?_; (case q9k1 => k_asm); (case q9k2 => k_asm); (case q9k3 => k_asm); (case q9k4 => k_asm); (case q9k5 => k_asm); (case q9k6 => first | exact rfl | assumption); (case q9k7 => ktr_room); (case q9k8 => ktr_units))
  | (refine' rets_use2 (fe_make2 _ _ _ _ _ _ rfl) ?q9k1 ?q9k2 ?q9k3 ?q9k4 ?q9k5 ?q9k6 ?q9k7 ?q9k8 ?_; (case q9k1 => k_asm); (case q9k2 => k_asm); (case q9k3 => k_asm); (case q9k4 => k_asm); (case q9k5 => k_asm); (case q9k6 => first | exact rfl | assumption); (case q9k7 => ktr_room); (case q9k8 => ktr_units))); intro GG9 HH9; refine FeMade.out ?_; intro h9 tk9 e9 d9 p9 _ _ _ _ _ _ l9 m9; refine HH9 _ _ _ _ ?_; clear HH9 GG9; intro F9 N9; (try dsimp only)))
  (k_with "Exists" => (k_here; refine ⟨_, _, _, rfl, by k_in, News.get (by k_asm) (List.Mem.tail _ (List.Mem.head _)), ?_⟩; (try dsimp only)))
  (k_with "leaving ref" => (k_here; first
  | (refine' fe_leave_first ?q9k1 ?q9k2 ?q9k3 ?q9k4 ?q9k5 ?_; (case q9k1 => assumption); (case q9k2 => k_asm); (case q9k3 => k_asm); (case q9k4 => (intro p hp; exact Nat.ne_of_lt (by (first | exact l9 p hp | (rename ∀ p ∈ _, @LT.lt Nat _ _ _ => l9; exact l9 p hp))))); (case q9k5 => exact Nat.ne_of_gt (by assumption)); intro h' R' U'; (try dsimp only at R' U' ⊢))
  | (refine' fe_leave_on ?q9k1 ?q9k2 ?q9k3 ?q9k4 ?_; (case q9k3 => assumption); (case q9k1 => assumption); (case q9k4 => assumption); (case q9k2 => assumption); intro h' R' U'; (try dsimp only at R' U' ⊢))))
  (k_with "subscriptTail" => (k_here; (with_reducible show wpAny _ _ (subscriptTail _ _ (Value.str _ _) (Value.int _ _)) _ _ _); (refine item_str (fitsSsize_of (N := 9223372036854775808) (by omega) (by omega) (Int.le_refl _)) (by omega) (by omega) ?_); intro hlen9))
  (k_with "ktr_unf" => repeat' ((fail_if_success (with_reducible show wpAny _ _ (exec (Stmt.While _ _ _ _) _) _ _ _)); first | (k_unfold; (try dsimp only)) | (k_end; wrow_close) | walk1 | (dsimp only; walk1) | (leave1; walk_say "STEP leave1"; try dsimp only) | fail "no step"))
  (k_with "subscriptTail" => (k_here; (with_reducible show wpAny _ _ (subscriptTail _ (Expr.Slice (some _) (some _) none _) (Value.str _ _) (Value.ref _)) _ _ _); (with_reducible rename Fr _ _ _ _ => F'); (with_reducible rename News _ _ _ _ => N'); (refine slice_strN_ss (hsz := ?q9hsz) (s := ⟨_, _, _, _, _⟩) F' N' ?_); (case q9hsz => (rw [sizeLine_eq]; omega)); intro _ _ _ _ _))
  (k_with "k_updF" => first | (refine' UpdF.head ?q9a; (case q9a => k_all)) | (refine' UpdF.tail ?q9a ?q9b; (case q9a => k_ne); (case q9b => k_updF)))
  (k_with "kwd_rel" => first | exact List.forall_mem_nil _ | ((refine' List.forall_mem_cons.mpr ⟨?q9aa, ?q9bb⟩); (case q9aa => k_mem); (case q9bb => kwd_rel)) | (intro p hp; repeat (first | exact hp | refine List.Mem.tail _ ?_)))
  trivial

/-- the commands of a sound dump -/
inductive Good (c : Cont) : Str → List Str → Cont → Prop
  | scale : Good c (s_ "$timescale") [s_ "1", s_ "ns"] { c with scale := s_ "1 ns" }
  | scope : c.scopes = [] → Good c (s_ "$scope") [s_ "module", s_ "top"] { c with scopes := [s_ "top"] }
  | up : c.scopes = [s_ "top"] → Good c (s_ "$upscope") [] { c with scopes := [] }
  | var1 : c.scopes = [s_ "top"] → c.vars = [] → c.D = [] → Good c (s_ "$var") [s_ "wire", s_ "1", s_ "!", s_ "a"] { c with vars := [varA], D := [(s_ "!", 1)] }
  | var2 : c.scopes = [s_ "top"] → c.vars = [varA] → c.D = [(s_ "!", 1)] → Good c (s_ "$var") [s_ "reg", s_ "3", s_ "%", s_ "b", s_ "[2:0]"] { c with vars := [varA, varB], D := [(s_ "!", 1), (s_ "%", 3)] }
/-- the wrong commands -/
inductive Bad (c : Cont) : Str → List Str → Str → Str → Prop
  | foo : Bad c (s_ "$foo") [s_ "x"] (s_ "unexpected_word") (s_ "$foo")
  | scope : Bad c (s_ "$scope") [s_ "module"] (s_ "bad_scope") (s_ "")
  | up : c.scopes = [] → Bad c (s_ "$upscope") [] (s_ "bad_scope") (s_ "")
  | short : Bad c (s_ "$var") [s_ "wire", s_ "1"] (s_ "bad_variable") (s_ "")
  | num : Bad c (s_ "$var") [s_ "wire", s_ "two", s_ "?", s_ "c"] (s_ "bad_number") (s_ "two")
  | zero : Bad c (s_ "$var") [s_ "wire", s_ "0", s_ "?", s_ "c"] (s_ "wrong_width") (s_ "?")
  | width1 : c.D = [(s_ "!", 1)] → Bad c (s_ "$var") [s_ "wire", s_ "2", s_ "!", s_ "c"] (s_ "wrong_width") (s_ "!")
  | width2 : c.D = [(s_ "!", 1), (s_ "%", 3)] → Bad c (s_ "$var") [s_ "wire", s_ "2", s_ "!", s_ "c"] (s_ "wrong_width") (s_ "!")

theorem cmd_good (w : World) (A : RA) (S : RS) (c c' : Cont) (rest : List (Addr × Obj)) (f n : Nat) (items : List Value) (cmd : Str) (parts : List Str) (tw ta : Tok) (at' : Int)
    (hG : Good c cmd parts c') (hi : StrsAre items parts) (hOk : A.Ok ((f, listOf items.toArray n) :: rest)) (hf : A.ch < f) (hH : RHolds w ((f, listOf items.toArray n) :: rest) S c) :
    Rets w 152 [.ref A.rd, .str cmd tw, .int at' ta, .ref f] 12 150 (led w.params A S ++ ((f, listOf items.toArray n) :: rest)) (CmdR w A S ((f, listOf items.toArray n) :: rest) c') := by
  cases hG
  case scale  =>
    obtain ⟨q1, it1, rfl, hi1⟩ := hi.cons_inv
    obtain ⟨q2, it2, rfl, hi2⟩ := hi1.cons_inv
    obtain rfl := hi2.nil_inv
    exact cg_scale w A S c rest f n tw ta at' q1 q2 hOk hf hH  rfl
  case scope e1 =>
    obtain ⟨q1, it1, rfl, hi1⟩ := hi.cons_inv
    obtain ⟨q2, it2, rfl, hi2⟩ := hi1.cons_inv
    obtain rfl := hi2.nil_inv
    exact cg_scope w A S c rest f n tw ta at' q1 q2 hOk hf hH e1 rfl
  case up e1 =>
    obtain rfl := hi.nil_inv
    exact cg_up w A S c rest f n tw ta at'  hOk hf hH e1 rfl
  case var1 e1 e2 e3 =>
    obtain ⟨q1, it1, rfl, hi1⟩ := hi.cons_inv
    obtain ⟨q2, it2, rfl, hi2⟩ := hi1.cons_inv
    obtain ⟨q3, it3, rfl, hi3⟩ := hi2.cons_inv
    obtain ⟨q4, it4, rfl, hi4⟩ := hi3.cons_inv
    obtain rfl := hi4.nil_inv
    exact cg_var1 w A S c rest f n tw ta at' q1 q2 q3 q4 hOk hf hH e1 e2 e3 rfl
  case var2 e1 e2 e3 =>
    obtain ⟨q1, it1, rfl, hi1⟩ := hi.cons_inv
    obtain ⟨q2, it2, rfl, hi2⟩ := hi1.cons_inv
    obtain ⟨q3, it3, rfl, hi3⟩ := hi2.cons_inv
    obtain ⟨q4, it4, rfl, hi4⟩ := hi3.cons_inv
    obtain ⟨q5, it5, rfl, hi5⟩ := hi4.cons_inv
    obtain rfl := hi5.nil_inv
    exact cg_var2 w A S c rest f n tw ta at' q1 q2 q3 q4 q5 hOk hf hH e1 e2 e3 rfl

theorem cmd_bad (w : World) (A : RA) (S : RS) (c : Cont) (rest : List (Addr × Obj)) (f n : Nat) (items : List Value) (cmd : Str) (parts : List Str) (kind detail : Str) (tw ta : Tok) (at' : Int)
    (hB : Bad c cmd parts kind detail) (hi : StrsAre items parts) (hOk : A.Ok ((f, listOf items.toArray n) :: rest)) (hf : A.ch < f) (hH : RHolds w ((f, listOf items.toArray n) :: rest) S c) :
    Raises w 152 [.ref A.rd, .str cmd tw, .int at' ta, .ref f] 12 150 (led w.params A S ++ ((f, listOf items.toArray n) :: rest)) rest kind at' detail := by
  cases hB
  case foo  =>
    obtain ⟨q1, it1, rfl, hi1⟩ := hi.cons_inv
    obtain rfl := hi1.nil_inv
    exact cb_foo w A S c rest f n tw ta at' q1 hOk hf hH  rfl
  case scope  =>
    obtain ⟨q1, it1, rfl, hi1⟩ := hi.cons_inv
    obtain rfl := hi1.nil_inv
    exact cb_scope w A S c rest f n tw ta at' q1 hOk hf hH  rfl
  case up e1 =>
    obtain rfl := hi.nil_inv
    exact cb_up w A S c rest f n tw ta at'  hOk hf hH e1 rfl
  case short  =>
    obtain ⟨q1, it1, rfl, hi1⟩ := hi.cons_inv
    obtain ⟨q2, it2, rfl, hi2⟩ := hi1.cons_inv
    obtain rfl := hi2.nil_inv
    exact cb_short w A S c rest f n tw ta at' q1 q2 hOk hf hH  rfl
  case num  =>
    obtain ⟨q1, it1, rfl, hi1⟩ := hi.cons_inv
    obtain ⟨q2, it2, rfl, hi2⟩ := hi1.cons_inv
    obtain ⟨q3, it3, rfl, hi3⟩ := hi2.cons_inv
    obtain ⟨q4, it4, rfl, hi4⟩ := hi3.cons_inv
    obtain rfl := hi4.nil_inv
    exact cb_num w A S c rest f n tw ta at' q1 q2 q3 q4 hOk hf hH  rfl
  case zero  =>
    obtain ⟨q1, it1, rfl, hi1⟩ := hi.cons_inv
    obtain ⟨q2, it2, rfl, hi2⟩ := hi1.cons_inv
    obtain ⟨q3, it3, rfl, hi3⟩ := hi2.cons_inv
    obtain ⟨q4, it4, rfl, hi4⟩ := hi3.cons_inv
    obtain rfl := hi4.nil_inv
    exact cb_zero w A S c rest f n tw ta at' q1 q2 q3 q4 hOk hf hH  rfl
  case width1 e1 =>
    obtain ⟨q1, it1, rfl, hi1⟩ := hi.cons_inv
    obtain ⟨q2, it2, rfl, hi2⟩ := hi1.cons_inv
    obtain ⟨q3, it3, rfl, hi3⟩ := hi2.cons_inv
    obtain ⟨q4, it4, rfl, hi4⟩ := hi3.cons_inv
    obtain rfl := hi4.nil_inv
    exact cb_width1 w A S c rest f n tw ta at' q1 q2 q3 q4 hOk hf hH e1 rfl
  case width2 e1 =>
    obtain ⟨q1, it1, rfl, hi1⟩ := hi.cons_inv
    obtain ⟨q2, it2, rfl, hi2⟩ := hi1.cons_inv
    obtain ⟨q3, it3, rfl, hi3⟩ := hi2.cons_inv
    obtain ⟨q4, it4, rfl, hi4⟩ := hi3.cons_inv
    obtain rfl := hi4.nil_inv
    exact cb_width2 w A S c rest f n tw ta at' q1 q2 q3 q4 hOk hf hH e1 rfl

/-- what the loop asks of a command's own word -/
structure CmdWord (cmd : Str) : Prop where
  notDefs : cmd ≠ s_ "$enddefinitions"
  notNil : cmd ≠ s_ ""
  notEnd : cmd ≠ s_ "$end"
  head : Txt.item cmd 0 = s_ "$"
  len : 1 ≤ cmd.length
theorem Good.word {c c' : Cont} {cmd : Str} {parts : List Str} (h : Good c cmd parts c') : CmdWord cmd := by cases h <;> exact ⟨by decide +kernel, by decide +kernel, by decide +kernel, by decide +kernel, by decide +kernel⟩
theorem Bad.word {c : Cont} {cmd : Str} {parts : List Str} {k d : Str} (h : Bad c cmd parts k d) : CmdWord cmd := by cases h <;> exact ⟨by decide +kernel, by decide +kernel, by decide +kernel, by decide +kernel, by decide +kernel⟩

inductive Out where
  | ok (c : Cont) (ws : List (Str × Int))
  | err (kind : Str) (at' : Int) (detail : Str)
/-- how the declarations go on over these words -/
inductive DPlan (T : Str) : Cont → List (Str × Int) → Out → Prop
  | done {c : Cont} {a : Int} {ws ws' : List (Str × Int)} {fnd : List Str} : cutEnd ws = some (fnd, ws') → DPlan T c ((s_ "$enddefinitions", a) :: ws) (.ok c ws')
  | good {c c' : Cont} {cmd : Str} {parts : List Str} {a : Int} {ws ws' : List (Str × Int)} {out : Out} : Good c cmd parts c' → cutEnd ws = some (parts, ws') → DPlan T c' ws' out → DPlan T c ((cmd, a) :: ws) out
  | bad {c : Cont} {cmd : Str} {parts : List Str} {kind detail : Str} {a : Int} {ws ws' : List (Str × Int)} : Bad c cmd parts kind detail → cutEnd ws = some (parts, ws') → DPlan T c ((cmd, a) :: ws) (.err kind a detail)
  | noend {c : Cont} {a : Int} {ws : List (Str × Int)} : cutEnd ws = none → DPlan T c ((s_ "$comment", a) :: ws) (.err (s_ "end_missing") a eS)
  | hello {c : Cont} {a : Int} {ws : List (Str × Int)} : DPlan T c ((s_ "hello", a) :: ws) (.err (s_ "unexpected_word") a (s_ "hello"))
  | anEnd {c : Cont} {a : Int} {ws : List (Str × Int)} : DPlan T c ((s_ "$end", a) :: ws) (.err (s_ "unexpected_word") a (s_ "$end"))
  | missing {c : Cont} : DPlan T c [] (.err (s_ "definitions_missing") T.length eS)


end Mine
end
section
open PySem PySem.W PySem.Calls PyProof.Rows PyProof.V PySem.Spec
set_option maxHeartbeats 20000000
namespace Mine
theorem ft_lines0 : True := by
  k_with_none
  (k_with "k_room" => ktr_room)
  (k_with "k_all" => assumption)
  (k_with "ktr_rel" => first | assumption | rfl | ((refine (if_neg (by decide)).trans ?_); ktr_rel))
  (k_with "eval Name" => (k_here; k_dflt (refine' ld ?q9k1 ?q9k2 ?_; (case q9k1 => k_asm); (case q9k2 => first | assumption | rfl | ((refine (if_neg (by decide)).trans ?_); first | assumption | ktr_rel)); k_whole)))
  (k_with "exec Raise some none" => (k_here; with_reducible refine fe_raise rfl ?_))
  (k_with "call ref" => (k_here; (with_reducible show wpAny _ _ (call (Value.ref 45) _) _ _ _); k_dflt (first
  | (refine' rets_use2 (fe_make _ _ _ _ _ _ _ _ rfl) ?q9k1 ?q9k2 ?q9k3 ?q9k4 ?q9k5 ?q9k6 ?q9k7 ?q9k8 ?_; (case q9k1 => k_asm); (case q9k2 => k_asm); (case q9k3 => k_asm); (case q9k4 => k_asm); (case q9k5 => k_asm); (case q9k6 => first | exact rfl | assumption); (case q9k7 => ktr_room); (case q9k8 => ktr_units))
  | (refine' rets_use2 (fe_make2 _ _ _ _ _ _ rfl) ?q9k1 ?q9k2 ?q9k3 ?q9k4 ?q9k5 ?q9k6 ?q9k7 ?q9k8 ?_; (case q9k1 => k_asm); (case q9k2 => k_asm); (case q9k3 => k_asm); (case q9k4 => k_asm); (case q9k5 => k_asm); (case q9k6 => first | exact rfl | assumption); (case q9k7 => ktr_room); (case q9k8 => ktr_units))); intro GG9 HH9; refine FeMade.out ?_; intro h9 tk9 e9 d9 p9 _ _ _ _ _ _ l9 m9; refine HH9 _ _ _ _ ?_; clear HH9 GG9; intro F9 N9; (try dsimp only)))
  (k_with "Exists" => (k_here; refine ⟨_, _, _, rfl, by k_in, News.get (by k_asm) (List.Mem.tail _ (List.Mem.head _)), ?_⟩; (try dsimp only)))
  (k_with "leaving ref" => (k_here; first
  | (refine' fe_leave_first ?q9k1 ?q9k2 ?q9k3 ?q9k4 ?q9k5 ?_; (case q9k1 => assumption); (case q9k2 => k_asm); (case q9k3 => k_asm); (case q9k4 => (intro p hp; exact Nat.ne_of_lt (by (first | exact l9 p hp | (rename ∀ p ∈ _, @LT.lt Nat _ _ _ => l9; exact l9 p hp))))); (case q9k5 => exact Nat.ne_of_gt (by assumption)); intro h' R' U'; (try dsimp only at R' U' ⊢))
  | (refine' fe_leave_on ?q9k1 ?q9k2 ?q9k3 ?q9k4 ?_; (case q9k3 => assumption); (case q9k1 => assumption); (case q9k4 => assumption); (case q9k2 => assumption); intro h' R' U'; (try dsimp only at R' U' ⊢))))
  (k_with "subscriptTail" => (k_here; (with_reducible show wpAny _ _ (subscriptTail _ _ (Value.str _ _) (Value.int _ _)) _ _ _); (refine item_str (fitsSsize_of (N := 9223372036854775808) (by omega) (by omega) (Int.le_refl _)) (by omega) (by omega) ?_); intro hlen9))
  (k_with "ktr_unf" => repeat' ((fail_if_success (with_reducible show wpAny _ _ (pyIter (Value.ref _)) _ _ _)); first | (k_unfold; (try dsimp only)) | (k_end; wrow_close) | walk1 | (dsimp only; walk1) | (leave1; walk_say "STEP leave1"; try dsimp only) | fail "no step"))
  (k_with "subscriptTail" => (k_here; (with_reducible show wpAny _ _ (subscriptTail _ (Expr.Slice (some _) (some _) none _) (Value.str _ _) (Value.ref _)) _ _ _); (with_reducible rename Fr _ _ _ _ => F'); (with_reducible rename News _ _ _ _ => N'); (refine slice_strN_ss (hsz := ?q9hsz) (s := ⟨_, _, _, _, _⟩) F' N' ?_); (case q9hsz => (rw [sizeLine_eq]; omega)); intro _ _ _ _ _))
  (k_with "k_updF" => first | (refine' UpdF.head ?q9a; (case q9a => k_all)) | (refine' UpdF.tail ?q9a ?q9b; (case q9a => k_ne); (case q9b => k_updF)))
  (k_with "kwd_rel" => first | exact List.forall_mem_nil _ | ((refine' List.forall_mem_cons.mpr ⟨?q9aa, ?q9bb⟩); (case q9aa => k_mem); (case q9bb => kwd_rel)) | (intro p hp; repeat (first | exact hp | refine List.Mem.tail _ ?_)))
  (k_with "call type:range" => (k_here; (rename Nat.cast _ - 1 = _ => n9); rw [n9]))
  (k_with "callWith" => (k_here; (with_reducible show wpAny _ _ (callWith _ (Value.builtin _) (_ :: _) _ _) _ _ _); refine callWith_method1 ?_))
  (k_with "call builtin:str.find" => (k_here; (with_reducible show wpAny _ _ (call (Value.builtin "str.find") [Value.str _ _, Value.str _ _]) _ _ _); (refine KXw.find (by assumption) ?_); intro _ _))
  trivial

theorem tup7 {prog : Program} {w : World} {A : Around} {E : Value → Shared → Prop} {s : Shared} {value slice : Expr} {l : Addr} {vs : List Value} {k v : Int} {u : Tok} {Q : Value → Shared → Prop} (hl : IsTup s.heap l vs.toArray) (hi : IntsAre vs [0, 1, 2, 3, 2, 3, 2])
    (h0 : 0 ≤ k) (h1 : k < 7) (hv : [0, 1, 2, 3, 2, 3, 2].getD k.toNat 0 = v) (h : ∀ t, Q (.int v t) s)
    (hs : subscripted slice false (.ref l) (.int k u) = operate [.ref l, .int k u] (getItem (.ref l) (.int k u)) := by with_unfolding_all rfl) :
    wpAny (model prog w) A (subscriptTail value slice (.ref l) (.int k u)) Q E s := by
  subst hv
  obtain ⟨t, hx⟩ := hi.get k.toNat _ (ints_getD h0 (by simp only [List.length_cons, List.length_nil]; omega))
  exact item_tupleT (j := k.toNat) hl (by omega) (by omega) (seqIndex_of h0 (by rw [hi.length]; simp only [List.length_cons, List.length_nil]; omega)) hx (h t) hs
theorem sh_small {v : Int} (lo : 0 ≤ v) (hi : v ≤ 3) : (v.fdiv (2 ^ Int.toNat 1)).natAbs < 2 ^ 64 := by
  have : v = 0 ∨ v = 1 ∨ v = 2 ∨ v = 3 := by omega
  rcases this with rfl | rfl | rfl | rfl <;> decide
theorem and_small {v : Int} (lo : 0 ≤ v) (hi : v ≤ 3) : (Builtin.bitAnd v 1).natAbs < 2 ^ 64 := by
  have : v = 0 ∨ v = 1 ∨ v = 2 ∨ v = 3 := by omega
  rcases this with rfl | rfl | rfl | rfl <;> decide
theorem ft_lines1 : True := by
  (k_with "binaryOp LShift int int" => (k_here; (with_reducible refine lshift_int_small ?q9kb1 ?q9kb2 ?q9kb3 ?_); (case q9kb3 => k_dflt (first | exact sh_small (by assumption) (by assumption) | exact and_small (by assumption) (by assumption))); (case q9kb1 => omega); (case q9kb2 => omega)))
  (k_with "subscriptTail" => (k_here; (with_reducible show wpAny _ _ (subscriptTail (Expr.Tuple _ _ _) _ (Value.ref _) (Value.int _ _)) _ _ _); refine tup7 (News.isTup (by k_asm) (List.Mem.head _)) (.cons _ _ (.cons _ _ (.cons _ _ (.cons _ _ (.cons _ _ (.cons _ _ (.cons _ _ .nil))))))) (by assumption) (by assumption) (by assumption) ?_; intro _))
  (k_with "subscriptTail Name Name str int" => (k_here; (with_reducible show wpAny _ _ (subscriptTail _ _ (Value.str _ _) (Value.int _ _)) _ _ _); (refine item_str (fitsSsize_of (N := 9223372036854775808) (by omega) (by omega) (Int.le_refl _)) (by omega) (by omega) ?_); intro hlen9))
  (k_with "UnrEnd" => (k_here; (with_reducible rename News _ _ _ _ => N8); (rename ∀ p ∈ _, @LT.lt Nat _ _ _ => l9); refine' UnrEnd.intro (by assumption) N8 ((_, listOf _ _) :: _) ?q9sub (List.forall_mem_cons.mpr ⟨?q9off1, fun p hp => Nat.ne_of_lt (Nat.lt_trans (l9 p hp) ?q9off2)⟩) ?_; (case q9sub => kwd_rel); (case q9off1 => k_ne); (case q9off2 => first | omega | exact (by assumption : _ ∧ AllLt _ _).1)))
  trivial

/-- a made tuple of these, and what was made with it -/
def ValR (news : List (Addr × Obj)) (ds : List Dat) (r : Value) (news' : List (Addr × Obj)) : Prop :=
  ∃ (a : Addr) (tl : List (Addr × Obj)), r = .ref a ∧ news' = tl ++ news ∧ (∀ x ∈ tl, ∀ y ∈ news, @LT.lt Nat _ y.1 x.1) ∧ DatIn tl (.ref a) (.tuple ds)
section
variable {prog : Program} {w : World} {A : Around} {E : Value → Shared → Prop} {s : Shared} {env : Env} {h₀ : Heap} {x : Str} {body : List Stmt} {Q : Flow → Shared → Prop}
/-- a for over a range; what lies in the ledger is the invariant's to say -/
theorem iter_rg {r : Addr} {a b c : Int} {t u v : Tok} {n : Nat} {m₀ : Str → Option Value} {news : List (Addr × Obj)} (J : Nat → (Str → Option Value) → List (Addr × Obj) → Prop)
    (hh : A.handled = none) (hr : IsRange s.heap r a b c t u v) (hsmall : Builtin.Range.small a b c = true) (hn : Builtin.Range.rangeSize a b c = (n : Int)) (F : Fr h₀ env.locals s.heap m₀) (N : News h₀ env.locals s.heap news) (hj : J 0 m₀ news)
    (turn : ∀ i k (t' : Tok) I oI Qb, i < n → k = a + (i : Int) * c → ∀ G : (Str → Option Value) → List (Addr × Obj) → Heap → Nat → Prop, (∀ m₁ nx h tk, ((∀ p ∈ nx, p.1 ≠ I) → Fr h₀ env.locals h (fun y => if y = x then some (.int k t') else m₁ y) → News h₀ env.locals h ((I, oI) :: nx) →
        (∀ h' tk' m' nx', Fr h₀ env.locals h' m' → News h₀ env.locals h' ((I, oI) :: nx') → (∀ p ∈ nx', p.1 ≠ I) → J (i + 1) m' nx' → Qb .next { s with heap := h', toks := tk' }) →
        wpAny (model prog w) A (execs body env) Qb E { s with heap := h, toks := tk }) → G m₁ nx h tk) → ∀ m₁ nx h tk, J i m₁ nx → G m₁ nx h tk)
    (done : ∀ G : (Str → Option Value) → List (Addr × Obj) → Heap → Nat → Prop, (∀ m₁ nx h tk, (Fr h₀ env.locals h m₁ → News h₀ env.locals h nx → Q .next { s with heap := h, toks := tk }) → G m₁ nx h tk) → ∀ m₁ nx h tk, J n m₁ nx → G m₁ nx h tk) :
    wpAny (model prog w) A (pyIter (.ref r)) (fun it s₂ => LoopAtV prog w A h₀ env x body Q E it s₂) E s := by
  have W := (Walks.range (prog := prog) (w := w) (A := A) hh s.heap.objs.size a c n)
  refine wpAny_pyIter_range hr hsmall ⟨s.heap.objs.size, [s.heap.objs.size], [s.heap.objs.size], n, _, _, m₀, news, J, rfl, W, fun hm => ?_, fun b hb => ?_, fun p hp hI => ?_, ?_, F.push _, (fun p hp => ⟨Heap.get?_push_of_some _ (N p hp).1, (N p hp).2⟩), hj, ?_, fun h' tk m' nx F' N' _ hJ => done (fun m₁ nx h tk => Fr h₀ env.locals h m₁ → News h₀ env.locals h nx → Q .next { s with heap := h, toks := tk }) (fun _ _ _ _ p => p) m' nx h' tk hJ F' N'⟩
  · rcases List.mem_cons.mp hm with e | hm
    · exact absurd F.ns.lt (e ▸ Nat.lt_irrefl _)
    · cases hm
  · rw [List.mem_singleton.mp hb]
    exact next_is_new F
  · exact absurd (Heap.lt_size (N p hp).1) ((List.mem_singleton.mp hI) ▸ Nat.lt_irrefl _)
  · show IsRangeIter _ _ _ _ _
    rw [hn]
    simpa using Heap.get?_push_size _ rfl
  · rintro i v m₁ nx s₁ own ⟨h1, tk1, rfl⟩ hin ⟨t', rfl⟩ hJ hoff hown hget hfp hst F₁ N₁
    obtain ⟨oI, hoI⟩ : ∃ o, h1.get? s.heap.objs.size = some o := ⟨_, hst⟩
    have hI := hfp _ (.head _) (next_is_new F) _ hoI
    refine wpAny_mono (turn i _ t' s.heap.objs.size oI (PostO h₀ env.locals (J (i + 1)) s.heap.objs.size oI { s with heap := h1, toks := tk1 } Q) hin rfl
      (fun m₁ nx h' tk' => h' = h1 → tk' = tk1 → (∀ p ∈ nx, p.1 ≠ s.heap.objs.size) → Fr h₀ env.locals h' (fun y => if y = x then some (.int (a + (i : Int) * c) t') else m₁ y) → News h₀ env.locals h' ((s.heap.objs.size, oI) :: nx) → wpAny (model prog w) A (execs body env) (PostO h₀ env.locals (J (i + 1)) s.heap.objs.size oI { s with heap := h1, toks := tk1 } Q) E { s with heap := h', toks := tk' })
      (fun m₁ nx h' tk' p e1 e2 a b c => p a b c (fun h' tk' m' nx' a b c d => ⟨h', tk', m', nx', rfl, a, b, c, d⟩)) m₁ nx h1 tk1 hJ rfl rfl (fun p hp hq => hoff p hp (by rw [hq]; exact .head _)) F₁ fun p hp => N₁ p (by
        rcases List.mem_cons.mp hp with rfl | hp
        · exact List.mem_append_left _ hI
        · exact List.mem_append_right _ hp)) (fun f s₂ p => ?_) fun _ _ e => e
    have fin : ∀ s₂, EndO h₀ env.locals (J (i + 1)) s.heap.objs.size oI { s with heap := h1, toks := tk1 } s₂ → LoopStepU h₀ env.locals [s.heap.objs.size] own (J (i + 1)) { s with heap := h1, toks := tk1 } .next s₂ := by
      rintro s₂ ⟨h', tk, m', nx', e, F', N', ho, hm⟩
      refine ⟨rfl, h', tk, m', nx', e, F', fun p hp => ?_, fun p hp hq => ho p hp (List.mem_singleton.mp hq), hm⟩
      rcases List.mem_append.mp hp with hp | hp
      · have h2 := hget p hp
        have h3 := List.mem_singleton.mp (hown p hp)
        refine N' p ?_
        rw [h3] at h2
        have h4 := Option.some.inj (h2.symm.trans hoI)
        rw [show p = (s.heap.objs.size, oI) from Prod.ext h3 h4]
        exact .head _
      · exact N' p (.tail _ hp)
    cases f with
    | ret v => exact .ret p
    | brk => exact .brk p
    | next => exact .next (fin _ p)
    | cont => exact .cont (fin _ p)
end

/-- the codes of the first i signs of a row, put together -/
noncomputable def fcA (r : List Int) : Nat → Int
  | 0 => 0
  | i + 1 => Builtin.bitOr (fcA r i) (Builtin.bitAnd (r.getD i 0) 1 * 2 ^ i)
noncomputable def fcB (r : List Int) : Nat → Int
  | 0 => 0
  | i + 1 => Builtin.bitOr (fcB r i) ((r.getD i 0).fdiv (2 ^ Int.toNat 1) * 2 ^ i)
theorem fcA_step {r : List Int} {i : Nat} {k : Int} {t : Tok} (h : k.toNat = i) : some (Value.int (Builtin.bitOr (fcA r i) (Builtin.bitAnd (r.getD k.toNat 0) 1 * 2 ^ k.toNat)) t) = some (.int (fcA r (i + 1)) t) := by subst h; rfl
theorem fcB_step {r : List Int} {i : Nat} {k : Int} {t : Tok} (h : k.toNat = i) : some (Value.int (Builtin.bitOr (fcB r i) ((r.getD k.toNat 0).fdiv (2 ^ Int.toNat 1) * 2 ^ k.toNat)) t) = some (.int (fcB r (i + 1)) t) := by subst h; rfl
inductive FcJ (l nn : Nat) (vs : List Value) (ns : List Int) (news : List (Addr × Obj)) (i : Nat) (m : Str → Option Value) : List (Addr × Obj) → Prop
  | mk (ta tb : Tok) : m (Str.ofString "row") = some (.ref l) → m (Str.ofString "a") = some (.int (fcA ns i) ta) → m (Str.ofString "b") = some (.int (fcB ns i) tb) → FcJ l nn vs ns news i m news
theorem ft_lines2 : True := by
  (k_with "loadName" => (k_here; k_dflt (refine' ldn ?q9k1 ?q9k2 ?_; (case q9k1 => k_asm); (case q9k2 => repeat (first | assumption | exact if_pos rfl | refine (if_neg (by decide)).trans ?_)))))
  (k_with "call builtin:len" => (k_here; (with_reducible show wpAny _ _ (call (Value.builtin "len") [Value.ref _]) _ _ _); k_dflt (refine' kun_lenL ?q9a ?q9b ?q9c ?_; (case q9a => exact News.isList (by k_asm) (by assumption)); (case q9b => assumption); (case q9c => omega))))
  (k_with "subscriptTail" => (k_here; (with_reducible show wpAny _ _ (subscriptTail _ _ (Value.ref _) (Value.int _ _)) _ _ _); k_dflt (refine' ksa_sub ?q9N ?q9m ?q9i ?q9a ?q9b ?q9c ?_; (case q9N => k_asm); (case q9m => first | assumption | (refine List.Mem.tail _ ?_; assumption)); (case q9i => assumption); (case q9a => omega); (case q9b => omega); (case q9c => omega)); intro t8))
  trivial

theorem fc_spec : ∀ (w : World) (news : List (Addr × Obj)) (l nn : Nat) (vs : List Value) (ns : List Int), (l, listOf vs.toArray nn) ∈ news → IntsAre vs ns → ns.length ≤ 1000 → (∀ v ∈ ns, 0 ≤ v ∧ v ≤ 3) → (Mine.hd.heap_39 w.params = Mine.hd.heap_39 w.params) →
    Rets w 54 [.ref l] 8 80 news (ValR news [.int ns.length, .int (fcA ns ns.length), .int (fcB ns ns.length)]) := by
  unfold Rets
  k_fill
  intro w news l nn vs ns hl hi hlen hv _ mean mg mb dp un gd cn cs a ccd cl outer A₀ base h₀ L m s Q E B F X N Tp hk hd hu hret
  have hcz : (vs.toArray.size : Int) = (ns.length : Int) := by rw [List.size_toArray, hi.length]
  refine wpAny_call ?_
  k_dflt ktr_enter
  ktr_unf
  (rename Fr _ _ _ _ => F0); (rename News _ _ _ _ => N0); (rename IsRange _ _ _ _ _ _ _ _ => R0)
  refine' iter_rg (n := ns.length) (FcJ l nn vs ns news) rfl R0 ?sm ?rs F0 N0 (.mk _ _ rfl rfl rfl) ?_ ?_
  case sm => exact small_one (by omega) (by omega) (by omega) (by omega)
  case rs => rw [rangeSize_nat]; omega
  · clear F0 N0 R0
    intro i k t' I oI Qb hik hk' GG HH m1 nx h1 tk1 R1
    obtain ⟨ta, tb, e1, e2, e3⟩ := R1
    refine HH _ _ _ _ ?_
    clear HH GG
    intro hI F1 N1 hnext
    have hk0 : 0 ≤ k := by omega
    have hkn : k < ns.length := by omega
    have hki : k.toNat = i := by omega
    obtain ⟨hg0, hg3⟩ : 0 ≤ ns.getD k.toNat 0 ∧ ns.getD k.toNat 0 ≤ 3 := by
      rw [hki, List.getD_eq_getElem?_getD, List.getElem?_eq_getElem hik]
      exact hv _ (List.getElem_mem hik)
    ktr_unf
    refine' hnext _ _ _ _ (by assumption) (by assumption) hI (.mk _ _ ?_ (Eq.trans ?_ (fcA_step hki)) (Eq.trans ?_ (fcB_step hki))) <;> ktr_rel
  · clear F0 N0 R0
    intro GG HH m1 nx h1 tk1 R1
    obtain ⟨ta, tb, e1, e2, e3⟩ := R1
    refine HH _ _ _ _ ?_
    clear HH GG
    intro F1 N1
    k_steps
    refine' hret _ ([(_, _)] ++ news) _ _ (by assumption) (by assumption) ⟨_, [(_, _)], rfl, rfl, ?_, .tuple (.head _) (.cons (.int _ _) (.cons (.int _ _) (.cons (.int _ _) .nil)))⟩
    (rename ∀ p ∈ news, _ => l9)
    intro x hx y hy
    rw [List.mem_singleton.mp hx]
    exact l9 y hy

theorem rangeSize_down {n : Nat} : Builtin.Range.rangeSize ((n : Int) - 1) (-1) (-1) = (n : Int) := by
  unfold Builtin.Range.rangeSize
  rw [if_neg (by decide), show -(-1 : Int) = 1 from rfl, Int.ediv_one]
  split <;> omega
theorem small_down {n : Nat} (h : n ≤ 1000) : Builtin.Range.small ((n : Int) - 1) (-1) (-1) = true := by
  unfold Builtin.Range.small
  rw [rangeSize_down]
  simp only [Builtin.Range.rangeFitsLong, Bool.and_eq_true, Bool.or_eq_true, decide_eq_true_eq, beq_iff_eq, show ¬ ((-1 : Int) > 0) by decide, if_false]
  omega
theorem ValR.out {news : List (Addr × Obj)} {ds : List Dat} {G : Value → List (Addr × Obj) → Heap → Nat → Prop} (k : ∀ h' tk' (a : Addr) (tl : List (Addr × Obj)), (∀ x ∈ tl, ∀ y ∈ news, @LT.lt Nat _ y.1 x.1) → DatIn tl (.ref a) (.tuple ds) → G (.ref a) (tl ++ news) h' tk') : ∀ r n h' tk', ValR news ds r n → G r n h' tk' := by
  rintro r n h' tk' ⟨a, tl, rfl, rfl, h1, h2⟩
  exact k _ _ _ _ h1 h2
/-- the code of the sign at place i -/
def cz (T : Str) (i : Int) : Int := [0, 1, 2, 3, 2, 3, 2].getD (Txt.find (Str.ofString "01zxZX?") (Txt.item T i)).toNat 0
/-- the codes of the last j signs, the last first -/
noncomputable def rowC (T : Str) : Nat → List Int
  | 0 => []
  | j + 1 => rowC T j ++ [cz T ((T.length : Int) - 1 + (j : Int) * (-1))]
theorem rowC_length {T : Str} {j : Nat} : (rowC T j).length = j := by
  induction j with
  | zero => rfl
  | succ j ih => simp [rowC, ih]
inductive FtJ (news : List (Addr × Obj)) (T : Str) (t : Tok) (l : Nat) (j : Nat) (m : Str → Option Value) : List (Addr × Obj) → Prop
  | mk (items : Array Value) (nn : Nat) : m (Str.ofString "text") = some (.str T t) → m (Str.ofString "row") = some (.ref l) → IntsAre items.toList (rowC T j) → (∀ v ∈ rowC T j, 0 ≤ v ∧ v ≤ 3) → FtJ news T t l j m ((l, listOf items nn) :: news)
theorem ft_sign {T : Str} {k : Int} {P : Prop} (h0 : 0 ≤ Txt.find (Str.ofString "01zxZX?") (Txt.item T k) ∧ Txt.find (Str.ofString "01zxZX?") (Txt.item T k) < 7)
    (h : ∀ f v : Int, Txt.find (Str.ofString "01zxZX?") (Txt.item T k) = f → 0 ≤ f → f < 7 → [0, 1, 2, 3, 2, 3, 2].getD f.toNat 0 = v → cz T k = v → 0 ≤ v ∧ v ≤ 3 → P) : P := by
  refine h _ _ rfl h0.1 h0.2 rfl rfl ?_
  generalize Txt.find (Str.ofString "01zxZX?") (Txt.item T k) = f at h0
  have : f = 0 ∨ f = 1 ∨ f = 2 ∨ f = 3 ∨ f = 4 ∨ f = 5 ∨ f = 6 := by omega
  rcases this with rfl | rfl | rfl | rfl | rfl | rfl | rfl <;> decide
theorem ft_off {l I nn nn' : Nat} {items items' : Array Value} {news : List (Addr × Obj)} (h : ∀ p ∈ (l, listOf items nn) :: news, p.1 ≠ I) : ∀ p ∈ (l, listOf items' nn') :: news, p.1 ≠ I := by
  intro p hp
  rcases List.mem_cons.mp hp with rfl | hp
  · exact h (l, listOf items nn) (.head _)
  · exact h _ (.tail _ hp)
theorem ft_ints {T : Str} {j : Nat} {items : Array Value} {k v : Int} {t : Tok} (h : IntsAre items.toList (rowC T j)) (e : cz T k = v) (hk : k = (T.length : Int) - 1 + (j : Int) * (-1)) : IntsAre (items.push (.int v t)).toList (rowC T (j + 1)) := by
  subst hk e
  rw [Array.toList_push]
  exact h.append (.cons _ _ .nil)
theorem ft_vals {T : Str} {j : Nat} {k v : Int} (h : ∀ v ∈ rowC T j, 0 ≤ v ∧ v ≤ 3) (e : cz T k = v) (hk : k = (T.length : Int) - 1 + (j : Int) * (-1)) (hv : 0 ≤ v ∧ v ≤ 3) : ∀ v ∈ rowC T (j + 1), 0 ≤ v ∧ v ≤ 3 := by
  subst hk e
  intro x hx
  rcases List.mem_append.mp hx with hx | hx
  · exact h x hx
  · rw [List.mem_singleton.mp hx]; exact hv
theorem ft_lines3 : True := by
  (k_with "call ref" => (k_here; (with_reducible show wpAny _ _ (call (Value.ref 54) _) _ _ _); k_dflt (refine' rets_use2 (fc_spec _ _ _ _ (Array.toList _) _ ?q9u1 ?q9u3 ?q9u2 ?q9u4 rfl) ?q9k1 ?q9k2 ?q9k3 ?q9k4 ?q9k5 ?q9k6 ?q9k7 ?q9k8 ?_; (case q9k1 => k_asm); (case q9k2 => k_asm); (case q9k3 => k_asm); (case q9k4 => k_asm); (case q9k5 => k_asm); (case q9k6 => first | exact rfl | assumption); (case q9k7 => ktr_room); (case q9k8 => ktr_units); (case q9u1 => k_mem); (case q9u3 => assumption); (case q9u4 => assumption); (case q9u2 => (rw [rowC_length]; assumption))); intro GG9 HH9; refine ValR.out ?_; intro h9 tk9 a9 tl9 lo9 d9; refine HH9 _ _ _ _ ?_; clear HH9 GG9; intro F9 N9))
  trivial

theorem ft_spec : ∀ (w : World) (news : List (Addr × Obj)) (t : Tok) (T : Str), T.length ≤ 1000 → (∀ i : Int, 0 ≤ i → i < T.length → 0 ≤ Txt.find (Str.ofString "01zxZX?") (Txt.item T i) ∧ Txt.find (Str.ofString "01zxZX?") (Txt.item T i) < 7) → (Mine.hd.heap_39 w.params = Mine.hd.heap_39 w.params) →
    Rets w 61 [.str T t] 12 120 news (ValR news [.int T.length, .int (fcA (rowC T T.length) T.length), .int (fcB (rowC T T.length) T.length)]) := by
  unfold Rets
  k_fill
  intro w news t T hT hok _ mean mg mb dp un gd cn cs a ccd cl outer A₀ base h₀ L m s Q E B F X N Tp hk hd hu hret
  refine wpAny_call ?_
  k_dflt ktr_enter
  ktr_unf
  (rename Fr _ _ _ _ => F0); (rename News _ _ _ _ => N0); (rename IsRange _ _ _ _ _ _ _ _ => R0)
  refine' iter_rg (n := T.length) (FtJ news T t _) rfl R0 (small_down hT) rangeSize_down F0 N0 (.mk #[] _ rfl rfl .nil (fun _ h => nomatch h)) ?_ ?_
  · clear F0 N0 R0
    intro j k t' I oI Qb hjn hk' GG HH m1 nx h1 tk1 R1
    obtain ⟨items, nn, e1, e2, e3, e4⟩ := R1
    refine HH _ _ _ _ ?_
    clear HH GG
    intro hI F1 N1 hnext
    have hk0 : 0 ≤ k := by omega
    have hkn : k < T.length := by omega
    refine ft_sign (hok k hk0 hkn) ?_
    intro f v hfe hf0 hf7 hfv hcv hv3
    have hcz : items.size ≤ 1000 := by have := e3.length; rw [rowC_length, Array.length_toList] at this; omega
    have hne1 : @Ne Nat I _ := fun q => hI _ (.head _) q.symm
    ktr_unf
    refine' hnext _ _ _ ((_, listOf (items.push (.int v _)) _) :: news) (by assumption) (cb_drop (by assumption) ?_) (ft_off hI) (.mk _ _ ?_ ?_ (ft_ints e3 hcv hk') (ft_vals e4 hcv hk' hv3))
    · kwd_rel
    · ktr_rel
    · ktr_rel
  · clear F0 N0 R0
    intro GG HH m1 nx h1 tk1 R1
    obtain ⟨items, nn, e1, e2, e3, e4⟩ := R1
    refine HH _ _ _ _ ?_
    clear HH GG
    intro F1 N1
    ktr_unf
    (rename ∀ x ∈ _, ∀ y ∈ (_ :: news), _ => lo9); (rename DatIn _ _ (Dat.tuple _) => D9)
    rw [rowC_length] at D9
    exact hret _ _ _ _ (by assumption) (cb_drop (by assumption) (fun p hp => (List.mem_append.mp hp).elim (List.mem_append_left _) fun h => List.mem_append_right _ (.tail _ h))) ⟨_, _, rfl, rfl, fun x hx y hy => lo9 x hx y (.tail _ hy), D9⟩

noncomputable abbrev fcA1 (r : List Int) : Int := fcA r 1
noncomputable abbrev fcB1 (r : List Int) : Int := fcB r 1
noncomputable abbrev fcA3 (r : List Int) : Int := fcA r 3
noncomputable abbrev fcB3 (r : List Int) : Int := fcB r 3
theorem ft1 : ∀ (w : World) (news : List (Addr × Obj)) (t : Tok) (T : Str) (k0 v0 a b : Int), T.length = 1 → ((T.length : Nat) : Int) - 1 = 0 → Txt.find (Str.ofString "01zxZX?") (Txt.item T 0) = k0 → 0 ≤ k0 → k0 < 7 → [0, 1, 2, 3, 2, 3, 2].getD k0.toNat 0 = v0 → 0 ≤ v0 → v0 ≤ 3 → fcA1 [v0] = a → fcB1 [v0] = b → (Mine.hd.heap_39 w.params = Mine.hd.heap_39 w.params) →
    Rets w 61 [.str T t] 12 120 news (ValR news [.int 1, .int a, .int b]) := by
  intro w news t T k0 v0 a b hT _ e0 l0 u0 g0 _ _ ha hb hk
  have C := ft_spec w news t T (by omega) (fun i h1 h2 => by have : i = 0 := by omega
                                                             subst this; rw [e0]; exact ⟨l0, u0⟩) hk
  have hr : rowC T T.length = [v0] := by
    rw [hT]
    show [cz T ((T.length : Int) - 1 + ((0 : Nat) : Int) * (-1))] = [v0]
    rw [show (T.length : Int) - 1 + ((0 : Nat) : Int) * (-1) = 0 by omega, cz, e0, g0]
  rw [hr, hT] at C
  rw [← ha, ← hb]
  exact C
theorem ft3 : ∀ (w : World) (news : List (Addr × Obj)) (t : Tok) (T : Str) (k0 v0 k1 v1 k2 v2 a b : Int), T.length = 3 → ((T.length : Nat) : Int) - 1 = 2 → Txt.find (Str.ofString "01zxZX?") (Txt.item T 0) = k0 → 0 ≤ k0 → k0 < 7 → [0, 1, 2, 3, 2, 3, 2].getD k0.toNat 0 = v0 → 0 ≤ v0 → v0 ≤ 3 → Txt.find (Str.ofString "01zxZX?") (Txt.item T 1) = k1 → 0 ≤ k1 → k1 < 7 → [0, 1, 2, 3, 2, 3, 2].getD k1.toNat 0 = v1 → 0 ≤ v1 → v1 ≤ 3 → Txt.find (Str.ofString "01zxZX?") (Txt.item T 2) = k2 → 0 ≤ k2 → k2 < 7 → [0, 1, 2, 3, 2, 3, 2].getD k2.toNat 0 = v2 → 0 ≤ v2 → v2 ≤ 3 → fcA3 [v2, v1, v0] = a → fcB3 [v2, v1, v0] = b → (Mine.hd.heap_39 w.params = Mine.hd.heap_39 w.params) →
    Rets w 61 [.str T t] 12 120 news (ValR news [.int 3, .int a, .int b]) := by
  intro w news t T k0 v0 k1 v1 k2 v2 a b hT _ e0 l0 u0 g0 _ _ e1 l1 u1 g1 _ _ e2 l2 u2 g2 _ _ ha hb hk
  have C := ft_spec w news t T (by omega) (fun i h1 h2 => by
    have h : i = 0 ∨ i = 1 ∨ i = 2 := by omega
    rcases h with rfl | rfl | rfl
    · rw [e0]; exact ⟨l0, u0⟩
    · rw [e1]; exact ⟨l1, u1⟩
    · rw [e2]; exact ⟨l2, u2⟩) hk
  have hr : rowC T T.length = [v2, v1, v0] := by
    rw [hT]
    show [cz T ((T.length : Int) - 1 + ((0 : Nat) : Int) * (-1)), cz T ((T.length : Int) - 1 + ((1 : Nat) : Int) * (-1)), cz T ((T.length : Int) - 1 + ((2 : Nat) : Int) * (-1))] = [v2, v1, v0]
    rw [show (T.length : Int) - 1 + ((0 : Nat) : Int) * (-1) = 2 by omega, show (T.length : Int) - 1 + ((1 : Nat) : Int) * (-1) = 1 by omega, show (T.length : Int) - 1 + ((2 : Nat) : Int) * (-1) = 0 by omega, cz, cz, cz, e0, g0, e1, g1, e2, g2]
  rw [hr, hT] at C
  rw [← ha, ← hb]
  exact C

end Mine
end
section
open PySem PySem.W PySem.Calls PyProof.Rows PyProof.V PySem.Spec
set_option maxHeartbeats 20000000
namespace Mine
theorem len_lines0 : True := by
  k_with_none
  (k_with "k_room" => ktr_room)
  (k_with "k_all" => assumption)
  (k_with "ktr_rel" => first | assumption | rfl | ((refine (if_neg (by decide)).trans ?_); ktr_rel))
  (k_with "eval Name" => (k_here; k_dflt (refine' ld ?q9k1 ?q9k2 ?_; (case q9k1 => k_asm); (case q9k2 => first | assumption | rfl | ((refine (if_neg (by decide)).trans ?_); first | assumption | ktr_rel)); k_whole)))
  (k_with "exec Raise some none" => (k_here; with_reducible refine fe_raise rfl ?_))
  (k_with "call ref" => (k_here; (with_reducible show wpAny _ _ (call (Value.ref 45) _) _ _ _); k_dflt (first
  | (refine' rets_use2 (fe_make _ _ _ _ _ _ _ _ rfl) ?q9k1 ?q9k2 ?q9k3 ?q9k4 ?q9k5 ?q9k6 ?q9k7 ?q9k8 ?_; (case q9k1 => k_asm); (case q9k2 => k_asm); (case q9k3 => k_asm); (case q9k4 => k_asm); (case q9k5 => k_asm); (case q9k6 => first | exact rfl | assumption); (case q9k7 => ktr_room); (case q9k8 => ktr_units))
  | (refine' rets_use2 (fe_make2 _ _ _ _ _ _ rfl) ?q9k1 ?q9k2 ?q9k3 ?q9k4 ?q9k5 ?q9k6 ?q9k7 ?q9k8 ?_; (case q9k1 => k_asm); (case q9k2 => k_asm); (case q9k3 => k_asm); (case q9k4 => k_asm); (case q9k5 => k_asm); (case q9k6 => first | exact rfl | assumption); (case q9k7 => ktr_room); (case q9k8 => ktr_units))); intro GG9 HH9; refine FeMade.out ?_; intro h9 tk9 e9 d9 p9 _ _ _ _ _ _ l9 m9; refine HH9 _ _ _ _ ?_; clear HH9 GG9; intro F9 N9; (try dsimp only)))
  (k_with "Exists" => (k_here; refine ⟨_, _, _, rfl, by k_in, News.get (by k_asm) (List.Mem.tail _ (List.Mem.head _)), ?_⟩; (try dsimp only)))
  (k_with "leaving ref" => (k_here; first
  | (refine' fe_leave_first ?q9k1 ?q9k2 ?q9k3 ?q9k4 ?q9k5 ?_; (case q9k1 => assumption); (case q9k2 => k_asm); (case q9k3 => k_asm); (case q9k4 => (intro p hp; exact Nat.ne_of_lt (by (first | exact l9 p hp | (rename ∀ p ∈ _, @LT.lt Nat _ _ _ => l9; exact l9 p hp))))); (case q9k5 => exact Nat.ne_of_gt (by assumption)); intro h' R' U'; (try dsimp only at R' U' ⊢))
  | (refine' fe_leave_on ?q9k1 ?q9k2 ?q9k3 ?q9k4 ?_; (case q9k3 => assumption); (case q9k1 => assumption); (case q9k4 => assumption); (case q9k2 => assumption); intro h' R' U'; (try dsimp only at R' U' ⊢))))
  (k_with "subscriptTail" => (k_here; (with_reducible show wpAny _ _ (subscriptTail _ _ (Value.str _ _) (Value.int _ _)) _ _ _); (refine item_str (fitsSsize_of (N := 9223372036854775808) (by omega) (by omega) (Int.le_refl _)) (by omega) (by omega) ?_); intro hlen9))
  (k_with "ktr_unf" => repeat' ((fail_if_success (with_reducible show wpAny _ _ (exec (Stmt.While _ _ _ _) _) _ _ _)); first | (k_unfold; (try dsimp only)) | (k_end; wrow_close) | walk1 | (dsimp only; walk1) | (leave1; walk_say "STEP leave1"; try dsimp only) | fail "no step"))
  (k_with "subscriptTail" => (k_here; (with_reducible show wpAny _ _ (subscriptTail _ (Expr.Slice (some _) (some _) none _) (Value.str _ _) (Value.ref _)) _ _ _); (with_reducible rename Fr _ _ _ _ => F'); (with_reducible rename News _ _ _ _ => N'); (refine slice_strN_ss (hsz := ?q9hsz) (s := ⟨_, _, _, _, _⟩) F' N' ?_); (case q9hsz => (rw [sizeLine_eq]; omega)); intro _ _ _ _ _))
  (k_with "k_updF" => first | (refine' UpdF.head ?q9a; (case q9a => k_all)) | (refine' UpdF.tail ?q9a ?q9b; (case q9a => k_ne); (case q9b => k_updF)))
  (k_with "kwd_rel" => first | exact List.forall_mem_nil _ | ((refine' List.forall_mem_cons.mpr ⟨?q9aa, ?q9bb⟩); (case q9aa => k_mem); (case q9bb => kwd_rel)) | (intro p hp; repeat (first | exact hp | refine List.Mem.tail _ ?_)))
  (k_with "subscriptTail Name Constant str int" => (k_here; (with_reducible show wpAny _ _ (subscriptTail _ _ (Value.str _ _) (Value.int _ _)) _ _ _); (refine item_str (fitsSsize_of (N := 9223372036854775808) (by omega) (by omega) (Int.le_refl _)) (by omega) (by omega) ?_); intro hlen9))
  (k_with "binaryOp Add str str" => (k_here; (refine SBL.add (hsz := ?q9hsz) ?_); (case q9hsz => (rw [sizeLine_eq]; omega)); intro _ _ _))
  trivial

theorem len_spec : ∀ (w : World) (news : List (Addr × Obj)) (d T : Str) (td tn : Tok) (n : Int), 1 ≤ d.length → d.length ≤ 3 → d.length ≤ n → n ≤ 3 → (Txt.mul (s_ "0") (n - d.length)).length ≤ 10 → (Txt.mul (Txt.item d 0) (n - d.length)).length ≤ 10 →
    ((Txt.item d 0 == s_ "1") = true → Txt.mul (s_ "0") (n - d.length) ++ d = T) → ((Txt.item d 0 == s_ "1") = false → Txt.mul (Txt.item d 0) (n - d.length) ++ d = T) → (Mine.hd.heap_39 w.params = Mine.hd.heap_39 w.params) →
    Rets w 75 [.str d td, .int n tn] 5 60 news (SameS T news) := by
  unfold Rets
  k_fill
  intro w news d T td tn n hd1 hd3 hn hn3 hz0 hz1 hT1 hT2 _ mean mg mb dp un gd cn cs a ccd cl outer A₀ base h₀ L m s Q E B F X N Tp hk hd hu hret
  refine wpAny_call ?_
  k_dflt ktr_enter
  k_steps
  all_goals exact hret _ _ _ _ (by assumption) (by assumption) (by first | (rw [hT1 (by assumption)]; exact ⟨_⟩) | (rw [hT2 (by assumption)]; exact ⟨_⟩))


end Mine
end
section
open PySem PySem.W PySem.Calls PyProof.Rows PyProof.V PySem.Spec
set_option maxHeartbeats 20000000
namespace Mine
theorem chg_lines0 : True := by
  k_with_none
  (k_with "k_room" => ktr_room)
  (k_with "k_all" => assumption)
  (k_with "ktr_rel" => first | assumption | rfl | ((refine (if_neg (by decide)).trans ?_); ktr_rel))
  (k_with "eval Name" => (k_here; k_dflt (refine' ld ?q9k1 ?q9k2 ?_; (case q9k1 => k_asm); (case q9k2 => first | assumption | rfl | ((refine (if_neg (by decide)).trans ?_); first | assumption | ktr_rel)); k_whole)))
  (k_with "exec Raise some none" => (k_here; with_reducible refine fe_raise rfl ?_))
  (k_with "call ref" => (k_here; (with_reducible show wpAny _ _ (call (Value.ref 45) _) _ _ _); k_dflt (first
  | (refine' rets_use2 (fe_make _ _ _ _ _ _ _ _ rfl) ?q9k1 ?q9k2 ?q9k3 ?q9k4 ?q9k5 ?q9k6 ?q9k7 ?q9k8 ?_; (case q9k1 => k_asm); (case q9k2 => k_asm); (case q9k3 => k_asm); (case q9k4 => k_asm); (case q9k5 => k_asm); (case q9k6 => first | exact rfl | assumption); (case q9k7 => ktr_room); (case q9k8 => ktr_units))
  | (refine' rets_use2 (fe_make2 _ _ _ _ _ _ rfl) ?q9k1 ?q9k2 ?q9k3 ?q9k4 ?q9k5 ?q9k6 ?q9k7 ?q9k8 ?_; (case q9k1 => k_asm); (case q9k2 => k_asm); (case q9k3 => k_asm); (case q9k4 => k_asm); (case q9k5 => k_asm); (case q9k6 => first | exact rfl | assumption); (case q9k7 => ktr_room); (case q9k8 => ktr_units))); intro GG9 HH9; refine FeMade.out ?_; intro h9 tk9 e9 d9 p9 _ _ _ _ _ _ l9 m9; refine HH9 _ _ _ _ ?_; clear HH9 GG9; intro F9 N9; (try dsimp only)))
  (k_with "Exists" => (k_here; refine ⟨_, _, _, rfl, by k_in, News.get (by k_asm) (List.Mem.tail _ (List.Mem.head _)), ?_⟩; (try dsimp only)))
  (k_with "leaving ref" => (k_here; first
  | (refine' fe_leave_first ?q9k1 ?q9k2 ?q9k3 ?q9k4 ?q9k5 ?_; (case q9k1 => assumption); (case q9k2 => k_asm); (case q9k3 => k_asm); (case q9k4 => (intro p hp; exact Nat.ne_of_lt (by (first | exact l9 p hp | (rename ∀ p ∈ _, @LT.lt Nat _ _ _ => l9; exact l9 p hp))))); (case q9k5 => exact Nat.ne_of_gt (by assumption)); intro h' R' U'; (try dsimp only at R' U' ⊢))
  | (refine' fe_leave_on ?q9k1 ?q9k2 ?q9k3 ?q9k4 ?_; (case q9k3 => assumption); (case q9k1 => assumption); (case q9k4 => assumption); (case q9k2 => assumption); intro h' R' U'; (try dsimp only at R' U' ⊢))))
  (k_with "subscriptTail" => (k_here; (with_reducible show wpAny _ _ (subscriptTail _ _ (Value.str _ _) (Value.int _ _)) _ _ _); (refine item_str (fitsSsize_of (N := 9223372036854775808) (by omega) (by omega) (Int.le_refl _)) (by omega) (by omega) ?_); intro hlen9))
  (k_with "ktr_unf" => repeat' ((fail_if_success (with_reducible show wpAny _ _ (exec (Stmt.While _ _ _ _) _) _ _ _)); first | (k_unfold; (try dsimp only)) | (k_end; wrow_close) | walk1 | (dsimp only; walk1) | (leave1; walk_say "STEP leave1"; try dsimp only) | fail "no step"))
  (k_with "subscriptTail" => (k_here; (with_reducible show wpAny _ _ (subscriptTail _ (Expr.Slice (some _) (some _) none _) (Value.str _ _) (Value.ref _)) _ _ _); (with_reducible rename Fr _ _ _ _ => F'); (with_reducible rename News _ _ _ _ => N'); (refine slice_strN_ss (hsz := ?q9hsz) (s := ⟨_, _, _, _, _⟩) F' N' ?_); (case q9hsz => (rw [sizeLine_eq]; omega)); intro _ _ _ _ _))
  (k_with "k_updF" => first | (refine' UpdF.head ?q9a; (case q9a => k_all)) | (refine' UpdF.tail ?q9a ?q9b; (case q9a => k_ne); (case q9b => k_updF)))
  (k_with "kwd_rel" => first | exact List.forall_mem_nil _ | ((refine' List.forall_mem_cons.mpr ⟨?q9aa, ?q9bb⟩); (case q9aa => k_mem); (case q9bb => kwd_rel)) | (intro p hp; repeat (first | exact hp | refine List.Mem.tail _ ?_)))
  trivial

theorem news_swap {h₀ h : Heap} {L : Addr} {l1 tl rest : List (Addr × Obj)} (N : News h₀ L h (tl ++ (l1 ++ rest))) : News h₀ L h (l1 ++ (tl ++ rest)) := cb_drop N fun p hp => by
  rcases List.mem_append.mp hp with hp | hp
  · exact List.mem_append_right _ (List.mem_append_left _ hp)
  · rcases List.mem_append.mp hp with hp | hp
    · exact List.mem_append_left _ hp
    · exact List.mem_append_right _ (List.mem_append_right _ hp)
theorem find_none {α : Type} {f : α → Bool} {l : List α} {a : α} (h : l.find? f = some a) (e : l.find? f = none) : False := by rw [h] at e; exact nomatch e
theorem off_app {tl rest l : List (Addr × Obj)} {c : Nat} {o : Obj} (h : ∀ x ∈ tl, ∀ y ∈ (c, o) :: l, @LT.lt Nat _ y.1 x.1) (k : ∀ x ∈ rest, x.1 ≠ c) : ∀ p ∈ tl ++ rest, p.1 ≠ c := fun p hp => by
  rcases List.mem_append.mp hp with hp | hp
  · exact Nat.ne_of_gt (h p hp _ (.head _))
  · exact k p hp

theorem chg_lines1 : True := by
  (k_with "call ref" => (k_here; (with_reducible show wpAny _ _ (call (Value.ref 75) _) _ _ _); k_dflt (refine' rets_use2 (len_spec _ _ _ _ _ _ _ ?q9u1 ?q9u2 ?q9u3 ?q9u4 ?q9u5 ?q9u6 ?q9u7 ?q9u8 rfl) ?q9k1 ?q9k2 ?q9k3 ?q9k4 ?q9k5 ?q9k6 ?q9k7 ?q9k8 ?_; (case q9k1 => k_asm); (case q9k2 => k_asm); (case q9k3 => k_asm); (case q9k4 => k_asm); (case q9k5 => k_asm); (case q9k6 => first | exact rfl | assumption); (case q9k7 => ktr_room); (case q9k8 => ktr_units); (case q9u7 => assumption); (case q9u8 => assumption); (case q9u1 => assumption); (case q9u2 => assumption); (case q9u3 => assumption); (case q9u4 => decide); (case q9u5 => assumption); (case q9u6 => assumption)); intro GG9 HH9; (first | refine SameI.out ?_ | refine SameS.out ?_); intro h9 tk9 t9; refine HH9 _ _ _ _ ?_; clear HH9 GG9; intro F9 N9; (try dsimp only)))
  (k_with "call ref" => (k_here; (with_reducible show wpAny _ _ (call (Value.ref 61) _) _ _ _); k_dflt (refine' rets_use (ft1 _ _ _ _ _ _ _ _  ?q9f0 ?q9f1 ?q9f0_0 ?q9f0_1 ?q9f0_2 ?q9f0_3 ?q9f0_4 ?q9f0_5 ?q9fa ?q9fb rfl) ?q9k1 ?q9k2 ?q9k3 ?q9k4 ?q9k5 ?q9k6 ?q9k7 ?q9k8 ?_; (case q9k1 => k_asm); (case q9k2 => k_asm); (case q9k3 => k_asm); (case q9k4 => k_asm); (case q9k5 => k_asm); (case q9k6 => first | exact rfl | assumption); (case q9k7 => ktr_room); (case q9k8 => ktr_units); (case q9f0 => assumption); (case q9f1 => assumption); (case q9f0_0 => assumption); (case q9f0_1 => assumption); (case q9f0_2 => assumption); (case q9f0_3 => assumption); (case q9f0_4 => assumption); (case q9f0_5 => assumption); (case q9fa => assumption); (case q9fb => assumption)); intro r9 n9 h9 tk9 F9 N9 R9; unfold ValR at R9; obtain ⟨a9, tl9, E9, G9, l9, D9⟩ := R9; subst E9 G9; (k_dflt (have N8 := news_swap (l1 := [_, _, _, _, _, _, _, _]) N9)); clear N9; (simp only [List.cons_append, List.nil_append] at N8); (have Z9 := off_app l9 (by assumption)); (try dsimp only)))
  trivial

theorem ch_one : ∀ (w : World) (A : RA) (S : RS) (c : Cont) (rest : List (Addr × Obj)) (d dl T : Str) (td tn ta : Tok) (at' : Int) (k0 v0 a b : Int),
    A.Ok rest → RHolds w rest S c → c.chs.length ≤ 100 → c.D = [(s_ "!", 1), (s_ "%", 3)] → d ≠ s_ "" → d.length ≤ 1 → List.find? (fun a => !!(Builtin.Str.occurrences (s_ "01xzXZ") a 0 (s_ "01xzXZ").length 1).isEmpty) (signs d) = none → Txt.lower d = dl →
    1 ≤ dl.length → dl.length ≤ 3 → dl.length ≤ (1 : Int) → (Txt.mul (s_ "0") (1 - dl.length)).length ≤ 10 → (Txt.mul (Txt.item dl 0) (1 - dl.length)).length ≤ 10 →
    ((Txt.item dl 0 == s_ "1") = true → Txt.mul (s_ "0") (1 - dl.length) ++ dl = T) → ((Txt.item dl 0 == s_ "1") = false → Txt.mul (Txt.item dl 0) (1 - dl.length) ++ dl = T) →
    T.length = 1 → ((T.length : Nat) : Int) - 1 = 0 → Txt.find (Str.ofString "01zxZX?") (Txt.item T 0) = k0 → 0 ≤ k0 → k0 < 7 → [0, 1, 2, 3, 2, 3, 2].getD k0.toNat 0 = v0 → 0 ≤ v0 → v0 ≤ 3 → fcA1 [v0] = a → fcB1 [v0] = b → (Mine.hd.heap_39 w.params = Mine.hd.heap_39 w.params) →
    Rets w 173 [.ref A.rd, .str d td, .str (s_ "!") tn, .int at' ta] 20 200 (led w.params A S ++ rest) (CmdR w A S rest { c with chs := c.chs ++ [.tuple [.int c.now, .str (s_ "!"), .tuple [.int 1, .int a, .int b]]] }) := by
  unfold Rets
  k_fill
  rintro w ⟨rd, drd, wr, dwr, sc, va, wi, ch, r1, r2, r3, rt, d1, d2, d3, d4, d5, d6, d7⟩ ⟨Tx, p, a0, t2, t3, scale, st, now, nt, scv, scn, vav, van, wio, chv, chn⟩ c rest d dl T td tn ta at' k0 v0 xa xb hOk hH hcl eD hne hdn hfi hlow hl1 hl3 hln hm0 hm1 hT1 hT2 hT n9 e0 lo0 hi0 g0 vl0 vh0 hxa hxb _ mean mg mb dp un gd cn cs a ccd cl outer A₀ base h₀ L m s Q E B F X N Tp hk hd hu hret
  subst hlow
  have O := offs hOk
  have hOk' := hOk
  obtain ⟨o1, o2, o3, o4, o5, o6, o7, lo, off⟩ := hOk
  obtain ⟨f1, f2, f3, f4, f5, f6⟩ := O
  have hH' := hH
  obtain ⟨hsc, hno, hscs, hvs, hcs, kvs, hwd, hwf⟩ := hH
  dsimp only at o1 o2 o3 o4 o5 o6 o7 lo off f1 f2 f3 f4 f5 f6 hsc hno hscs hvs hcs hwd hwf
  replace o1 := nl o1; replace o2 := nl o2; replace o3 := nl o3; replace o4 := nl o4; replace o5 := nl o5; replace o6 := nl o6; replace o7 := nl o7
  rw [eD] at hwf
  have hcz : chv.toArray.size ≤ 1000 := by have := hcs.length; simp only [List.size_toArray]; omega
  unfold led rdDict at N
  simp only [List.cons_append, List.nil_append] at N
  refine wpAny_call ?_
  k_dflt ktr_enter
  k_steps
  all_goals first
    | exact absurd (eq_of_beq (by assumption)) hne
    | exact (find_none (by assumption) hfi).elim
    | skip
  (rename ∀ x ∈ _, ∀ y ∈ _, @LT.lt Nat _ _ _ => l9); (rename DatIn _ _ _ => D9); (rename _ ∧ _ => l1); (rename News h₀ L _ _ => N9)
  simp only [List.push_toArray] at N9
  refine' hret .none (led w.params ⟨rd, drd, wr, dwr, sc, va, wi, ch, r1, r2, r3, rt, d1, d2, d3, d4, d5, d6, d7⟩ ⟨Tx, p, a0, t2, t3, scale, st, now, nt, scv, scn, vav, van, wio, chv ++ [_], chn + 1⟩ ++ (((_, _) :: _) ++ rest)) _ _ (by assumption) (cb_drop N9 ?sub) ⟨_, _, ?ok, ⟨hsc, hno, hscs, hvs.mono sub_app, (hcs.mono sub_app).append (.one (.tuple (.head _) (.cons ?nw (.cons (.str _ _) (.cons (D9.mono ?dm) .nil))))), ⟨_, hwd, ?hw⟩⟩, rfl, rfl⟩
  case sub => unfold led rdDict; simp only [List.cons_append, List.nil_append]; kwd_rel
  case nw => rw [← hno]; exact .int _ _
  case dm => exact fun p hp => .tail _ (List.mem_append_left _ hp)
  case hw => dsimp only; rw [eD]; exact hwf
  case ok =>
    refine ok_more hOk' fun x hx => ?_
    rcases List.mem_cons.mp hx with rfl | hx
    · exact l1.1
    · exact l9 x hx _ (.head _)

theorem chg_lines2 : True := by
  (k_with "call ref" => (k_here; (with_reducible show wpAny _ _ (call (Value.ref 75) _) _ _ _); k_dflt (refine' rets_use2 (len_spec _ _ _ _ _ _ _ ?q9u1 ?q9u2 ?q9u3 ?q9u4 ?q9u5 ?q9u6 ?q9u7 ?q9u8 rfl) ?q9k1 ?q9k2 ?q9k3 ?q9k4 ?q9k5 ?q9k6 ?q9k7 ?q9k8 ?_; (case q9k1 => k_asm); (case q9k2 => k_asm); (case q9k3 => k_asm); (case q9k4 => k_asm); (case q9k5 => k_asm); (case q9k6 => first | exact rfl | assumption); (case q9k7 => ktr_room); (case q9k8 => ktr_units); (case q9u7 => assumption); (case q9u8 => assumption); (case q9u1 => assumption); (case q9u2 => assumption); (case q9u3 => assumption); (case q9u4 => decide); (case q9u5 => assumption); (case q9u6 => assumption)); intro GG9 HH9; (first | refine SameI.out ?_ | refine SameS.out ?_); intro h9 tk9 t9; refine HH9 _ _ _ _ ?_; clear HH9 GG9; intro F9 N9; (try dsimp only)))
  (k_with "call ref" => (k_here; (with_reducible show wpAny _ _ (call (Value.ref 61) _) _ _ _); k_dflt (refine' rets_use (ft3 _ _ _ _ _ _ _ _ _ _ _ _  ?q9f0 ?q9f1 ?q9f0_0 ?q9f0_1 ?q9f0_2 ?q9f0_3 ?q9f0_4 ?q9f0_5 ?q9f1_0 ?q9f1_1 ?q9f1_2 ?q9f1_3 ?q9f1_4 ?q9f1_5 ?q9f2_0 ?q9f2_1 ?q9f2_2 ?q9f2_3 ?q9f2_4 ?q9f2_5 ?q9fa ?q9fb rfl) ?q9k1 ?q9k2 ?q9k3 ?q9k4 ?q9k5 ?q9k6 ?q9k7 ?q9k8 ?_; (case q9k1 => k_asm); (case q9k2 => k_asm); (case q9k3 => k_asm); (case q9k4 => k_asm); (case q9k5 => k_asm); (case q9k6 => first | exact rfl | assumption); (case q9k7 => ktr_room); (case q9k8 => ktr_units); (case q9f0 => assumption); (case q9f1 => assumption); (case q9f0_0 => assumption); (case q9f0_1 => assumption); (case q9f0_2 => assumption); (case q9f0_3 => assumption); (case q9f0_4 => assumption); (case q9f0_5 => assumption); (case q9f1_0 => assumption); (case q9f1_1 => assumption); (case q9f1_2 => assumption); (case q9f1_3 => assumption); (case q9f1_4 => assumption); (case q9f1_5 => assumption); (case q9f2_0 => assumption); (case q9f2_1 => assumption); (case q9f2_2 => assumption); (case q9f2_3 => assumption); (case q9f2_4 => assumption); (case q9f2_5 => assumption); (case q9fa => assumption); (case q9fb => assumption)); intro r9 n9 h9 tk9 F9 N9 R9; unfold ValR at R9; obtain ⟨a9, tl9, E9, G9, l9, D9⟩ := R9; subst E9 G9; (k_dflt (have N8 := news_swap (l1 := [_, _, _, _, _, _, _, _]) N9)); clear N9; (simp only [List.cons_append, List.nil_append] at N8); (have Z9 := off_app l9 (by assumption)); (try dsimp only)))
  trivial

theorem ch_three : ∀ (w : World) (A : RA) (S : RS) (c : Cont) (rest : List (Addr × Obj)) (d dl T : Str) (td tn ta : Tok) (at' : Int) (k0 v0 k1 v1 k2 v2 a b : Int),
    A.Ok rest → RHolds w rest S c → c.chs.length ≤ 100 → c.D = [(s_ "!", 1), (s_ "%", 3)] → d ≠ s_ "" → d.length ≤ 3 → List.find? (fun a => !!(Builtin.Str.occurrences (s_ "01xzXZ") a 0 (s_ "01xzXZ").length 1).isEmpty) (signs d) = none → Txt.lower d = dl →
    1 ≤ dl.length → dl.length ≤ 3 → dl.length ≤ (3 : Int) → (Txt.mul (s_ "0") (3 - dl.length)).length ≤ 10 → (Txt.mul (Txt.item dl 0) (3 - dl.length)).length ≤ 10 →
    ((Txt.item dl 0 == s_ "1") = true → Txt.mul (s_ "0") (3 - dl.length) ++ dl = T) → ((Txt.item dl 0 == s_ "1") = false → Txt.mul (Txt.item dl 0) (3 - dl.length) ++ dl = T) →
    T.length = 3 → ((T.length : Nat) : Int) - 1 = 2 → Txt.find (Str.ofString "01zxZX?") (Txt.item T 0) = k0 → 0 ≤ k0 → k0 < 7 → [0, 1, 2, 3, 2, 3, 2].getD k0.toNat 0 = v0 → 0 ≤ v0 → v0 ≤ 3 → Txt.find (Str.ofString "01zxZX?") (Txt.item T 1) = k1 → 0 ≤ k1 → k1 < 7 → [0, 1, 2, 3, 2, 3, 2].getD k1.toNat 0 = v1 → 0 ≤ v1 → v1 ≤ 3 → Txt.find (Str.ofString "01zxZX?") (Txt.item T 2) = k2 → 0 ≤ k2 → k2 < 7 → [0, 1, 2, 3, 2, 3, 2].getD k2.toNat 0 = v2 → 0 ≤ v2 → v2 ≤ 3 → fcA3 [v2, v1, v0] = a → fcB3 [v2, v1, v0] = b → (Mine.hd.heap_39 w.params = Mine.hd.heap_39 w.params) →
    Rets w 173 [.ref A.rd, .str d td, .str (s_ "%") tn, .int at' ta] 20 200 (led w.params A S ++ rest) (CmdR w A S rest { c with chs := c.chs ++ [.tuple [.int c.now, .str (s_ "%"), .tuple [.int 3, .int a, .int b]]] }) := by
  unfold Rets
  k_fill
  rintro w ⟨rd, drd, wr, dwr, sc, va, wi, ch, r1, r2, r3, rt, d1, d2, d3, d4, d5, d6, d7⟩ ⟨Tx, p, a0, t2, t3, scale, st, now, nt, scv, scn, vav, van, wio, chv, chn⟩ c rest d dl T td tn ta at' k0 v0 k1 v1 k2 v2 xa xb hOk hH hcl eD hne hdn hfi hlow hl1 hl3 hln hm0 hm1 hT1 hT2 hT n9 e0 lo0 hi0 g0 vl0 vh0 e1 lo1 hi1 g1 vl1 vh1 e2 lo2 hi2 g2 vl2 vh2 hxa hxb _ mean mg mb dp un gd cn cs a ccd cl outer A₀ base h₀ L m s Q E B F X N Tp hk hd hu hret
  subst hlow
  have O := offs hOk
  have hOk' := hOk
  obtain ⟨o1, o2, o3, o4, o5, o6, o7, lo, off⟩ := hOk
  obtain ⟨f1, f2, f3, f4, f5, f6⟩ := O
  have hH' := hH
  obtain ⟨hsc, hno, hscs, hvs, hcs, kvs, hwd, hwf⟩ := hH
  dsimp only at o1 o2 o3 o4 o5 o6 o7 lo off f1 f2 f3 f4 f5 f6 hsc hno hscs hvs hcs hwd hwf
  replace o1 := nl o1; replace o2 := nl o2; replace o3 := nl o3; replace o4 := nl o4; replace o5 := nl o5; replace o6 := nl o6; replace o7 := nl o7
  rw [eD] at hwf
  have hcz : chv.toArray.size ≤ 1000 := by have := hcs.length; simp only [List.size_toArray]; omega
  unfold led rdDict at N
  simp only [List.cons_append, List.nil_append] at N
  refine wpAny_call ?_
  k_dflt ktr_enter
  k_steps
  all_goals first
    | exact absurd (eq_of_beq (by assumption)) hne
    | exact (find_none (by assumption) hfi).elim
    | skip
  (rename ∀ x ∈ _, ∀ y ∈ _, @LT.lt Nat _ _ _ => l9); (rename DatIn _ _ _ => D9); (rename _ ∧ _ => l1); (rename News h₀ L _ _ => N9)
  simp only [List.push_toArray] at N9
  refine' hret .none (led w.params ⟨rd, drd, wr, dwr, sc, va, wi, ch, r1, r2, r3, rt, d1, d2, d3, d4, d5, d6, d7⟩ ⟨Tx, p, a0, t2, t3, scale, st, now, nt, scv, scn, vav, van, wio, chv ++ [_], chn + 1⟩ ++ (((_, _) :: _) ++ rest)) _ _ (by assumption) (cb_drop N9 ?sub) ⟨_, _, ?ok, ⟨hsc, hno, hscs, hvs.mono sub_app, (hcs.mono sub_app).append (.one (.tuple (.head _) (.cons ?nw (.cons (.str _ _) (.cons (D9.mono ?dm) .nil))))), ⟨_, hwd, ?hw⟩⟩, rfl, rfl⟩
  case sub => unfold led rdDict; simp only [List.cons_append, List.nil_append]; kwd_rel
  case nw => rw [← hno]; exact .int _ _
  case dm => exact fun p hp => .tail _ (List.mem_append_left _ hp)
  case hw => dsimp only; rw [eD]; exact hwf
  case ok =>
    refine ok_more hOk' fun x hx => ?_
    rcases List.mem_cons.mp hx with rfl | hx
    · exact l1.1
    · exact l9 x hx _ (.head _)


end Mine
end
section
open PySem PySem.W PySem.Calls PyProof.Rows PyProof.V PySem.Spec
set_option maxHeartbeats 20000000
namespace Mine
theorem chi_lines0 : True := by
  k_with_none
  (k_with "k_room" => ktr_room)
  (k_with "k_all" => assumption)
  (k_with "ktr_rel" => first | assumption | rfl | ((refine (if_neg (by decide)).trans ?_); ktr_rel))
  (k_with "eval Name" => (k_here; k_dflt (refine' ld ?q9k1 ?q9k2 ?_; (case q9k1 => k_asm); (case q9k2 => first | assumption | rfl | ((refine (if_neg (by decide)).trans ?_); first | assumption | ktr_rel)); k_whole)))
  (k_with "exec Raise some none" => (k_here; with_reducible refine fe_raise rfl ?_))
  (k_with "call ref" => (k_here; (with_reducible show wpAny _ _ (call (Value.ref 45) _) _ _ _); k_dflt (first
  | (refine' rets_use2 (fe_make _ _ _ _ _ _ _ _ rfl) ?q9k1 ?q9k2 ?q9k3 ?q9k4 ?q9k5 ?q9k6 ?q9k7 ?q9k8 ?_; (case q9k1 => k_asm); (case q9k2 => k_asm); (case q9k3 => k_asm); (case q9k4 => k_asm); (case q9k5 => k_asm); (case q9k6 => first | exact rfl | assumption); (case q9k7 => ktr_room); (case q9k8 => ktr_units))
  | (refine' rets_use2 (fe_make2 _ _ _ _ _ _ rfl) ?q9k1 ?q9k2 ?q9k3 ?q9k4 ?q9k5 ?q9k6 ?q9k7 ?q9k8 ?_; (case q9k1 => k_asm); (case q9k2 => k_asm); (case q9k3 => k_asm); (case q9k4 => k_asm); (case q9k5 => k_asm); (case q9k6 => first | exact rfl | assumption); (case q9k7 => ktr_room); (case q9k8 => ktr_units))); intro GG9 HH9; refine FeMade.out ?_; intro h9 tk9 e9 d9 p9 _ _ _ _ _ _ l9 m9; refine HH9 _ _ _ _ ?_; clear HH9 GG9; intro F9 N9; (try dsimp only)))
  (k_with "Exists" => (k_here; refine ⟨_, _, _, rfl, by k_in, News.get (by k_asm) (List.Mem.tail _ (List.Mem.head _)), ?_⟩; (try dsimp only)))
  (k_with "leaving ref" => (k_here; first
  | (refine' fe_leave_first ?q9k1 ?q9k2 ?q9k3 ?q9k4 ?q9k5 ?_; (case q9k1 => assumption); (case q9k2 => k_asm); (case q9k3 => k_asm); (case q9k4 => (intro p hp; exact Nat.ne_of_lt (by (first | exact l9 p hp | (rename ∀ p ∈ _, @LT.lt Nat _ _ _ => l9; exact l9 p hp))))); (case q9k5 => exact Nat.ne_of_gt (by assumption)); intro h' R' U'; (try dsimp only at R' U' ⊢))
  | (refine' fe_leave_on ?q9k1 ?q9k2 ?q9k3 ?q9k4 ?_; (case q9k3 => assumption); (case q9k1 => assumption); (case q9k4 => assumption); (case q9k2 => assumption); intro h' R' U'; (try dsimp only at R' U' ⊢))))
  (k_with "subscriptTail" => (k_here; (with_reducible show wpAny _ _ (subscriptTail _ _ (Value.str _ _) (Value.int _ _)) _ _ _); (refine item_str (fitsSsize_of (N := 9223372036854775808) (by omega) (by omega) (Int.le_refl _)) (by omega) (by omega) ?_); intro hlen9))
  (k_with "ktr_unf" => repeat' ((fail_if_success (with_reducible show wpAny _ _ (exec (Stmt.While _ _ _ _) _) _ _ _)); first | (k_unfold; (try dsimp only)) | (k_end; wrow_close) | walk1 | (dsimp only; walk1) | (leave1; walk_say "STEP leave1"; try dsimp only) | fail "no step"))
  (k_with "subscriptTail" => (k_here; (with_reducible show wpAny _ _ (subscriptTail _ (Expr.Slice (some _) (some _) none _) (Value.str _ _) (Value.ref _)) _ _ _); (with_reducible rename Fr _ _ _ _ => F'); (with_reducible rename News _ _ _ _ => N'); (refine slice_strN_ss (hsz := ?q9hsz) (s := ⟨_, _, _, _, _⟩) F' N' ?_); (case q9hsz => (rw [sizeLine_eq]; omega)); intro _ _ _ _ _))
  (k_with "k_updF" => first | (refine' UpdF.head ?q9a; (case q9a => k_all)) | (refine' UpdF.tail ?q9a ?q9b; (case q9a => k_ne); (case q9b => k_updF)))
  (k_with "kwd_rel" => first | exact List.forall_mem_nil _ | ((refine' List.forall_mem_cons.mpr ⟨?q9aa, ?q9bb⟩); (case q9aa => k_mem); (case q9bb => kwd_rel)) | (intro p hp; repeat (first | exact hp | refine List.Mem.tail _ ?_)))
  trivial

/-- the changes of a sound dump: digits, name, value -/
inductive Dig : Str → Str → Dat → Prop
  | g0 : Dig (s_ "1") (s_ "!") (.tuple [.int 1, .int 1, .int 0])
  | g1 : Dig (s_ "x") (s_ "!") (.tuple [.int 1, .int 1, .int 1])
  | g2 : Dig (s_ "0") (s_ "!") (.tuple [.int 1, .int 0, .int 0])
  | g3 : Dig (s_ "10") (s_ "%") (.tuple [.int 3, .int 2, .int 0])
  | g4 : Dig (s_ "x") (s_ "%") (.tuple [.int 3, .int 7, .int 7])
  | g5 : Dig (s_ "z1") (s_ "%") (.tuple [.int 3, .int 1, .int 6])
  | g6 : Dig (s_ "0") (s_ "%") (.tuple [.int 3, .int 0, .int 0])
  | g7 : Dig (s_ "1X0") (s_ "%") (.tuple [.int 3, .int 6, .int 2])
  | g8 : Dig (s_ "Z") (s_ "%") (.tuple [.int 3, .int 0, .int 7])
  | g9 : Dig (s_ "111") (s_ "%") (.tuple [.int 3, .int 7, .int 0])

theorem ch_good : ∀ (w : World) (A : RA) (S : RS) (c : Cont) (rest : List (Addr × Obj)) (d nm : Str) (v : Dat) (td tn ta : Tok) (at' : Int), Dig d nm v → A.Ok rest → RHolds w rest S c → c.chs.length ≤ 100 → c.D = [(s_ "!", 1), (s_ "%", 3)] →
    Rets w 173 [.ref A.rd, .str d td, .str nm tn, .int at' ta] 20 200 (led w.params A S ++ rest) (CmdR w A S rest { c with chs := c.chs ++ [.tuple [.int c.now, .str nm, v]] }) := by
  intro w A S c rest d nm v td tn ta at' hG hOk hH hc hD
  cases hG
  case g0 =>
    exact ch_one w A S c rest (s_ "1") (s_ "1") (s_ "1") td tn ta at' 1 1 1 0 hOk hH hc hD (by decide +kernel) (by decide +kernel) (by decide +kernel) (by decide +kernel) (by decide +kernel) (by decide +kernel) (by decide +kernel) (by decide +kernel) (by decide +kernel) (by first | (intro _; decide +kernel) | (intro h; exact absurd h (by decide +kernel))) (by first | (intro _; decide +kernel) | (intro h; exact absurd h (by decide +kernel))) (by decide +kernel) (by decide +kernel) (by decide +kernel) (by decide +kernel) (by decide +kernel) (by decide +kernel) (by decide +kernel) (by decide +kernel) (by decide +kernel) (by decide +kernel) rfl
  case g1 =>
    exact ch_one w A S c rest (s_ "x") (s_ "x") (s_ "x") td tn ta at' 3 3 1 1 hOk hH hc hD (by decide +kernel) (by decide +kernel) (by decide +kernel) (by decide +kernel) (by decide +kernel) (by decide +kernel) (by decide +kernel) (by decide +kernel) (by decide +kernel) (by first | (intro _; decide +kernel) | (intro h; exact absurd h (by decide +kernel))) (by first | (intro _; decide +kernel) | (intro h; exact absurd h (by decide +kernel))) (by decide +kernel) (by decide +kernel) (by decide +kernel) (by decide +kernel) (by decide +kernel) (by decide +kernel) (by decide +kernel) (by decide +kernel) (by decide +kernel) (by decide +kernel) rfl
  case g2 =>
    exact ch_one w A S c rest (s_ "0") (s_ "0") (s_ "0") td tn ta at' 0 0 0 0 hOk hH hc hD (by decide +kernel) (by decide +kernel) (by decide +kernel) (by decide +kernel) (by decide +kernel) (by decide +kernel) (by decide +kernel) (by decide +kernel) (by decide +kernel) (by first | (intro _; decide +kernel) | (intro h; exact absurd h (by decide +kernel))) (by first | (intro _; decide +kernel) | (intro h; exact absurd h (by decide +kernel))) (by decide +kernel) (by decide +kernel) (by decide +kernel) (by decide +kernel) (by decide +kernel) (by decide +kernel) (by decide +kernel) (by decide +kernel) (by decide +kernel) (by decide +kernel) rfl
  case g3 =>
    exact ch_three w A S c rest (s_ "10") (s_ "10") (s_ "010") td tn ta at' 0 0 1 1 0 0 2 0 hOk hH hc hD (by decide +kernel) (by decide +kernel) (by decide +kernel) (by decide +kernel) (by decide +kernel) (by decide +kernel) (by decide +kernel) (by decide +kernel) (by decide +kernel) (by first | (intro _; decide +kernel) | (intro h; exact absurd h (by decide +kernel))) (by first | (intro _; decide +kernel) | (intro h; exact absurd h (by decide +kernel))) (by decide +kernel) (by decide +kernel) (by decide +kernel) (by decide +kernel) (by decide +kernel) (by decide +kernel) (by decide +kernel) (by decide +kernel) (by decide +kernel) (by decide +kernel) (by decide +kernel) (by decide +kernel) (by decide +kernel) (by decide +kernel) (by decide +kernel) (by decide +kernel) (by decide +kernel) (by decide +kernel) (by decide +kernel) (by decide +kernel) (by decide +kernel) (by decide +kernel) rfl
  case g4 =>
    exact ch_three w A S c rest (s_ "x") (s_ "x") (s_ "xxx") td tn ta at' 3 3 3 3 3 3 7 7 hOk hH hc hD (by decide +kernel) (by decide +kernel) (by decide +kernel) (by decide +kernel) (by decide +kernel) (by decide +kernel) (by decide +kernel) (by decide +kernel) (by decide +kernel) (by first | (intro _; decide +kernel) | (intro h; exact absurd h (by decide +kernel))) (by first | (intro _; decide +kernel) | (intro h; exact absurd h (by decide +kernel))) (by decide +kernel) (by decide +kernel) (by decide +kernel) (by decide +kernel) (by decide +kernel) (by decide +kernel) (by decide +kernel) (by decide +kernel) (by decide +kernel) (by decide +kernel) (by decide +kernel) (by decide +kernel) (by decide +kernel) (by decide +kernel) (by decide +kernel) (by decide +kernel) (by decide +kernel) (by decide +kernel) (by decide +kernel) (by decide +kernel) (by decide +kernel) (by decide +kernel) rfl
  case g5 =>
    exact ch_three w A S c rest (s_ "z1") (s_ "z1") (s_ "zz1") td tn ta at' 2 2 2 2 1 1 1 6 hOk hH hc hD (by decide +kernel) (by decide +kernel) (by decide +kernel) (by decide +kernel) (by decide +kernel) (by decide +kernel) (by decide +kernel) (by decide +kernel) (by decide +kernel) (by first | (intro _; decide +kernel) | (intro h; exact absurd h (by decide +kernel))) (by first | (intro _; decide +kernel) | (intro h; exact absurd h (by decide +kernel))) (by decide +kernel) (by decide +kernel) (by decide +kernel) (by decide +kernel) (by decide +kernel) (by decide +kernel) (by decide +kernel) (by decide +kernel) (by decide +kernel) (by decide +kernel) (by decide +kernel) (by decide +kernel) (by decide +kernel) (by decide +kernel) (by decide +kernel) (by decide +kernel) (by decide +kernel) (by decide +kernel) (by decide +kernel) (by decide +kernel) (by decide +kernel) (by decide +kernel) rfl
  case g6 =>
    exact ch_three w A S c rest (s_ "0") (s_ "0") (s_ "000") td tn ta at' 0 0 0 0 0 0 0 0 hOk hH hc hD (by decide +kernel) (by decide +kernel) (by decide +kernel) (by decide +kernel) (by decide +kernel) (by decide +kernel) (by decide +kernel) (by decide +kernel) (by decide +kernel) (by first | (intro _; decide +kernel) | (intro h; exact absurd h (by decide +kernel))) (by first | (intro _; decide +kernel) | (intro h; exact absurd h (by decide +kernel))) (by decide +kernel) (by decide +kernel) (by decide +kernel) (by decide +kernel) (by decide +kernel) (by decide +kernel) (by decide +kernel) (by decide +kernel) (by decide +kernel) (by decide +kernel) (by decide +kernel) (by decide +kernel) (by decide +kernel) (by decide +kernel) (by decide +kernel) (by decide +kernel) (by decide +kernel) (by decide +kernel) (by decide +kernel) (by decide +kernel) (by decide +kernel) (by decide +kernel) rfl
  case g7 =>
    exact ch_three w A S c rest (s_ "1X0") (s_ "1x0") (s_ "1x0") td tn ta at' 1 1 3 3 0 0 6 2 hOk hH hc hD (by decide +kernel) (by decide +kernel) (by decide +kernel) (by decide +kernel) (by decide +kernel) (by decide +kernel) (by decide +kernel) (by decide +kernel) (by decide +kernel) (by first | (intro _; decide +kernel) | (intro h; exact absurd h (by decide +kernel))) (by first | (intro _; decide +kernel) | (intro h; exact absurd h (by decide +kernel))) (by decide +kernel) (by decide +kernel) (by decide +kernel) (by decide +kernel) (by decide +kernel) (by decide +kernel) (by decide +kernel) (by decide +kernel) (by decide +kernel) (by decide +kernel) (by decide +kernel) (by decide +kernel) (by decide +kernel) (by decide +kernel) (by decide +kernel) (by decide +kernel) (by decide +kernel) (by decide +kernel) (by decide +kernel) (by decide +kernel) (by decide +kernel) (by decide +kernel) rfl
  case g8 =>
    exact ch_three w A S c rest (s_ "Z") (s_ "z") (s_ "zzz") td tn ta at' 2 2 2 2 2 2 0 7 hOk hH hc hD (by decide +kernel) (by decide +kernel) (by decide +kernel) (by decide +kernel) (by decide +kernel) (by decide +kernel) (by decide +kernel) (by decide +kernel) (by decide +kernel) (by first | (intro _; decide +kernel) | (intro h; exact absurd h (by decide +kernel))) (by first | (intro _; decide +kernel) | (intro h; exact absurd h (by decide +kernel))) (by decide +kernel) (by decide +kernel) (by decide +kernel) (by decide +kernel) (by decide +kernel) (by decide +kernel) (by decide +kernel) (by decide +kernel) (by decide +kernel) (by decide +kernel) (by decide +kernel) (by decide +kernel) (by decide +kernel) (by decide +kernel) (by decide +kernel) (by decide +kernel) (by decide +kernel) (by decide +kernel) (by decide +kernel) (by decide +kernel) (by decide +kernel) (by decide +kernel) rfl
  case g9 =>
    exact ch_three w A S c rest (s_ "111") (s_ "111") (s_ "111") td tn ta at' 1 1 1 1 1 1 7 0 hOk hH hc hD (by decide +kernel) (by decide +kernel) (by decide +kernel) (by decide +kernel) (by decide +kernel) (by decide +kernel) (by decide +kernel) (by decide +kernel) (by decide +kernel) (by first | (intro _; decide +kernel) | (intro h; exact absurd h (by decide +kernel))) (by first | (intro _; decide +kernel) | (intro h; exact absurd h (by decide +kernel))) (by decide +kernel) (by decide +kernel) (by decide +kernel) (by decide +kernel) (by decide +kernel) (by decide +kernel) (by decide +kernel) (by decide +kernel) (by decide +kernel) (by decide +kernel) (by decide +kernel) (by decide +kernel) (by decide +kernel) (by decide +kernel) (by decide +kernel) (by decide +kernel) (by decide +kernel) (by decide +kernel) (by decide +kernel) (by decide +kernel) (by decide +kernel) (by decide +kernel) rfl


end Mine
end
section
open PySem PySem.W PySem.Calls PyProof.Rows PyProof.V PySem.Spec
set_option maxHeartbeats 20000000
namespace Mine
theorem chb_lines0 : True := by
  k_with_none
  (k_with "k_room" => ktr_room)
  (k_with "k_all" => assumption)
  (k_with "ktr_rel" => first | assumption | rfl | ((refine (if_neg (by decide)).trans ?_); ktr_rel))
  (k_with "eval Name" => (k_here; k_dflt (refine' ld ?q9k1 ?q9k2 ?_; (case q9k1 => k_asm); (case q9k2 => first | assumption | rfl | ((refine (if_neg (by decide)).trans ?_); first | assumption | ktr_rel)); k_whole)))
  (k_with "exec Raise some none" => (k_here; with_reducible refine fe_raise rfl ?_))
  (k_with "call ref" => (k_here; (with_reducible show wpAny _ _ (call (Value.ref 45) _) _ _ _); k_dflt (first
  | (refine' rets_use2 (fe_make _ _ _ _ _ _ _ _ rfl) ?q9k1 ?q9k2 ?q9k3 ?q9k4 ?q9k5 ?q9k6 ?q9k7 ?q9k8 ?_; (case q9k1 => k_asm); (case q9k2 => k_asm); (case q9k3 => k_asm); (case q9k4 => k_asm); (case q9k5 => k_asm); (case q9k6 => first | exact rfl | assumption); (case q9k7 => ktr_room); (case q9k8 => ktr_units))
  | (refine' rets_use2 (fe_make2 _ _ _ _ _ _ rfl) ?q9k1 ?q9k2 ?q9k3 ?q9k4 ?q9k5 ?q9k6 ?q9k7 ?q9k8 ?_; (case q9k1 => k_asm); (case q9k2 => k_asm); (case q9k3 => k_asm); (case q9k4 => k_asm); (case q9k5 => k_asm); (case q9k6 => first | exact rfl | assumption); (case q9k7 => ktr_room); (case q9k8 => ktr_units))); intro GG9 HH9; refine FeMade.out ?_; intro h9 tk9 e9 d9 p9 _ _ _ _ _ _ l9 m9; refine HH9 _ _ _ _ ?_; clear HH9 GG9; intro F9 N9; (try dsimp only)))
  (k_with "Exists" => (k_here; refine ⟨_, _, _, rfl, by k_in, News.get (by k_asm) (List.Mem.tail _ (List.Mem.head _)), ?_⟩; (try dsimp only)))
  (k_with "leaving ref" => (k_here; first
  | (refine' fe_leave_first ?q9k1 ?q9k2 ?q9k3 ?q9k4 ?q9k5 ?_; (case q9k1 => assumption); (case q9k2 => k_asm); (case q9k3 => k_asm); (case q9k4 => (intro p hp; exact Nat.ne_of_lt (by (first | exact l9 p hp | (rename ∀ p ∈ _, @LT.lt Nat _ _ _ => l9; exact l9 p hp))))); (case q9k5 => exact Nat.ne_of_gt (by assumption)); intro h' R' U'; (try dsimp only at R' U' ⊢))
  | (refine' fe_leave_on ?q9k1 ?q9k2 ?q9k3 ?q9k4 ?_; (case q9k3 => assumption); (case q9k1 => assumption); (case q9k4 => assumption); (case q9k2 => assumption); intro h' R' U'; (try dsimp only at R' U' ⊢))))
  (k_with "subscriptTail" => (k_here; (with_reducible show wpAny _ _ (subscriptTail _ _ (Value.str _ _) (Value.int _ _)) _ _ _); (refine item_str (fitsSsize_of (N := 9223372036854775808) (by omega) (by omega) (Int.le_refl _)) (by omega) (by omega) ?_); intro hlen9))
  (k_with "ktr_unf" => repeat' ((fail_if_success (with_reducible show wpAny _ _ (exec (Stmt.While _ _ _ _) _) _ _ _)); first | (k_unfold; (try dsimp only)) | (k_end; wrow_close) | walk1 | (dsimp only; walk1) | (leave1; walk_say "STEP leave1"; try dsimp only) | fail "no step"))
  (k_with "subscriptTail" => (k_here; (with_reducible show wpAny _ _ (subscriptTail _ (Expr.Slice (some _) (some _) none _) (Value.str _ _) (Value.ref _)) _ _ _); (with_reducible rename Fr _ _ _ _ => F'); (with_reducible rename News _ _ _ _ => N'); (refine slice_strN_ss (hsz := ?q9hsz) (s := ⟨_, _, _, _, _⟩) F' N' ?_); (case q9hsz => (rw [sizeLine_eq]; omega)); intro _ _ _ _ _))
  (k_with "k_updF" => first | (refine' UpdF.head ?q9a; (case q9a => k_all)) | (refine' UpdF.tail ?q9a ?q9b; (case q9a => k_ne); (case q9b => k_updF)))
  (k_with "kwd_rel" => first | exact List.forall_mem_nil _ | ((refine' List.forall_mem_cons.mpr ⟨?q9aa, ?q9bb⟩); (case q9aa => k_mem); (case q9bb => kwd_rel)) | (intro p hp; repeat (first | exact hp | refine List.Mem.tail _ ?_)))
  trivial

theorem chb_unk : ∀ (w : World) (A : RA) (S : RS) (c : Cont) (rest : List (Addr × Obj)) (td tn ta : Tok) (at' : Int),
    A.Ok rest → RHolds w rest S c → c.D = [(s_ "!", 1), (s_ "%", 3)] → (Mine.hd.heap_39 w.params = Mine.hd.heap_39 w.params) →
    Raises w 173 [.ref A.rd, .str (s_ "1") td, .str (s_ "~~") tn, .int at' ta] 20 200 (led w.params A S ++ rest) rest (s_ "unknown_id") at' (s_ "~~") := by
  unfold Raises
  k_fill
  rintro w ⟨rd, drd, wr, dwr, sc, va, wi, ch, r1, r2, r3, rt, d1, d2, d3, d4, d5, d6, d7⟩ ⟨Tx, p, a0, t2, t3, scale, st, now, nt, scv, scn, vav, van, wio, chv, chn⟩ c rest td tn ta at' hOk hH eD _ mean mg mb dp un gd cn cs a ccd cl outer A₀ base h₀ L m s Q E B F X N Tp hk hd hu hret
  obtain ⟨o1, o2, o3, o4, o5, o6, o7, lo, off⟩ := hOk
  obtain ⟨hsc, hno, hscs, hvs, hcs, kvs, hwd, hwf⟩ := hH
  dsimp only at o1 o2 o3 o4 o5 o6 o7 lo off hsc hno hscs hvs hcs hwd hwf
  replace o1 := nl o1; replace o2 := nl o2; replace o3 := nl o3; replace o4 := nl o4; replace o5 := nl o5; replace o6 := nl o6; replace o7 := nl o7
  rw [eD] at hwf
  unfold led rdDict at N
  simp only [List.cons_append, List.nil_append] at N
  refine wpAny_call ?_
  k_dflt ktr_enter
  k_steps
  all_goals first
    | exact (all_no (by assumption) (by decide +kernel)).elim
    | exact hret _ _ _ _ (by assumption) (by assumption) (FErr.drop (by assumption) (by intro p hp; repeat (first | exact hp | (with_reducible refine List.mem_append_right _ ?_) | refine List.Mem.tail _ ?_)))

theorem chb_emp : ∀ (w : World) (A : RA) (S : RS) (c : Cont) (rest : List (Addr × Obj)) (td tn ta : Tok) (at' : Int),
    A.Ok rest → RHolds w rest S c → c.D = [(s_ "!", 1), (s_ "%", 3)] → (Mine.hd.heap_39 w.params = Mine.hd.heap_39 w.params) →
    Raises w 173 [.ref A.rd, .str (s_ "1") td, .str (s_ "") tn, .int at' ta] 20 200 (led w.params A S ++ rest) rest (s_ "unknown_id") at' (s_ "") := by
  unfold Raises
  k_fill
  rintro w ⟨rd, drd, wr, dwr, sc, va, wi, ch, r1, r2, r3, rt, d1, d2, d3, d4, d5, d6, d7⟩ ⟨Tx, p, a0, t2, t3, scale, st, now, nt, scv, scn, vav, van, wio, chv, chn⟩ c rest td tn ta at' hOk hH eD _ mean mg mb dp un gd cn cs a ccd cl outer A₀ base h₀ L m s Q E B F X N Tp hk hd hu hret
  obtain ⟨o1, o2, o3, o4, o5, o6, o7, lo, off⟩ := hOk
  obtain ⟨hsc, hno, hscs, hvs, hcs, kvs, hwd, hwf⟩ := hH
  dsimp only at o1 o2 o3 o4 o5 o6 o7 lo off hsc hno hscs hvs hcs hwd hwf
  replace o1 := nl o1; replace o2 := nl o2; replace o3 := nl o3; replace o4 := nl o4; replace o5 := nl o5; replace o6 := nl o6; replace o7 := nl o7
  rw [eD] at hwf
  unfold led rdDict at N
  simp only [List.cons_append, List.nil_append] at N
  refine wpAny_call ?_
  k_dflt ktr_enter
  k_steps
  all_goals first
    | exact (all_no (by assumption) (by decide +kernel)).elim
    | exact hret _ _ _ _ (by assumption) (by assumption) (FErr.drop (by assumption) (by intro p hp; repeat (first | exact hp | (with_reducible refine List.mem_append_right _ ?_) | refine List.Mem.tail _ ?_)))

theorem chb_wid : ∀ (w : World) (A : RA) (S : RS) (c : Cont) (rest : List (Addr × Obj)) (td tn ta : Tok) (at' : Int),
    A.Ok rest → RHolds w rest S c → c.D = [(s_ "!", 1), (s_ "%", 3)] → (Mine.hd.heap_39 w.params = Mine.hd.heap_39 w.params) →
    Raises w 173 [.ref A.rd, .str (s_ "1010") td, .str (s_ "%") tn, .int at' ta] 20 200 (led w.params A S ++ rest) rest (s_ "wrong_width") at' (s_ "%") := by
  unfold Raises
  k_fill
  rintro w ⟨rd, drd, wr, dwr, sc, va, wi, ch, r1, r2, r3, rt, d1, d2, d3, d4, d5, d6, d7⟩ ⟨Tx, p, a0, t2, t3, scale, st, now, nt, scv, scn, vav, van, wio, chv, chn⟩ c rest td tn ta at' hOk hH eD _ mean mg mb dp un gd cn cs a ccd cl outer A₀ base h₀ L m s Q E B F X N Tp hk hd hu hret
  obtain ⟨o1, o2, o3, o4, o5, o6, o7, lo, off⟩ := hOk
  obtain ⟨hsc, hno, hscs, hvs, hcs, kvs, hwd, hwf⟩ := hH
  dsimp only at o1 o2 o3 o4 o5 o6 o7 lo off hsc hno hscs hvs hcs hwd hwf
  replace o1 := nl o1; replace o2 := nl o2; replace o3 := nl o3; replace o4 := nl o4; replace o5 := nl o5; replace o6 := nl o6; replace o7 := nl o7
  rw [eD] at hwf
  unfold led rdDict at N
  simp only [List.cons_append, List.nil_append] at N
  refine wpAny_call ?_
  k_dflt ktr_enter
  k_steps
  all_goals first
    | exact (all_no (by assumption) (by decide +kernel)).elim
    | exact hret _ _ _ _ (by assumption) (by assumption) (FErr.drop (by assumption) (by intro p hp; repeat (first | exact hp | (with_reducible refine List.mem_append_right _ ?_) | refine List.Mem.tail _ ?_)))

theorem chb_non : ∀ (w : World) (A : RA) (S : RS) (c : Cont) (rest : List (Addr × Obj)) (td tn ta : Tok) (at' : Int),
    A.Ok rest → RHolds w rest S c → c.D = [(s_ "!", 1), (s_ "%", 3)] → (Mine.hd.heap_39 w.params = Mine.hd.heap_39 w.params) →
    Raises w 173 [.ref A.rd, .str (s_ "") td, .str (s_ "%") tn, .int at' ta] 20 200 (led w.params A S ++ rest) rest (s_ "wrong_width") at' (s_ "%") := by
  unfold Raises
  k_fill
  rintro w ⟨rd, drd, wr, dwr, sc, va, wi, ch, r1, r2, r3, rt, d1, d2, d3, d4, d5, d6, d7⟩ ⟨Tx, p, a0, t2, t3, scale, st, now, nt, scv, scn, vav, van, wio, chv, chn⟩ c rest td tn ta at' hOk hH eD _ mean mg mb dp un gd cn cs a ccd cl outer A₀ base h₀ L m s Q E B F X N Tp hk hd hu hret
  obtain ⟨o1, o2, o3, o4, o5, o6, o7, lo, off⟩ := hOk
  obtain ⟨hsc, hno, hscs, hvs, hcs, kvs, hwd, hwf⟩ := hH
  dsimp only at o1 o2 o3 o4 o5 o6 o7 lo off hsc hno hscs hvs hcs hwd hwf
  replace o1 := nl o1; replace o2 := nl o2; replace o3 := nl o3; replace o4 := nl o4; replace o5 := nl o5; replace o6 := nl o6; replace o7 := nl o7
  rw [eD] at hwf
  unfold led rdDict at N
  simp only [List.cons_append, List.nil_append] at N
  refine wpAny_call ?_
  k_dflt ktr_enter
  k_steps
  all_goals first
    | exact (all_no (by assumption) (by decide +kernel)).elim
    | exact hret _ _ _ _ (by assumption) (by assumption) (FErr.drop (by assumption) (by intro p hp; repeat (first | exact hp | (with_reducible refine List.mem_append_right _ ?_) | refine List.Mem.tail _ ?_)))

theorem chb_dig : ∀ (w : World) (A : RA) (S : RS) (c : Cont) (rest : List (Addr × Obj)) (td tn ta : Tok) (at' : Int),
    A.Ok rest → RHolds w rest S c → c.D = [(s_ "!", 1), (s_ "%", 3)] → (Mine.hd.heap_39 w.params = Mine.hd.heap_39 w.params) →
    Raises w 173 [.ref A.rd, .str (s_ "12") td, .str (s_ "%") tn, .int at' ta] 20 200 (led w.params A S ++ rest) rest (s_ "bad_digit") at' (s_ "12") := by
  unfold Raises
  k_fill
  rintro w ⟨rd, drd, wr, dwr, sc, va, wi, ch, r1, r2, r3, rt, d1, d2, d3, d4, d5, d6, d7⟩ ⟨Tx, p, a0, t2, t3, scale, st, now, nt, scv, scn, vav, van, wio, chv, chn⟩ c rest td tn ta at' hOk hH eD _ mean mg mb dp un gd cn cs a ccd cl outer A₀ base h₀ L m s Q E B F X N Tp hk hd hu hret
  obtain ⟨o1, o2, o3, o4, o5, o6, o7, lo, off⟩ := hOk
  obtain ⟨hsc, hno, hscs, hvs, hcs, kvs, hwd, hwf⟩ := hH
  dsimp only at o1 o2 o3 o4 o5 o6 o7 lo off hsc hno hscs hvs hcs hwd hwf
  replace o1 := nl o1; replace o2 := nl o2; replace o3 := nl o3; replace o4 := nl o4; replace o5 := nl o5; replace o6 := nl o6; replace o7 := nl o7
  rw [eD] at hwf
  unfold led rdDict at N
  simp only [List.cons_append, List.nil_append] at N
  refine wpAny_call ?_
  k_dflt ktr_enter
  k_steps
  all_goals first
    | exact (all_no (by assumption) (by decide +kernel)).elim
    | exact hret _ _ _ _ (by assumption) (by assumption) (FErr.drop (by assumption) (by intro p hp; repeat (first | exact hp | (with_reducible refine List.mem_append_right _ ?_) | refine List.Mem.tail _ ?_)))

/-- the wrong changes -/
inductive DigBad : Str → Str → Str → Str → Prop
  | unk : DigBad (s_ "1") (s_ "~~") (s_ "unknown_id") (s_ "~~")
  | emp : DigBad (s_ "1") (s_ "") (s_ "unknown_id") (s_ "")
  | wid : DigBad (s_ "1010") (s_ "%") (s_ "wrong_width") (s_ "%")
  | non : DigBad (s_ "") (s_ "%") (s_ "wrong_width") (s_ "%")
  | dig : DigBad (s_ "12") (s_ "%") (s_ "bad_digit") (s_ "12")

theorem ch_bad : ∀ (w : World) (A : RA) (S : RS) (c : Cont) (rest : List (Addr × Obj)) (d nm kind detail : Str) (td tn ta : Tok) (at' : Int), DigBad d nm kind detail → A.Ok rest → RHolds w rest S c → c.D = [(s_ "!", 1), (s_ "%", 3)] →
    Raises w 173 [.ref A.rd, .str d td, .str nm tn, .int at' ta] 20 200 (led w.params A S ++ rest) rest kind at' detail := by
  intro w A S c rest d nm kind detail td tn ta at' hG hOk hH hD
  cases hG
  case unk => exact chb_unk w A S c rest td tn ta at' hOk hH hD rfl
  case emp => exact chb_emp w A S c rest td tn ta at' hOk hH hD rfl
  case wid => exact chb_wid w A S c rest td tn ta at' hOk hH hD rfl
  case non => exact chb_non w A S c rest td tn ta at' hOk hH hD rfl
  case dig => exact chb_dig w A S c rest td tn ta at' hOk hH hD rfl


end Mine
end
section
open PySem PySem.W PySem.Calls PyProof.Rows PyProof.V PySem.Spec
set_option maxHeartbeats 20000000
namespace Mine
theorem decl_lines0 : True := by
  k_with_none
  (k_with "k_room" => ktr_room)
  (k_with "k_all" => assumption)
  (k_with "ktr_rel" => first | assumption | rfl | ((refine (if_neg (by decide)).trans ?_); ktr_rel))
  (k_with "eval Name" => (k_here; k_dflt (refine' ld ?q9k1 ?q9k2 ?_; (case q9k1 => k_asm); (case q9k2 => first | assumption | rfl | ((refine (if_neg (by decide)).trans ?_); first | assumption | ktr_rel)); k_whole)))
  (k_with "exec Raise some none" => (k_here; with_reducible refine fe_raise rfl ?_))
  (k_with "call ref" => (k_here; (with_reducible show wpAny _ _ (call (Value.ref 45) _) _ _ _); k_dflt (first
  | (refine' rets_use2 (fe_make _ _ _ _ _ _ _ _ rfl) ?q9k1 ?q9k2 ?q9k3 ?q9k4 ?q9k5 ?q9k6 ?q9k7 ?q9k8 ?_; (case q9k1 => k_asm); (case q9k2 => k_asm); (case q9k3 => k_asm); (case q9k4 => k_asm); (case q9k5 => k_asm); (case q9k6 => first | exact rfl | assumption); (case q9k7 => ktr_room); (case q9k8 => ktr_units))
  | (refine' rets_use2 (fe_make2 _ _ _ _ _ _ rfl) ?q9k1 ?q9k2 ?q9k3 ?q9k4 ?q9k5 ?q9k6 ?q9k7 ?q9k8 ?_; (case q9k1 => k_asm); (case q9k2 => k_asm); (case q9k3 => k_asm); (case q9k4 => k_asm); (case q9k5 => k_asm); (case q9k6 => first | exact rfl | assumption); (case q9k7 => ktr_room); (case q9k8 => ktr_units))); intro GG9 HH9; refine FeMade.out ?_; intro h9 tk9 e9 d9 p9 _ _ _ _ _ _ l9 m9; refine HH9 _ _ _ _ ?_; clear HH9 GG9; intro F9 N9; (try dsimp only)))
  (k_with "Exists" => (k_here; refine ⟨_, _, _, rfl, by k_in, News.get (by k_asm) (List.Mem.tail _ (List.Mem.head _)), ?_⟩; (try dsimp only)))
  (k_with "leaving ref" => (k_here; first
  | (refine' fe_leave_first ?q9k1 ?q9k2 ?q9k3 ?q9k4 ?q9k5 ?_; (case q9k1 => assumption); (case q9k2 => k_asm); (case q9k3 => k_asm); (case q9k4 => (intro p hp; exact Nat.ne_of_lt (by (first | exact l9 p hp | (rename ∀ p ∈ _, @LT.lt Nat _ _ _ => l9; exact l9 p hp))))); (case q9k5 => exact Nat.ne_of_gt (by assumption)); intro h' R' U'; (try dsimp only at R' U' ⊢))
  | (refine' fe_leave_on ?q9k1 ?q9k2 ?q9k3 ?q9k4 ?_; (case q9k3 => assumption); (case q9k1 => assumption); (case q9k4 => assumption); (case q9k2 => assumption); intro h' R' U'; (try dsimp only at R' U' ⊢))))
  (k_with "subscriptTail" => (k_here; (with_reducible show wpAny _ _ (subscriptTail _ _ (Value.str _ _) (Value.int _ _)) _ _ _); (refine item_str (fitsSsize_of (N := 9223372036854775808) (by omega) (by omega) (Int.le_refl _)) (by omega) (by omega) ?_); intro hlen9))
  (k_with "ktr_unf" => repeat' ((fail_if_success (with_reducible show wpAny _ _ (exec (Stmt.While _ _ _ _) _) _ _ _)); first | (k_unfold; (try dsimp only)) | (k_end; wrow_close) | walk1 | (dsimp only; walk1) | (leave1; walk_say "STEP leave1"; try dsimp only) | fail "no step"))
  (k_with "subscriptTail" => (k_here; (with_reducible show wpAny _ _ (subscriptTail _ (Expr.Slice (some _) (some _) none _) (Value.str _ _) (Value.ref _)) _ _ _); (with_reducible rename Fr _ _ _ _ => F'); (with_reducible rename News _ _ _ _ => N'); (refine slice_strN_ss (hsz := ?q9hsz) (s := ⟨_, _, _, _, _⟩) F' N' ?_); (case q9hsz => (rw [sizeLine_eq]; omega)); intro _ _ _ _ _))
  (k_with "k_updF" => first | (refine' UpdF.head ?q9a; (case q9a => k_all)) | (refine' UpdF.tail ?q9a ?q9b; (case q9a => k_ne); (case q9b => k_updF)))
  (k_with "kwd_rel" => first | exact List.forall_mem_nil _ | ((refine' List.forall_mem_cons.mpr ⟨?q9aa, ?q9bb⟩); (case q9aa => k_mem); (case q9bb => kwd_rel)) | (intro p hp; repeat (first | exact hp | refine List.Mem.tail _ ?_)))
  trivial

theorem out_at {k d : Str} {a b : Int} (h : b = a) : Out.err k a d = Out.err k b d := by rw [h]
theorem cut_len {ws ws' : List (Str × Int)} {fnd : List Str} (h : cutEnd ws = some (fnd, ws')) : ws'.length < ws.length ∧ (∀ x ∈ ws', x ∈ ws) := by
  induction ws generalizing fnd with
  | nil => exact nomatch h
  | cons x r ih =>
    obtain ⟨x1, a1⟩ := x
    rw [cutEnd] at h
    split at h
    · obtain ⟨_, rfl⟩ := Prod.mk.inj (Option.some.inj h)
      exact ⟨Nat.lt_succ_self _, fun y hy => .tail _ hy⟩
    · cases hc : cutEnd r with
      | none => rw [hc] at h; exact nomatch h
      | some y =>
        rw [hc] at h
        obtain ⟨y1, y2⟩ := y
        obtain ⟨_, rfl⟩ := Prod.mk.inj (Option.some.inj h)
        have := ih hc
        exact ⟨Nat.lt_succ_of_lt this.1, fun z hz => .tail _ (this.2 z hz)⟩

theorem decl_lines1 : True := by
  (k_with "call ref" => (k_here; (with_reducible show wpAny _ _ (call (Value.ref 103) _) _ _ _); k_dflt (refine' rets_use2 (take_led _ _ _ _ _ ?q9u1 ?q9u2) ?q9k1 ?q9k2 ?q9k3 ?q9k4 ?q9k5 ?q9k6 ?q9k7 ?q9k8 ?_; (case q9k1 => k_asm); (case q9k2 => k_asm); (case q9k3 => k_asm); (case q9k4 => k_asm); (case q9k5 => k_asm); (case q9k6 => first | exact rfl | assumption); (case q9k7 => ktr_room); (case q9k8 => ktr_units); (case q9u1 => assumption); (case q9u2 => assumption)); intro GG9 HH9; refine TakeLed.out ?_; intro h9 tk9 Sx t9 W9 S9 A9; refine HH9 _ _ _ _ ?_; clear HH9 GG9; intro F9 N9; (have H9 := RHolds.row (by assumption) W9); (try dsimp only)))
  (k_with "call ref" => (k_here; (with_reducible show wpAny _ _ (call (Value.ref 110) _) _ _ _); k_dflt (refine' both_use2 (until_led _ _ _ _ _ ?q9u1 ?q9u2 ?q9u3) ?q9k1 ?q9k2 ?q9k3 ?q9k4 ?q9k5 ?q9k6 ?q9k7 ?q9k8 ?_ ?_; (case q9k1 => k_asm); (case q9k2 => k_asm); (case q9k3 => k_asm); (case q9k4 => k_asm); (case q9k5 => k_asm); (case q9k6 => first | exact rfl | assumption); (case q9k7 => ktr_room); (case q9k8 => ktr_units); (case q9u1 => assumption); (case q9u2 => assumption); (case q9u3 => assumption)); (focus (intro GG9 HH9; refine UntLed.out ?_; intro h9 tk9 f9 i9 m9 Sx I9 C9 W9 O9 L9; refine HH9 _ _ _ _ ?_; clear HH9 GG9; intro F9 N9; (first | exact absurd (by assumption) C9 | (have J9 := I9 _ _ (by assumption); obtain ⟨J9, S9⟩ := J9; (have H9 := RHolds.cons (f9, listOf i9.toArray m9) (RHolds.row (by assumption) W9)); (try dsimp only))))); (rotate_left; focus (intro k9 a9 d9 Z9 e9 g9 h9 tk9 F9 U9 R9; refine hide0 ?_; intro GG9 HH9; obtain ⟨C9, y1, y2, y3⟩ := Z9; replace R9 := FErr.eqs R9 y1 y2 y3; refine HH9 ?_; (first | (exfalso; exact no_cut (by assumption) C9) | (try dsimp only))); rotate_right)))
  (k_with "call ref" => (k_here; (with_reducible show wpAny _ _ (call (Value.ref 152) _) _ _ _); k_dflt (first | ((refine' rets_use2 (cmd_good _ _ _ _ _ _ _ _ _ _ _ _ _ _ ?q9u1 ?q9u2 ?q9u3 ?q9u4 ?q9u5) ?q9k1 ?q9k2 ?q9k3 ?q9k4 ?q9k5 ?q9k6 ?q9k7 ?q9k8 ?_; (case q9k1 => k_asm); (case q9k2 => k_asm); (case q9k3 => k_asm); (case q9k4 => k_asm); (case q9k5 => k_asm); (case q9k6 => first | exact rfl | assumption); (case q9k7 => ktr_room); (case q9k8 => ktr_units); (case q9u1 => assumption); (case q9u2 => assumption); (case q9u3 => assumption); (case q9u4 => assumption); (case q9u5 => assumption)); intro GG9 HH9; refine CmdR.out ?_; intro r9 h9 tk9 Sx tl9 O9 H9 T9 P9; refine HH9 _ _ _ _ ?_; clear HH9 GG9; intro F9 N9; (have S9 := RAt.of (by assumption) T9 P9); (try dsimp only)) | ((refine' raises_use (cmd_bad _ _ _ _ _ _ _ _ _ _ _ _ _ _ _ ?q9u1 ?q9u2 ?q9u3 ?q9u4 ?q9u5) ?q9k1 ?q9k2 ?q9k3 ?q9k4 ?q9k5 ?q9k6 ?q9k7 ?q9k8 ?_; (case q9k1 => k_asm); (case q9k2 => k_asm); (case q9k3 => k_asm); (case q9k4 => k_asm); (case q9k5 => k_asm); (case q9k6 => first | exact rfl | assumption); (case q9k7 => ktr_room); (case q9k8 => ktr_units); (case q9u1 => assumption); (case q9u2 => assumption); (case q9u3 => assumption); (case q9u4 => assumption); (case q9u5 => assumption)); intro e9 g9 h9 tk9 F9 U9 R9; (try dsimp only)))))
  trivial

/-- the word of declarations' loop: W is left -/
inductive DeclJ (w : World) (A : RA) (rest : List (Addr × Obj)) (T : Str) (out : Out) (m : Str → Option Value) (W : List (Str × Int)) : List (Addr × Obj) → Prop
  | mk (S' : RS) (c' : Cont) (R : List (Addr × Obj)) (tw : Tok) (o' : Out) : m (Str.ofString "self") = some (.ref A.rd) → m (Str.ofString "word") = some (.str (hdW W) tw) → A.Ok R → RHolds w R S' c' → RAt S' W.tail → S'.at' = hdA T W → S'.T = T → (∀ x ∈ W, x.1 ≠ eS) → W.length ≤ 1000 →
    DPlan T c' W o' → o' = out → (∀ x ∈ rest, x ∈ R) → DeclJ w A rest T out m W (led w.params A S' ++ R)

theorem decl_lines2 : True := by
  (k_with "getAttr ref" => (k_here; k_dflt (first | ((with_reducible show wpAny _ _ (getAttr _ (Str.ofString "words") _) _ _ _); refine' led_words ?q9k1 ?q9k2 ?q9k3 ?_; (case q9k1 => k_asm); (case q9k2 => k_asm); (case q9k3 => k_asm)) | ((with_reducible show wpAny _ _ (getAttr _ (Str.ofString "at") _) _ _ _); refine' led_at ?q9k1 ?q9k2 ?q9k3 ?_; (case q9k1 => k_asm); (case q9k2 => k_asm); (case q9k3 => k_asm)) | ((with_reducible show wpAny _ _ (getAttr _ (Str.ofString "now") _) _ _ _); refine' led_now ?q9k1 ?q9k2 ?q9k3 ?_; (case q9k1 => k_asm); (case q9k2 => k_asm); (case q9k3 => k_asm)))))
  (k_with "getMethod ref" => (k_here; k_dflt (first | ((with_reducible show wpAny _ _ (getMethod _ (Str.ofString "take") _) _ _ _); refine' led_take ?q9k1 ?q9k2 ?q9k3 ?_; (case q9k1 => k_asm); (case q9k2 => k_asm); (case q9k3 => k_asm)) | ((with_reducible show wpAny _ _ (getMethod _ (Str.ofString "until_end") _) _ _ _); refine' led_until ?q9k1 ?q9k2 ?q9k3 ?_; (case q9k1 => k_asm); (case q9k2 => k_asm); (case q9k3 => k_asm)) | ((with_reducible show wpAny _ _ (getMethod _ (Str.ofString "command") _) _ _ _); refine' led_command ?q9k1 ?q9k2 ?q9k3 ?_; (case q9k1 => k_asm); (case q9k2 => k_asm); (case q9k3 => k_asm)) | ((with_reducible show wpAny _ _ (getMethod _ (Str.ofString "change") _) _ _ _); refine' led_change ?q9k1 ?q9k2 ?q9k3 ?_; (case q9k1 => k_asm); (case q9k2 => k_asm); (case q9k3 => k_asm)))))
  trivial

theorem decl_spec : ∀ (w : World) (A : RA) (S : RS) (c : Cont) (rest : List (Addr × Obj)) (ws : List (Str × Int)) (out : Out),
    A.Ok rest → RHolds w rest S c → RAt S ws → ws.length ≤ 1000 → DPlan S.T c ws out → (Mine.hd.heap_39 w.params = Mine.hd.heap_39 w.params) →
    Both w 145 [.ref A.rd] 30 400 (led w.params A S ++ rest) rest
      (fun _ news' => ∃ c' ws' S' R, out = .ok c' ws' ∧ (∀ x ∈ rest, x ∈ R) ∧ news' = led w.params A S' ++ R ∧ A.Ok R ∧ RHolds w R S' c' ∧ RAt S' ws' ∧ S'.T = S.T)
      (fun kind a detail => out = .err kind a detail) := by
  unfold Both
  k_fill
  intro w A S c rest ws out hOk hH hAt hlen hP _ mean mg mb dp un gd cn cs a ccd cl outer A₀ base h₀ L m s Q E B F X N Tp hk hd hu hret herr
  have hOk0 := hOk
  obtain ⟨o1, o2, o3, o4, o5, o6, o7, lo, off⟩ := hOk0
  refine wpAny_call ?_
  k_dflt ktr_enter
  ktr_unf
  (rename Fr _ _ _ _ => F'); (rename News _ _ _ _ => N')
  clear o1 o2 o3 o4 o5 o6 o7 lo off
  refine While_q (fun n m nx => ∃ W, W.length ≤ n ∧ DeclJ w A rest S.T out m W nx) (fun m nx => ∃ a1 ws1, DeclJ w A rest S.T out m ((s_ "$enddefinitions", a1) :: ws1) nx) F' N'
    ⟨ws, Nat.le_refl _, .mk _ c rest _ _ rfl rfl hOk (hH.row (by assumption)) (by assumption) (by assumption) (Row.T (by assumption)) hAt.st.ok hlen hP rfl (fun _ h => h)⟩ ?_ ?_ (by with_unfolding_all passes_own)
  · clear F' N' N hOk hH hAt hlen hP hret
    intro n Qb Qx Hb GG HH m₁ nx h₂ tk₂ R₂
    obtain ⟨W, hWn, R₂⟩ := R₂
    obtain ⟨S', c', R, tw, o', hs, hw, hO, hHR, hSq, hat, hTT, hok, hsz, hPl, ho, hsub⟩ := R₂
    revert hw hSq hat hok hsz hWn hHR ho
    cases hPl with
    | done hc =>
      intro hWn hw hHR hSq hat hok hsz ho
      refine HH _ _ _ _ ?_
      clear HH GG
      intro F₂ N₂
      dsimp only [hdW, List.tail] at hw hSq
      ktr_unf
      all_goals exact Hb.exit _ _ _ _ (by assumption) (by assumption) ⟨_, _, .mk S' c' R _ _ hs hw hO hHR hSq hat hTT hok hsz (.done hc) ho hsub⟩
    | @good _ c2 cmd parts a1 ws1 ws2 _ hG hc hP2 =>
      intro hWn hw hHR hSq hat hok hsz ho
      refine HH _ _ _ _ ?_
      clear HH GG
      intro F₂ N₂
      dsimp only [hdW, List.tail] at hw hSq
      (have hl : _ ≤ 1000 := Nat.le_of_succ_le hsz)
      have hcl := cut_len hc
      have hl2 := Nat.le_trans (Nat.le_of_lt hcl.1) hl
      have hW := hG.word
      obtain ⟨w1, w2, w3, w4, w5⟩ := hW
      ktr_unf
      all_goals first
        | exact absurd (str_of_bne (by assumption)) w1
        | exact absurd (eq_of_beq (by assumption)) w2
        | exact absurd (eq_of_beq (by assumption)) w3
        | (exfalso; rename (_ != _) = true => hb; rw [w4] at hb; exact absurd hb (by decide))
        | skip
      (rename Row _ _ => Wz); (rename RS.T _ = RS.T _ => Ty); (rename RS.at' _ = hdA _ _ => Az); (rename Row S' _ => Wx)
      have hTy := Ty.trans (Wx.T.trans hTT)
      rw [hTy] at Az
      exact Hb.next _ _ _ _ ws2.length (by assumption) (by assumption) (Nat.lt_of_lt_of_le (Nat.lt_succ_of_lt hcl.1) hWn) ⟨ws2, Nat.le_refl _, .mk _ c2 _ _ _ (by ktr_rel) (by ktr_rel) (by assumption) (by assumption) (by assumption) Az (Wz.T.trans hTy) (fun x hx => hok x (.tail _ (hcl.2 x hx))) hl2 hP2 ho (fun x hx => sub_app x (.tail _ (hsub x hx)))⟩
    | @bad _ cmd parts kind detail a1 ws1 ws2 hB hc =>
      intro hWn hw hHR hSq hat hok hsz ho
      refine HH _ _ _ _ ?_
      clear HH GG
      intro F₂ N₂
      dsimp only [hdW, List.tail] at hw hSq
      (have hl : _ ≤ 1000 := Nat.le_of_succ_le hsz)
      have hW := hB.word
      obtain ⟨w1, w2, w3, w4, w5⟩ := hW
      ktr_unf
      all_goals first
        | exact absurd (str_of_bne (by assumption)) w1
        | exact absurd (eq_of_beq (by assumption)) w2
        | exact absurd (eq_of_beq (by assumption)) w3
        | (exfalso; rename (_ != _) = true => hb; rw [w4] at hb; exact absurd hb (by decide))
        | exact herr _ _ _ (ho.symm.trans (out_at hat)) _ _ _ _ (by assumption) (by assumption) (FErr.drop (by assumption) hsub)
    | noend hc =>
      intro hWn hw hHR hSq hat hok hsz ho
      refine HH _ _ _ _ ?_
      clear HH GG
      intro F₂ N₂
      dsimp only [hdW, List.tail] at hw hSq
      (have hl : _ ≤ 1000 := Nat.le_of_succ_le hsz)
      ktr_unf
      all_goals exact herr _ _ _ (ho.symm.trans (out_at hat)) _ _ _ _ (by assumption) (by assumption) (FErr.drop (by assumption) hsub)
    | hello =>
      intro hWn hw hHR hSq hat hok hsz ho
      refine HH _ _ _ _ ?_
      clear HH GG
      intro F₂ N₂
      dsimp only [hdW, List.tail] at hw hSq
      ktr_unf
      all_goals exact herr _ _ _ (ho.symm.trans (out_at hat)) _ _ _ _ (by assumption) (by assumption) (FErr.drop (by assumption) fun q hq => .tail _ (.tail _ (.tail _ (.tail _ (.tail _ (.tail _ (.tail _ (.tail _ (hsub q hq)))))))))
    | anEnd =>
      intro hWn hw hHR hSq hat hok hsz ho
      refine HH _ _ _ _ ?_
      clear HH GG
      intro F₂ N₂
      dsimp only [hdW, List.tail] at hw hSq
      ktr_unf
      all_goals exact herr _ _ _ (ho.symm.trans (out_at hat)) _ _ _ _ (by assumption) (by assumption) (FErr.drop (by assumption) fun q hq => .tail _ (.tail _ (.tail _ (.tail _ (.tail _ (.tail _ (.tail _ (.tail _ (hsub q hq)))))))))
    | missing =>
      intro hWn hw hHR hSq hat hok hsz ho
      refine HH _ _ _ _ ?_
      clear HH GG
      intro F₂ N₂
      dsimp only [hdW, List.tail] at hw hSq
      ktr_unf
      all_goals exact herr _ _ _ (ho.symm.trans (out_at hat)) _ _ _ _ (by assumption) (by assumption) (FErr.drop (by assumption) fun q hq => .tail _ (.tail _ (.tail _ (.tail _ (.tail _ (.tail _ (.tail _ (.tail _ (hsub q hq)))))))))
  · clear F' N' N hOk hH hAt hlen hP herr
    intro GG HH m₁ nx h₂ tk₂ R₂
    obtain ⟨a1, ws1, R₂⟩ := R₂
    obtain ⟨S', c', R, tw, o', hs, hw, hO, hHR, hSq, hat, hTT, hok, hsz, hPl, ho, hsub⟩ := R₂
    have hc : ∃ fnd ws', cutEnd ws1 = some (fnd, ws') ∧ o' = .ok c' ws' := by
      cases hPl with
      | done hc => exact ⟨_, _, hc, rfl⟩
      | good hG => exact absurd rfl hG.word.1
      | bad hB => exact absurd rfl hB.word.1
    obtain ⟨fnd, ws', hc, hoo⟩ := hc
    replace ho := hoo.symm.trans ho
    clear hPl hoo
    refine HH _ _ _ _ ?_
    clear HH GG
    intro F₂ N₂
    dsimp only [List.tail] at hSq
    (have hl : _ ≤ 1000 := Nat.le_of_succ_le hsz)
    ktr_unf
    all_goals exact hret _ _ _ _ (by assumption) (by assumption) ⟨c', _, _, _, ho.symm, fun x hx => .tail _ (hsub x hx), rfl, by assumption, by assumption, by assumption, (Row.T (by assumption)).trans hTT⟩


end Mine
end
section
open PySem PySem.W PySem.Calls PyProof.Rows PyProof.V PySem.Spec
set_option maxHeartbeats 20000000
namespace Mine
theorem vch_lines0 : True := by
  k_with_none
  (k_with "k_room" => ktr_room)
  (k_with "k_all" => assumption)
  (k_with "ktr_rel" => first | assumption | rfl | ((refine (if_neg (by decide)).trans ?_); ktr_rel))
  (k_with "eval Name" => (k_here; k_dflt (refine' ld ?q9k1 ?q9k2 ?_; (case q9k1 => k_asm); (case q9k2 => first | assumption | rfl | ((refine (if_neg (by decide)).trans ?_); first | assumption | ktr_rel)); k_whole)))
  (k_with "exec Raise some none" => (k_here; with_reducible refine fe_raise rfl ?_))
  (k_with "call ref" => (k_here; (with_reducible show wpAny _ _ (call (Value.ref 45) _) _ _ _); k_dflt (first
  | (refine' rets_use2 (fe_make _ _ _ _ _ _ _ _ rfl) ?q9k1 ?q9k2 ?q9k3 ?q9k4 ?q9k5 ?q9k6 ?q9k7 ?q9k8 ?_; (case q9k1 => k_asm); (case q9k2 => k_asm); (case q9k3 => k_asm); (case q9k4 => k_asm); (case q9k5 => k_asm); (case q9k6 => first | exact rfl | assumption); (case q9k7 => ktr_room); (case q9k8 => ktr_units))
  | (refine' rets_use2 (fe_make2 _ _ _ _ _ _ rfl) ?q9k1 ?q9k2 ?q9k3 ?q9k4 ?q9k5 ?q9k6 ?q9k7 ?q9k8 ?_; (case q9k1 => k_asm); (case q9k2 => k_asm); (case q9k3 => k_asm); (case q9k4 => k_asm); (case q9k5 => k_asm); (case q9k6 => first | exact rfl | assumption); (case q9k7 => ktr_room); (case q9k8 => ktr_units))); intro GG9 HH9; refine FeMade.out ?_; intro h9 tk9 e9 d9 p9 _ _ _ _ _ _ l9 m9; refine HH9 _ _ _ _ ?_; clear HH9 GG9; intro F9 N9; (try dsimp only)))
  (k_with "Exists" => (k_here; refine ⟨_, _, _, rfl, by k_in, News.get (by k_asm) (List.Mem.tail _ (List.Mem.head _)), ?_⟩; (try dsimp only)))
  (k_with "leaving ref" => (k_here; first
  | (refine' fe_leave_first ?q9k1 ?q9k2 ?q9k3 ?q9k4 ?q9k5 ?_; (case q9k1 => assumption); (case q9k2 => k_asm); (case q9k3 => k_asm); (case q9k4 => (intro p hp; exact Nat.ne_of_lt (by (first | exact l9 p hp | (rename ∀ p ∈ _, @LT.lt Nat _ _ _ => l9; exact l9 p hp))))); (case q9k5 => exact Nat.ne_of_gt (by assumption)); intro h' R' U'; (try dsimp only at R' U' ⊢))
  | (refine' fe_leave_on ?q9k1 ?q9k2 ?q9k3 ?q9k4 ?_; (case q9k3 => assumption); (case q9k1 => assumption); (case q9k4 => assumption); (case q9k2 => assumption); intro h' R' U'; (try dsimp only at R' U' ⊢))))
  (k_with "subscriptTail" => (k_here; (with_reducible show wpAny _ _ (subscriptTail _ _ (Value.str _ _) (Value.int _ _)) _ _ _); (refine item_str (fitsSsize_of (N := 9223372036854775808) (by omega) (by omega) (Int.le_refl _)) (by omega) (by omega) ?_); intro hlen9))
  (k_with "ktr_unf" => repeat' ((fail_if_success (with_reducible show wpAny _ _ (exec (Stmt.While _ _ _ _) _) _ _ _)); first | (k_unfold; (try dsimp only)) | (k_end; wrow_close) | walk1 | (dsimp only; walk1) | (leave1; walk_say "STEP leave1"; try dsimp only) | fail "no step"))
  (k_with "subscriptTail" => (k_here; (with_reducible show wpAny _ _ (subscriptTail _ (Expr.Slice (some _) (some _) none _) (Value.str _ _) (Value.ref _)) _ _ _); (with_reducible rename Fr _ _ _ _ => F'); (with_reducible rename News _ _ _ _ => N'); (refine slice_strN_ss (hsz := ?q9hsz) (s := ⟨_, _, _, _, _⟩) F' N' ?_); (case q9hsz => (rw [sizeLine_eq]; omega)); intro _ _ _ _ _))
  (k_with "k_updF" => first | (refine' UpdF.head ?q9a; (case q9a => k_all)) | (refine' UpdF.tail ?q9a ?q9b; (case q9a => k_ne); (case q9b => k_updF)))
  (k_with "kwd_rel" => first | exact List.forall_mem_nil _ | ((refine' List.forall_mem_cons.mpr ⟨?q9aa, ?q9bb⟩); (case q9aa => k_mem); (case q9bb => kwd_rel)) | (intro p hp; repeat (first | exact hp | refine List.Mem.tail _ ?_)))
  trivial

inductive Wn : Str → Int → Prop
  | zero : Wn (s_ "0") 0
  | four : Wn (s_ "4") 4
  | five : Wn (s_ "5") 5
theorem wn_good (w : World) (news : List (Addr × Obj)) (d : Str) (k at' : Int) (t ta : Tok) (h : Wn d k) : Rets w 124 [.str d t, .int at' ta] 8 80 news (SameI k news) := by
  cases h
  · exact wn_0 w news at' t ta rfl
  · exact wn_4 w news at' t ta rfl
  · exact wn_5 w news at' t ta rfl
inductive WnBad : Str → Prop
  | x : WnBad (s_ "x")
  | e : WnBad (s_ "")
theorem wn_bad (w : World) (news : List (Addr × Obj)) (d : Str) (at' : Int) (t ta : Tok) (h : WnBad d) : Raises w 124 [.str d t, .int at' ta] 8 80 news news (s_ "bad_number") at' d := by
  cases h
  · exact wn_x w news at' t ta rfl
  · exact wn_e w news at' t ta rfl
abbrev occ (x : String) (y : Str) : Bool := (Builtin.Str.occurrences (Str.ofString x) y 0 (Str.ofString x).length 1).isEmpty
structure HashW (word : Str) : Prop where
  ne : (word != Str.ofString "") = true
  lo : 1 ≤ word.length
  hi : word.length ≤ 20
  hash : (Txt.item word 0 == Str.ofString "#") = true
structure ScalW (word : Str) : Prop where
  ne : (word != Str.ofString "") = true
  lo : 1 ≤ word.length
  hi : word.length ≤ 20
  hash : (Txt.item word 0 == Str.ofString "#") = false
  dig : occ "01xzXZ" (Txt.item word 0) = false
structure VecW (word : Str) : Prop where
  ne : (word != Str.ofString "") = true
  lo : 1 ≤ word.length
  hi : word.length ≤ 20
  hash : (Txt.item word 0 == Str.ofString "#") = false
  dig : occ "01xzXZ" (Txt.item word 0) = true
  bb : occ "bB" (Txt.item word 0) = false
structure RestW (word : Str) (rr : Bool) : Prop where
  ne : (word != Str.ofString "") = true
  lo : 1 ≤ word.length
  hi : word.length ≤ 20
  hash : (Txt.item word 0 == Str.ofString "#") = false
  dig : occ "01xzXZ" (Txt.item word 0) = true
  bb : occ "bB" (Txt.item word 0) = true
  rr : occ "rR" (Txt.item word 0) = rr
/-- how the changes go on over these words -/
inductive VPlan (T : Str) : Cont → List (Str × Int) → Out → Prop
  | done {c : Cont} : VPlan T c [] (.ok c [])
  | time {c : Cont} {word : Str} {k a : Int} {ws : List (Str × Int)} {out : Out} : HashW word → Wn (Txt.slice word (some 1) none) k → c.now ≤ k → VPlan T { c with now := k } ws out → VPlan T c ((word, a) :: ws) out
  | back {c : Cont} {word : Str} {k a : Int} {ws : List (Str × Int)} : HashW word → Wn (Txt.slice word (some 1) none) k → k < c.now → VPlan T c ((word, a) :: ws) (.err (s_ "time_goes_back") a word)
  | badnum {c : Cont} {word : Str} {a : Int} {ws : List (Str × Int)} : HashW word → WnBad (Txt.slice word (some 1) none) → VPlan T c ((word, a) :: ws) (.err (s_ "bad_number") (a + 1) (Txt.slice word (some 1) none))
  | scal {c : Cont} {word : Str} {v : Dat} {a : Int} {ws : List (Str × Int)} {out : Out} : ScalW word → Dig (Txt.item word 0) (Txt.slice word (some 1) none) v → c.chs.length + 1 ≤ 50 → VPlan T { c with chs := c.chs ++ [.tuple [.int c.now, .str (Txt.slice word (some 1) none), v]] } ws out → VPlan T c ((word, a) :: ws) out
  | scalBad {c : Cont} {word kind detail : Str} {a : Int} {ws : List (Str × Int)} : ScalW word → DigBad (Txt.item word 0) (Txt.slice word (some 1) none) kind detail → VPlan T c ((word, a) :: ws) (.err kind a detail)
  | vec {c : Cont} {word nm : Str} {v : Dat} {a b : Int} {ws : List (Str × Int)} {out : Out} : VecW word → Dig (Txt.slice word (some 1) none) nm v → c.chs.length + 1 ≤ 50 → VPlan T { c with chs := c.chs ++ [.tuple [.int c.now, .str nm, v]] } ws out → VPlan T c ((word, a) :: (nm, b) :: ws) out
  | vecBad {c : Cont} {word kind detail : Str} {a : Int} {ws : List (Str × Int)} : VecW word → DigBad (Txt.slice word (some 1) none) (hdW ws) kind detail → VPlan T c ((word, a) :: ws) (.err kind a detail)
  | real {c : Cont} {word : Str} {a : Int} {ws : List (Str × Int)} : RestW word false → VPlan T c ((word, a) :: ws) (.err (s_ "real_unsupported") a word)
  | other {c : Cont} {word : Str} {a : Int} {ws : List (Str × Int)} : RestW word true → (word == Str.ofString "$comment") = false → ([Str.ofString "$dumpvars", Str.ofString "$dumpall", Str.ofString "$dumpon", Str.ofString "$dumpoff", Str.ofString "$end"].any fun x => x == word) = false → VPlan T c ((word, a) :: ws) (.err (s_ "unexpected_word") a word)
  | noend {c : Cont} {word : Str} {a : Int} {ws : List (Str × Int)} : RestW word true → (word == Str.ofString "$comment") = true → cutEnd ws = none → VPlan T c ((word, a) :: ws) (.err (s_ "end_missing") a eS)
theorem out_at1 {k d : Str} {a b : Int} (h : b = a) : Out.err k (a + 1) d = Out.err k (b + 1) d := by rw [h]
theorem RHolds.time {w : World} {rest : List (Addr × Obj)} {S : RS} {c : Cont} (h : RHolds w rest S c) (k : Int) (nt : Tok) : RHolds w rest { S with now := k, nt := nt } { c with now := k } := ⟨h.1, rfl, h.3, h.4, h.5, h.6⟩
theorem led_sub {P : Params} {A : RA} {S : RS} {rest R : List (Addr × Obj)} (h : ∀ x ∈ rest, x ∈ R) : ∀ x ∈ rest, x ∈ led P A S ++ R := fun x hx => List.mem_append_right _ (h x hx)

theorem vch_lines1 : True := by
  (k_with "call ref" => (k_here; (with_reducible show wpAny _ _ (call (Value.ref 103) _) _ _ _); k_dflt (refine' rets_use2 (take_led _ _ _ _ _ ?q9u1 ?q9u2) ?q9k1 ?q9k2 ?q9k3 ?q9k4 ?q9k5 ?q9k6 ?q9k7 ?q9k8 ?_; (case q9k1 => k_asm); (case q9k2 => k_asm); (case q9k3 => k_asm); (case q9k4 => k_asm); (case q9k5 => k_asm); (case q9k6 => first | exact rfl | assumption); (case q9k7 => ktr_room); (case q9k8 => ktr_units); (case q9u1 => assumption); (case q9u2 => assumption)); intro GG9 HH9; refine TakeLed.out ?_; intro h9 tk9 Sx t9 W9 S9 A9; refine HH9 _ _ _ _ ?_; clear HH9 GG9; intro F9 N9; (have H9 := RHolds.row (by assumption) W9); (try dsimp only)))
  (k_with "call ref" => (k_here; (with_reducible show wpAny _ _ (call (Value.ref 110) _) _ _ _); k_dflt (refine' both_use2 (until_led _ _ _ _ _ ?q9u1 ?q9u2 ?q9u3) ?q9k1 ?q9k2 ?q9k3 ?q9k4 ?q9k5 ?q9k6 ?q9k7 ?q9k8 ?_ ?_; (case q9k1 => k_asm); (case q9k2 => k_asm); (case q9k3 => k_asm); (case q9k4 => k_asm); (case q9k5 => k_asm); (case q9k6 => first | exact rfl | assumption); (case q9k7 => ktr_room); (case q9k8 => ktr_units); (case q9u1 => assumption); (case q9u2 => assumption); (case q9u3 => assumption)); (focus (intro GG9 HH9; refine UntLed.out ?_; intro h9 tk9 f9 i9 m9 Sx I9 C9 W9 O9 L9; refine HH9 _ _ _ _ ?_; clear HH9 GG9; intro F9 N9; (first | exact absurd (by assumption) C9 | (have J9 := I9 _ _ (by assumption); obtain ⟨J9, S9⟩ := J9; (have H9 := RHolds.cons (f9, listOf i9.toArray m9) (RHolds.row (by assumption) W9)); (try dsimp only))))); (rotate_left; focus (intro k9 a9 d9 Z9 e9 g9 h9 tk9 F9 U9 R9; refine hide0 ?_; intro GG9 HH9; obtain ⟨C9, y1, y2, y3⟩ := Z9; replace R9 := FErr.eqs R9 y1 y2 y3; refine HH9 ?_; (first | (exfalso; exact no_cut (by assumption) C9) | (try dsimp only))); rotate_right)))
  (k_with "call ref" => (k_here; (with_reducible show wpAny _ _ (call (Value.ref 124) _) _ _ _); k_dflt (first | ((refine' rets_use2 (wn_good _ _ _ _ _ _ _ ?q9u1) ?q9k1 ?q9k2 ?q9k3 ?q9k4 ?q9k5 ?q9k6 ?q9k7 ?q9k8 ?_; (case q9k1 => k_asm); (case q9k2 => k_asm); (case q9k3 => k_asm); (case q9k4 => k_asm); (case q9k5 => k_asm); (case q9k6 => first | exact rfl | assumption); (case q9k7 => ktr_room); (case q9k8 => ktr_units); (case q9u1 => assumption)); intro GG9 HH9; (first | refine SameI.out ?_ | refine SameS.out ?_); intro h9 tk9 t9; refine HH9 _ _ _ _ ?_; clear HH9 GG9; intro F9 N9; (try dsimp only)) | ((refine' raises_use (wn_bad _ _ _ _ _ _ ?q9u1) ?q9k1 ?q9k2 ?q9k3 ?q9k4 ?q9k5 ?q9k6 ?q9k7 ?q9k8 ?_; (case q9k1 => k_asm); (case q9k2 => k_asm); (case q9k3 => k_asm); (case q9k4 => k_asm); (case q9k5 => k_asm); (case q9k6 => first | exact rfl | assumption); (case q9k7 => ktr_room); (case q9k8 => ktr_units); (case q9u1 => assumption)); intro e9 g9 h9 tk9 F9 U9 R9; (try dsimp only)))))
  (k_with "subscriptTail" => (k_here; (with_reducible show wpAny _ _ (subscriptTail _ (Expr.Slice (some _) none none _) (Value.str _ _) (Value.ref _)) _ _ _); (with_reducible rename Fr _ _ _ _ => F'); (with_reducible rename News _ _ _ _ => N'); (refine slice_strN_sn (hsz := ?q9hsz) (s := ⟨_, _, _, _, _⟩) F' N' ?_); (case q9hsz => (rw [sizeLine_eq]; omega)); intro _ _ _ _ _))
  (k_with "call ref" => (k_here; (with_reducible show wpAny _ _ (call (Value.ref 173) _) _ _ _); k_dflt (first | ((refine' rets_use2 (ch_good _ _ _ _ _ _ _ _ _ _ _ _ ?q9u1 ?q9u2 ?q9u3 ?q9u4 ?q9u5) ?q9k1 ?q9k2 ?q9k3 ?q9k4 ?q9k5 ?q9k6 ?q9k7 ?q9k8 ?_; (case q9k1 => k_asm); (case q9k2 => k_asm); (case q9k3 => k_asm); (case q9k4 => k_asm); (case q9k5 => k_asm); (case q9k6 => first | exact rfl | assumption); (case q9k7 => ktr_room); (case q9k8 => ktr_units); (case q9u1 => assumption); (case q9u2 => assumption); (case q9u3 => assumption); (case q9u4 => assumption); (case q9u5 => assumption)); intro GG9 HH9; refine CmdR.out ?_; intro r9 h9 tk9 Sx tl9 O9 H9 T9 P9; refine HH9 _ _ _ _ ?_; clear HH9 GG9; intro F9 N9; (have S9 := RAt.of (by assumption) T9 P9); (try dsimp only)) | ((refine' raises_use (ch_bad _ _ _ _ _ _ _ _ _ _ _ _ _ ?q9u1 ?q9u2 ?q9u3 ?q9u4) ?q9k1 ?q9k2 ?q9k3 ?q9k4 ?q9k5 ?q9k6 ?q9k7 ?q9k8 ?_; (case q9k1 => k_asm); (case q9k2 => k_asm); (case q9k3 => k_asm); (case q9k4 => k_asm); (case q9k5 => k_asm); (case q9k6 => first | exact rfl | assumption); (case q9k7 => ktr_room); (case q9k8 => ktr_units); (case q9u1 => assumption); (case q9u2 => assumption); (case q9u3 => assumption); (case q9u4 => assumption)); intro e9 g9 h9 tk9 F9 U9 R9; (try dsimp only)))))
  trivial

/-- the word of value_changes' loop: W is left -/
inductive VchJ (w : World) (A : RA) (rest : List (Addr × Obj)) (T : Str) (out : Out) (m : Str → Option Value) (W : List (Str × Int)) : List (Addr × Obj) → Prop
  | mk (S' : RS) (c' : Cont) (R : List (Addr × Obj)) (tw : Tok) (o' : Out) : m (Str.ofString "self") = some (.ref A.rd) → m (Str.ofString "word") = some (.str (hdW W) tw) → A.Ok R → RHolds w R S' c' → RAt S' W.tail → S'.at' = hdA T W → S'.T = T → (∀ x ∈ W, x.1 ≠ eS) → W.length ≤ 1000 →
    c'.chs.length ≤ 50 → c'.D = [(s_ "!", 1), (s_ "%", 3)] → VPlan T c' W o' → o' = out → (∀ x ∈ rest, x ∈ R) → VchJ w A rest T out m W (led w.params A S' ++ R)

theorem vch_lines2 : True := by
  (k_with "getAttr ref" => (k_here; k_dflt (first | ((with_reducible show wpAny _ _ (getAttr _ (Str.ofString "words") _) _ _ _); refine' led_words ?q9k1 ?q9k2 ?q9k3 ?_; (case q9k1 => k_asm); (case q9k2 => k_asm); (case q9k3 => k_asm)) | ((with_reducible show wpAny _ _ (getAttr _ (Str.ofString "at") _) _ _ _); refine' led_at ?q9k1 ?q9k2 ?q9k3 ?_; (case q9k1 => k_asm); (case q9k2 => k_asm); (case q9k3 => k_asm)) | ((with_reducible show wpAny _ _ (getAttr _ (Str.ofString "now") _) _ _ _); refine' led_now ?q9k1 ?q9k2 ?q9k3 ?_; (case q9k1 => k_asm); (case q9k2 => k_asm); (case q9k3 => k_asm)))))
  (k_with "getMethod ref" => (k_here; k_dflt (first | ((with_reducible show wpAny _ _ (getMethod _ (Str.ofString "take") _) _ _ _); refine' led_take ?q9k1 ?q9k2 ?q9k3 ?_; (case q9k1 => k_asm); (case q9k2 => k_asm); (case q9k3 => k_asm)) | ((with_reducible show wpAny _ _ (getMethod _ (Str.ofString "until_end") _) _ _ _); refine' led_until ?q9k1 ?q9k2 ?q9k3 ?_; (case q9k1 => k_asm); (case q9k2 => k_asm); (case q9k3 => k_asm)) | ((with_reducible show wpAny _ _ (getMethod _ (Str.ofString "command") _) _ _ _); refine' led_command ?q9k1 ?q9k2 ?q9k3 ?_; (case q9k1 => k_asm); (case q9k2 => k_asm); (case q9k3 => k_asm)) | ((with_reducible show wpAny _ _ (getMethod _ (Str.ofString "change") _) _ _ _); refine' led_change ?q9k1 ?q9k2 ?q9k3 ?_; (case q9k1 => k_asm); (case q9k2 => k_asm); (case q9k3 => k_asm)))))
  (k_with "setAttr ref" => (k_here; k_dflt (refine' led_set_now ?q9k1 ?q9k2 ?q9k3 ?q9k4 ?_; (case q9k1 => k_asm); (case q9k2 => k_asm); (case q9k3 => k_asm); (case q9k4 => k_asm)); intro h' F' N'; (try k_sweep)))
  trivial

theorem vch_spec : ∀ (w : World) (A : RA) (S : RS) (c : Cont) (rest : List (Addr × Obj)) (ws : List (Str × Int)) (out : Out),
    A.Ok rest → RHolds w rest S c → RAt S ws → ws.length ≤ 1000 → c.chs.length ≤ 50 → c.D = [(s_ "!", 1), (s_ "%", 3)] → VPlan S.T c ws out → (Mine.hd.heap_39 w.params = Mine.hd.heap_39 w.params) →
    Both w 166 [.ref A.rd] 40 500 (led w.params A S ++ rest) rest
      (fun _ news' => ∃ c' S' R, out = .ok c' [] ∧ (∀ x ∈ rest, x ∈ R) ∧ news' = led w.params A S' ++ R ∧ A.Ok R ∧ RHolds w R S' c')
      (fun kind a detail => out = .err kind a detail) := by
  unfold Both
  k_fill
  intro w A S c rest ws out hOk hH hAt hlen hcl hcD hP _ mean mg mb dp un gd cn cs a ccd cl outer A₀ base h₀ L m s Q E B F X N Tp hk hd hu hret herr
  have hOk0 := hOk
  obtain ⟨o1, o2, o3, o4, o5, o6, o7, lo, off⟩ := hOk0
  replace o1 := nl o1; replace o2 := nl o2; replace o3 := nl o3; replace o4 := nl o4; replace o5 := nl o5; replace o6 := nl o6; replace o7 := nl o7
  refine wpAny_call ?_
  k_dflt ktr_enter
  ktr_unf
  (rename Fr _ _ _ _ => F'); (rename News _ _ _ _ => N')
  refine While_q (fun n m nx => ∃ W, W.length ≤ n ∧ VchJ w A rest S.T out m W nx) (fun m nx => ∃ c' S' R, out = .ok c' [] ∧ (∀ x ∈ rest, x ∈ R) ∧ nx = led w.params A S' ++ R ∧ A.Ok R ∧ RHolds w R S' c') F' N'
    ⟨ws, Nat.le_refl _, .mk _ c rest _ _ rfl rfl hOk (hH.row (by assumption)) (by assumption) (by assumption) (Row.T (by assumption)) hAt.st.ok hlen hcl hcD hP rfl (fun _ h => h)⟩ ?_ ?_ (by with_unfolding_all passes_own)
  · clear F' N' N hOk hH hAt hlen hP hret hcl hcD
    intro n Qb Qx Hb GG HH m₁ nx h₂ tk₂ R₂
    obtain ⟨W, hWn, R₂⟩ := R₂
    obtain ⟨S', c', R, tw, o', hs, hw, hO, hHR, hSq, hat, hTT, hok, hsz, hchl, hDD, hPl, ho, hsub⟩ := R₂
    have hch1 : c'.chs.length ≤ 100 := Nat.le_trans hchl (by decide)
    revert hw hSq hat hok hsz hWn hHR ho hchl hch1 hDD
    cases hPl with
    | done =>
      intro hWn hw hHR hSq hat hok hsz hchl hDD ho hch1
      refine HH _ _ _ _ ?_
      clear HH GG
      intro F₂ N₂
      dsimp only [hdW, List.tail] at hw hSq
      ktr_unf
      all_goals exact Hb.exit _ _ _ _ (by assumption) (by assumption) ⟨c', _, _, ho.symm, hsub, rfl, by assumption, by assumption⟩
    | @scal _ word v a1 ws2 _ hW hD hq9 hP2 =>
      intro hWn hw hHR hSq hat hok hsz hchl hDD ho hch1
      refine HH _ _ _ _ ?_
      clear HH GG
      intro F₂ N₂
      dsimp only [hdW, List.tail] at hw hSq
      obtain ⟨w1, w2, w3, w4, w5⟩ := hW
      unfold occ at w5
      (have hl : _ ≤ 1000 := Nat.le_of_succ_le hsz)
      ktr_unf
      (rename Row _ _ => Wz); (rename RS.T _ = RS.T _ => Ty); (rename RS.at' _ = hdA _ _ => Az)
      have hTy := Ty.trans hTT
      rw [hTy] at Az
      exact Hb.next _ _ _ _ ws2.length (by assumption) (by assumption) (Nat.lt_of_lt_of_le (Nat.lt_succ_self _) hWn) ⟨ws2, Nat.le_refl _, .mk _ _ _ _ _ (by ktr_rel) (by ktr_rel) (by assumption) (by assumption) (by assumption) (Az) (Wz.T.trans hTy) (fun x hx => hok x (.tail _ hx)) (hl) (by rw [List.length_append]; exact hq9) ((by exact hDD)) hP2 ho (fun x hx => sub_app x (hsub x hx))⟩

    | @scalBad _ word kind detail a1 ws2 hW hD =>
      intro hWn hw hHR hSq hat hok hsz hchl hDD ho hch1
      refine HH _ _ _ _ ?_
      clear HH GG
      intro F₂ N₂
      dsimp only [hdW, List.tail] at hw hSq
      obtain ⟨w1, w2, w3, w4, w5⟩ := hW
      unfold occ at w5
      ktr_unf
      all_goals exact herr _ _ _ (ho.symm.trans (out_at hat)) _ _ _ _ (by assumption) (by assumption) (FErr.drop (by assumption) hsub)
    | @vec _ word nm v a1 b1 ws2 _ hW hD hq9 hP2 =>
      intro hWn hw hHR hSq hat hok hsz hchl hDD ho hch1
      refine HH _ _ _ _ ?_
      clear HH GG
      intro F₂ N₂
      dsimp only [hdW, List.tail] at hw hSq
      obtain ⟨w1, w2, w3, w4, w5, w6⟩ := hW
      unfold occ at w5 w6
      (have hl : _ ≤ 1000 := Nat.le_of_succ_le (Nat.le_of_succ_le hsz))
      ktr_unf
      (rename Row _ _ => Wz); (rename RS.T _ = RS.T _ => Ty); (rename RS.at' _ = hdA _ _ => Az)
      have hTy := Ty.trans (Row.T (by assumption) |>.trans hTT)
      rw [hTy] at Az
      exact Hb.next _ _ _ _ ws2.length (by assumption) (by assumption) (Nat.lt_of_lt_of_le (Nat.lt_succ_of_lt (Nat.lt_succ_self _)) hWn) ⟨ws2, Nat.le_refl _, .mk _ _ _ _ _ (by ktr_rel) (by ktr_rel) (by assumption) (by assumption) (by assumption) (Az) (Wz.T.trans hTy) (fun x hx => hok x (.tail _ (.tail _ hx))) (hl) (by rw [List.length_append]; exact hq9) ((by exact hDD)) hP2 ho (fun x hx => sub_app x (hsub x hx))⟩

    | @vecBad _ word kind detail a1 ws2 hW hD =>
      intro hWn hw hHR hSq hat hok hsz hchl hDD ho hch1
      refine HH _ _ _ _ ?_
      clear HH GG
      intro F₂ N₂
      dsimp only [hdW, List.tail] at hw hSq
      obtain ⟨w1, w2, w3, w4, w5, w6⟩ := hW
      unfold occ at w5 w6
      ktr_unf
      all_goals exact herr _ _ _ (ho.symm.trans (out_at hat)) _ _ _ _ (by assumption) (by assumption) (FErr.drop (by assumption) hsub)
    | @badnum _ word a1 ws2 hW hD =>
      intro hWn hw hHR hSq hat hok hsz hchl hDD ho hch1
      refine HH _ _ _ _ ?_
      clear HH GG
      intro F₂ N₂
      dsimp only [hdW, List.tail] at hw hSq
      obtain ⟨w1, w2, w3, w4⟩ := hW
      ktr_unf
      all_goals exact herr _ _ _ (ho.symm.trans (out_at1 hat)) _ _ _ _ (by assumption) (by assumption) (FErr.drop (by assumption) fun q hq => .tail _ (.tail _ (.tail _ (.tail _ (.tail _ (.tail _ (.tail _ (.tail _ (hsub q hq)))))))))
    | @back _ word k a1 ws2 hW hD hk9 =>
      intro hWn hw hHR hSq hat hok hsz hchl hDD ho hch1
      refine HH _ _ _ _ ?_
      clear HH GG
      intro F₂ N₂
      dsimp only [hdW, List.tail] at hw hSq
      obtain ⟨w1, w2, w3, w4⟩ := hW
      have hk8 : k < S'.now := by rw [hHR.now]; exact hk9
      ktr_unf
      all_goals exact herr _ _ _ (ho.symm.trans (out_at hat)) _ _ _ _ (by assumption) (by assumption) (FErr.drop (by assumption) fun q hq => .tail _ (.tail _ (.tail _ (.tail _ (.tail _ (.tail _ (.tail _ (.tail _ (hsub q hq)))))))))
    | @real _ word a1 ws2 hW =>
      intro hWn hw hHR hSq hat hok hsz hchl hDD ho hch1
      refine HH _ _ _ _ ?_
      clear HH GG
      intro F₂ N₂
      dsimp only [hdW, List.tail] at hw hSq
      obtain ⟨w1, w2, w3, w4, w5, w6, w7⟩ := hW
      unfold occ at w5 w6 w7
      ktr_unf
      all_goals exact herr _ _ _ (ho.symm.trans (out_at hat)) _ _ _ _ (by assumption) (by assumption) (FErr.drop (by assumption) fun q hq => .tail _ (.tail _ (.tail _ (.tail _ (.tail _ (.tail _ (.tail _ (.tail _ (hsub q hq)))))))))
    | @other _ word a1 ws2 hW w8 w9 =>
      intro hWn hw hHR hSq hat hok hsz hchl hDD ho hch1
      refine HH _ _ _ _ ?_
      clear HH GG
      intro F₂ N₂
      dsimp only [hdW, List.tail] at hw hSq
      obtain ⟨w1, w2, w3, w4, w5, w6, w7⟩ := hW
      unfold occ at w5 w6 w7
      ktr_unf
      all_goals exact herr _ _ _ (ho.symm.trans (out_at hat)) _ _ _ _ (by assumption) (by assumption) (FErr.drop (by assumption) (by intro p hp; have hp9 := hsub p hp; repeat (first | exact hp9 | refine List.Mem.tail _ ?_)))
    | @noend _ word a1 ws2 hW w8 hc =>
      intro hWn hw hHR hSq hat hok hsz hchl hDD ho hch1
      refine HH _ _ _ _ ?_
      clear HH GG
      intro F₂ N₂
      dsimp only [hdW, List.tail] at hw hSq
      obtain ⟨w1, w2, w3, w4, w5, w6, w7⟩ := hW
      unfold occ at w5 w6 w7
      (have hl : _ ≤ 1000 := Nat.le_of_succ_le hsz)
      ktr_unf
      all_goals exact herr _ _ _ (ho.symm.trans (out_at hat)) _ _ _ _ (by assumption) (by assumption) (FErr.drop (by assumption) hsub)
    | @time _ word k a1 ws2 _ hW hD hk9 hP2 =>
      intro hWn hw hHR hSq hat hok hsz hchl hDD ho hch1
      refine HH _ _ _ _ ?_
      clear HH GG
      intro F₂ N₂
      dsimp only [hdW, List.tail] at hw hSq
      obtain ⟨w1, w2, w3, w4⟩ := hW
      obtain ⟨T', p', a0', t2', t3', scale', st', now', nt', scv', scn', vav', van', wio', chv', chn'⟩ := S'
      dsimp only at N₂ hat hTT
      have hk8 : now' ≤ k := by have := hHR.now; dsimp only at this; rw [this]; exact hk9
      have fR := (offs hO).1
      (have hl : _ ≤ 1000 := Nat.le_of_succ_le hsz)
      repeat' ((fail_if_success (with_reducible show wpAny _ _ (call (Value.ref 103) _) _ _ _)); first | (k_unfold; (try dsimp only)) | (k_end; wrow_close) | walk1 | (dsimp only; walk1) | (leave1; walk_say "STEP leave1"; try dsimp only) | fail "no step")
      all_goals first
        | (exfalso; simp only [decide_eq_true_eq] at *; omega)
        | skip
      refine' rets_use (take_led w A ⟨T', p', a0', t2', t3', scale', st', k, _, scv', scn', vav', van', wio', chv', chn'⟩ R ws2 hO ?u2) ?k1 ?k2 ?k3 ?k4 ?k5 ?k6 ?k7 ?k8 ?_
      (case k1 => k_asm)
      (case k2 => k_asm)
      (case k3 => k_asm)
      (case k4 => k_asm)
      (case k5 => k_asm)
      (case k6 => first | exact rfl | assumption)
      (case k7 => ktr_room)
      (case k8 => ktr_units)
      case u2 => exact RAt.of hSq rfl rfl
      intro r9 n9 h9 tk9 F9 N9 R9
      obtain ⟨Sx, t9, W9, S9, A9⟩ := R9
      have H9 := RHolds.row (RHolds.time hHR k _) W9
      dsimp only at A9 ⊢
      ktr_unf
      rw [hTT] at A9
      exact Hb.next _ _ _ _ ws2.length (by assumption) (by assumption) (Nat.lt_of_lt_of_le (Nat.lt_succ_self _) hWn) ⟨ws2, Nat.le_refl _, .mk _ _ _ _ _ (by ktr_rel) (by ktr_rel) (hO) (H9) (S9) (A9) (W9.T.trans hTT) (fun x hx => hok x (.tail _ hx)) (hl) (hchl) ((by exact hDD)) hP2 ho (hsub)⟩
  · clear F' N' N hOk hH hAt hlen hP herr
    intro GG HH m₁ nx h₂ tk₂ R₂
    refine HH _ _ _ _ ?_
    clear HH GG
    intro F₂ N₂
    ktr_unf
    all_goals exact hret _ _ _ _ (by assumption) (by assumption) R₂


end Mine
end
section
open PySem PySem.W PySem.Calls PyProof.Rows PyProof.V PySem.Spec
set_option maxHeartbeats 20000000
namespace Mine
theorem rd_lines0 : True := by
  k_with_none
  (k_with "k_room" => ktr_room)
  (k_with "k_all" => assumption)
  (k_with "ktr_rel" => first | assumption | rfl | ((refine (if_neg (by decide)).trans ?_); ktr_rel))
  (k_with "eval Name" => (k_here; k_dflt (refine' ld ?q9k1 ?q9k2 ?_; (case q9k1 => k_asm); (case q9k2 => first | assumption | rfl | ((refine (if_neg (by decide)).trans ?_); first | assumption | ktr_rel)); k_whole)))
  (k_with "exec Raise some none" => (k_here; with_reducible refine fe_raise rfl ?_))
  (k_with "call ref" => (k_here; (with_reducible show wpAny _ _ (call (Value.ref 45) _) _ _ _); k_dflt (first
  | (refine' rets_use2 (fe_make _ _ _ _ _ _ _ _ rfl) ?q9k1 ?q9k2 ?q9k3 ?q9k4 ?q9k5 ?q9k6 ?q9k7 ?q9k8 ?_; (case q9k1 => k_asm); (case q9k2 => k_asm); (case q9k3 => k_asm); (case q9k4 => k_asm); (case q9k5 => k_asm); (case q9k6 => first | exact rfl | assumption); (case q9k7 => ktr_room); (case q9k8 => ktr_units))
  | (refine' rets_use2 (fe_make2 _ _ _ _ _ _ rfl) ?q9k1 ?q9k2 ?q9k3 ?q9k4 ?q9k5 ?q9k6 ?q9k7 ?q9k8 ?_; (case q9k1 => k_asm); (case q9k2 => k_asm); (case q9k3 => k_asm); (case q9k4 => k_asm); (case q9k5 => k_asm); (case q9k6 => first | exact rfl | assumption); (case q9k7 => ktr_room); (case q9k8 => ktr_units))); intro GG9 HH9; refine FeMade.out ?_; intro h9 tk9 e9 d9 p9 _ _ _ _ _ _ l9 m9; refine HH9 _ _ _ _ ?_; clear HH9 GG9; intro F9 N9; (try dsimp only)))
  (k_with "Exists" => (k_here; refine ⟨_, _, _, rfl, by k_in, News.get (by k_asm) (List.Mem.tail _ (List.Mem.head _)), ?_⟩; (try dsimp only)))
  (k_with "leaving ref" => (k_here; first
  | (refine' fe_leave_first ?q9k1 ?q9k2 ?q9k3 ?q9k4 ?q9k5 ?_; (case q9k1 => assumption); (case q9k2 => k_asm); (case q9k3 => k_asm); (case q9k4 => (intro p hp; exact Nat.ne_of_lt (by (first | exact l9 p hp | (rename ∀ p ∈ _, @LT.lt Nat _ _ _ => l9; exact l9 p hp))))); (case q9k5 => exact Nat.ne_of_gt (by assumption)); intro h' R' U'; (try dsimp only at R' U' ⊢))
  | (refine' fe_leave_on ?q9k1 ?q9k2 ?q9k3 ?q9k4 ?_; (case q9k3 => assumption); (case q9k1 => assumption); (case q9k4 => assumption); (case q9k2 => assumption); intro h' R' U'; (try dsimp only at R' U' ⊢))))
  (k_with "subscriptTail" => (k_here; (with_reducible show wpAny _ _ (subscriptTail _ _ (Value.str _ _) (Value.int _ _)) _ _ _); (refine item_str (fitsSsize_of (N := 9223372036854775808) (by omega) (by omega) (Int.le_refl _)) (by omega) (by omega) ?_); intro hlen9))
  (k_with "ktr_unf" => repeat' ((fail_if_success (with_reducible show wpAny _ _ (exec (Stmt.While _ _ _ _) _) _ _ _)); first | (k_unfold; (try dsimp only)) | (k_end; wrow_close) | walk1 | (dsimp only; walk1) | (leave1; walk_say "STEP leave1"; try dsimp only) | fail "no step"))
  (k_with "subscriptTail" => (k_here; (with_reducible show wpAny _ _ (subscriptTail _ (Expr.Slice (some _) (some _) none _) (Value.str _ _) (Value.ref _)) _ _ _); (with_reducible rename Fr _ _ _ _ => F'); (with_reducible rename News _ _ _ _ => N'); (refine slice_strN_ss (hsz := ?q9hsz) (s := ⟨_, _, _, _, _⟩) F' N' ?_); (case q9hsz => (rw [sizeLine_eq]; omega)); intro _ _ _ _ _))
  (k_with "k_updF" => first | (refine' UpdF.head ?q9a; (case q9a => k_all)) | (refine' UpdF.tail ?q9a ?q9b; (case q9a => k_ne); (case q9b => k_updF)))
  (k_with "kwd_rel" => first | exact List.forall_mem_nil _ | ((refine' List.forall_mem_cons.mpr ⟨?q9aa, ?q9bb⟩); (case q9aa => k_mem); (case q9bb => kwd_rel)) | (intro p hp; repeat (first | exact hp | refine List.Mem.tail _ ?_)))
  trivial

theorem mem9 {α : Type} {x : α} {l : List α} {a b c d e f g i j : α} (h : x ∈ l) : x ∈ a :: b :: c :: d :: e :: f :: g :: i :: j :: l := .tail _ (.tail _ (.tail _ (.tail _ (.tail _ (.tail _ (.tail _ (.tail _ (.tail _ h))))))))
def c00 : Cont := ⟨s_ "", [], [], [], [], 0⟩
/-- how the whole reading goes -/
def RPlan (T : Str) (ws : List (Str × Int)) (out : Out) : Prop :=
  ∃ od, DPlan T c00 ws od ∧ ((∃ k a d, od = .err k a d ∧ out = .err k a d) ∨ ∃ c ws', od = .ok c ws' ∧ ws'.length ≤ 1000 ∧ c.chs.length ≤ 50 ∧ c.D = [(s_ "!", 1), (s_ "%", 3)] ∧ VPlan T c ws' out)
theorem rd_lines1 : True := by
  (k_with "ktr_unf" => repeat' ((fail_if_success (with_reducible show wpAny _ _ (call (Value.ref 145) _) _ _ _)); (fail_if_success (with_reducible show wpAny _ _ (call (Value.ref 166) _) _ _ _)); first | (k_unfold; (try dsimp only)) | (k_end; wrow_close) | walk1 | (dsimp only; walk1) | (leave1; walk_say "STEP leave1"; try dsimp only) | fail "no step"))
  trivial

theorem decl_out {w : World} {A : RA} {S : RS} {T : Str} {rest : List (Addr × Obj)} {od out : Out} {G : Value → List (Addr × Obj) → Heap → Nat → Prop}
    (hcase : (∃ k a d, od = .err k a d ∧ out = .err k a d) ∨ ∃ c ws', od = .ok c ws' ∧ ws'.length ≤ 1000 ∧ c.chs.length ≤ 50 ∧ c.D = [(s_ "!", 1), (s_ "%", 3)] ∧ VPlan T c ws' out)
    (k : ∀ r h' tk' S' R c ws', ws'.length ≤ 1000 → c.chs.length ≤ 50 → c.D = [(s_ "!", 1), (s_ "%", 3)] → VPlan T c ws' out → (∀ x ∈ rest, x ∈ R) → A.Ok R → RHolds w R S' c → RAt S' ws' → S'.T = S.T → G r (led w.params A S' ++ R) h' tk') :
    ∀ r n h' tk', (∃ c' ws' S' R, od = .ok c' ws' ∧ (∀ x ∈ rest, x ∈ R) ∧ n = led w.params A S' ++ R ∧ A.Ok R ∧ RHolds w R S' c' ∧ RAt S' ws' ∧ S'.T = S.T) → G r n h' tk' := by
  rintro r n h' tk' ⟨c', ws', S', R, hod, hsub, rfl, hO, hHR, hA, hT'⟩
  rcases hcase with ⟨_, _, _, h1, _⟩ | ⟨c2, ws2, h1, hl2, hc2, hd2, hv⟩
  · rw [h1] at hod; exact nomatch hod
  rw [h1] at hod
  obtain ⟨rfl, rfl⟩ := Out.ok.inj hod
  exact k _ _ _ _ _ _ _ hl2 hc2 hd2 hv hsub hO hHR hA hT'
theorem vch_out {w : World} {A : RA} {rest : List (Addr × Obj)} {out : Out} {G : Value → List (Addr × Obj) → Heap → Nat → Prop}
    (k : ∀ r h' tk' c S' R, out = .ok c [] → (∀ x ∈ rest, x ∈ R) → RHolds w R S' c → G r (led w.params A S' ++ R) h' tk') :
    ∀ r n h' tk', (∃ c' S' R, out = .ok c' [] ∧ (∀ x ∈ rest, x ∈ R) ∧ n = led w.params A S' ++ R ∧ A.Ok R ∧ RHolds w R S' c') → G r n h' tk' := by
  rintro r n h' tk' ⟨c', S', R, ho, hsub, rfl, _, hH⟩
  exact k _ _ _ _ _ _ ho hsub hH

theorem rd_spec : ∀ (w : World) (news : List (Addr × Obj)) (T : Str) (t : Tok) (ws : List (Str × Int)) (out : Out), Strm T 0 ws → T.length < 1000000 → ws.length ≤ 1000 → RPlan T ws out → (Mine.hd.heap_39 w.params = Mine.hd.heap_39 w.params) → 
    Both w 187 [.str T t] 60 900 news news
      (fun r news' => ∃ c', out = .ok c' [] ∧ (∀ x ∈ news, x ∈ news') ∧ DatIn news' r (.tuple [.str c'.scale, .list c'.vars, .list c'.chs]))
      (fun kind a detail => out = .err kind a detail) := by
  unfold Both
  k_fill
  intro w news T t ws out hS hT hlen hP _ mean mg mb dp un gd cn cs a ccd cl outer A₀ base h₀ L m s Q E B F X N Tp hk hd hu hret herr
  refine hide0 ?_
  intro GG HH
  obtain ⟨od, hD, hcase⟩ := hP
  refine HH ?_
  clear HH GG
  refine wpAny_call ?_
  k_dflt ktr_enter
  ktr_unf
  (rename Obj.IsDictOf (PySem.strKind _ _) _ _ => hio); (rename FlatPairs PyData.str _ _ => hfl); (rename (_ == sysModules) = false => hlo)
  refine' both_use2 (decl_spec w (RA.mk _ _ _ _ _ _ _ _ _ _ _ _ _ _ _ _ _ _ _ ) (RS.mk T 0 0 _ _ (s_ "") _ 0 _ [] 0 [] 0 _ [] 0) c00 news ws od ?hOk ?hH ⟨Int.le_refl 0, hS, hT⟩ hlen hD rfl) ?k1 ?k2 ?k3 ?k4 ?k5 ?k6 ?k7 ?k8 ?_ ?_
  (case k1 => k_asm)
  (case k2 => k_asm)
  (case k3 => k_asm)
  (case k4 => k_asm)
  (case k5 => k_asm)
  (case k6 => first | exact rfl | assumption)
  (case k7 => ktr_room)
  (case k8 => ktr_units)
  case hH => exact ⟨rfl, rfl, .nil, .nil, .nil, ⟨_, hio, hfl⟩⟩
  case hOk =>
    (rename ∀ p ∈ news, @LT.lt Nat _ _ _ => l9)
    (rename _ ∧ _ ∧ AllLt _ news => la); (rename _ ∧ _ ∧ _ ∧ _ ∧ AllLt _ news => lb); (rename _ ∧ _ ∧ _ ∧ _ ∧ _ ∧ AllLt _ news => lc); (rename _ ∧ _ ∧ _ ∧ _ ∧ _ ∧ _ ∧ AllLt _ news => ld); (rename _ ∧ _ ∧ _ ∧ _ ∧ _ ∧ _ ∧ _ ∧ AllLt _ news => le)
    exact ⟨by assumption, la.1, by assumption, lb.1, lc.1, ld.1, le.1, hlo, fun x hx => .inl (l9 x hx)⟩
  · intro GG HH
    refine decl_out hcase ?_
    intro r9 h9 tk9 S' R c2 ws2 hl2 hc2 hd2 hv hsub hO hHR hA hT'
    refine HH _ _ _ _ ?_
    clear HH GG
    intro F9 N9
    unfold led rdDict at N9
    simp only [List.cons_append, List.nil_append] at N9
    dsimp only
    ktr_unf
    refine' both_use2 (vch_spec w _ S' c2 R ws2 out hO hHR hA hl2 hc2 hd2 (by rw [hT']; exact hv) rfl) ?j1 ?j2 ?j3 ?j4 ?j5 ?j6 ?j7 ?j8 ?_ ?_
    (case j1 => k_asm)
    (case j2 => k_asm)
    (case j3 => k_asm)
    (case j4 => k_asm)
    (case j5 => k_asm)
    (case j6 => first | exact rfl | assumption)
    (case j7 => ktr_room)
    (case j8 => ktr_units)
    · intro GG HH
      refine vch_out ?_
      intro r8 h8 tk8 c3 S3 R3 ho3 hsub3 hH3
      refine HH _ _ _ _ ?_
      clear HH GG
      intro F8 N8
      unfold led rdDict at N8
      simp only [List.cons_append, List.nil_append] at N8
      dsimp only
      ktr_unf
      refine' hret _ _ _ _ (by assumption) (by assumption) ⟨c3, ho3, fun x hx => mem9 (hsub3 x (hsub x hx)), .tuple (.head _) (.cons ?sc (.cons (.list ?m1 (hH3.vars.mono fun x hx => mem9 hx)) (.cons (.list ?m2 (hH3.chs.mono fun x hx => mem9 hx)) .nil)))⟩
      case sc => rw [← hH3.scale]; exact .str _ _
      case m1 => exact .tail _ (.tail _ (.tail _ (.head _)))
      case m2 => exact .tail _ (.head _)
    · intro k8 a8 d8 Z8 e8 g8 h8 tk8 F8 U8 R8
      dsimp only
      ktr_unf
      all_goals exact herr _ _ _ Z8 _ _ _ _ (by assumption) (by assumption) (FErr.drop (by assumption) hsub)
  · intro k8 a8 d8 Z8 e8 g8 h8 tk8 F8 U8 R8
    refine hide0 ?_
    intro GG HH
    rcases hcase with ⟨k7, a7, d7, h1, h2⟩ | ⟨c2, ws2, h1, _⟩
    · rw [h1] at Z8
      obtain ⟨rfl, rfl, rfl⟩ := Out.err.inj Z8
      refine HH ?_
      clear HH GG
      dsimp only
      ktr_unf
      all_goals exact herr _ _ _ h2 _ _ _ _ (by assumption) (by assumption) (by assumption)
    · rw [h1] at Z8; exact nomatch Z8


end Mine
end
section
open PySem PySem.W PySem.Calls PyProof.Rows PyProof.V PySem.Spec
set_option maxHeartbeats 20000000
namespace Mine
theorem lr_lines0 : True := by
  k_with_none
  (k_with "k_room" => ktr_room)
  (k_with "k_all" => assumption)
  (k_with "ktr_rel" => first | assumption | rfl | ((refine (if_neg (by decide)).trans ?_); ktr_rel))
  (k_with "eval Name" => (k_here; k_dflt (refine' ld ?q9k1 ?q9k2 ?_; (case q9k1 => k_asm); (case q9k2 => first | assumption | rfl | ((refine (if_neg (by decide)).trans ?_); first | assumption | ktr_rel)); k_whole)))
  (k_with "exec Raise some none" => (k_here; with_reducible refine fe_raise rfl ?_))
  (k_with "call ref" => (k_here; (with_reducible show wpAny _ _ (call (Value.ref 45) _) _ _ _); k_dflt (first
  | (refine' rets_use2 (fe_make _ _ _ _ _ _ _ _ rfl) ?q9k1 ?q9k2 ?q9k3 ?q9k4 ?q9k5 ?q9k6 ?q9k7 ?q9k8 ?_; (case q9k1 => k_asm); (case q9k2 => k_asm); (case q9k3 => k_asm); (case q9k4 => k_asm); (case q9k5 => k_asm); (case q9k6 => first | exact rfl | assumption); (case q9k7 => ktr_room); (case q9k8 => ktr_units))
  | (refine' rets_use2 (fe_make2 _ _ _ _ _ _ rfl) ?q9k1 ?q9k2 ?q9k3 ?q9k4 ?q9k5 ?q9k6 ?q9k7 ?q9k8 ?_; (case q9k1 => k_asm); (case q9k2 => k_asm); (case q9k3 => k_asm); (case q9k4 => k_asm); (case q9k5 => k_asm); (case q9k6 => first | exact rfl | assumption); (case q9k7 => ktr_room); (case q9k8 => ktr_units))); intro GG9 HH9; refine FeMade.out ?_; intro h9 tk9 e9 d9 p9 _ _ _ _ _ _ l9 m9; refine HH9 _ _ _ _ ?_; clear HH9 GG9; intro F9 N9; (try dsimp only)))
  (k_with "Exists" => (k_here; refine ⟨_, _, _, rfl, by k_in, News.get (by k_asm) (List.Mem.tail _ (List.Mem.head _)), ?_⟩; (try dsimp only)))
  (k_with "leaving ref" => (k_here; first
  | (refine' fe_leave_first ?q9k1 ?q9k2 ?q9k3 ?q9k4 ?q9k5 ?_; (case q9k1 => assumption); (case q9k2 => k_asm); (case q9k3 => k_asm); (case q9k4 => (intro p hp; exact Nat.ne_of_lt (by (first | exact l9 p hp | (rename ∀ p ∈ _, @LT.lt Nat _ _ _ => l9; exact l9 p hp))))); (case q9k5 => exact Nat.ne_of_gt (by assumption)); intro h' R' U'; (try dsimp only at R' U' ⊢))
  | (refine' fe_leave_on ?q9k1 ?q9k2 ?q9k3 ?q9k4 ?_; (case q9k3 => assumption); (case q9k1 => assumption); (case q9k4 => assumption); (case q9k2 => assumption); intro h' R' U'; (try dsimp only at R' U' ⊢))))
  (k_with "subscriptTail" => (k_here; (with_reducible show wpAny _ _ (subscriptTail _ _ (Value.str _ _) (Value.int _ _)) _ _ _); (refine item_str (fitsSsize_of (N := 9223372036854775808) (by omega) (by omega) (Int.le_refl _)) (by omega) (by omega) ?_); intro hlen9))
  (k_with "ktr_unf" => repeat' ((fail_if_success (with_reducible show wpAny _ _ (exec (Stmt.While _ _ _ _) _) _ _ _)); first | (k_unfold; (try dsimp only)) | (k_end; wrow_close) | walk1 | (dsimp only; walk1) | (leave1; walk_say "STEP leave1"; try dsimp only) | fail "no step"))
  (k_with "subscriptTail" => (k_here; (with_reducible show wpAny _ _ (subscriptTail _ (Expr.Slice (some _) (some _) none _) (Value.str _ _) (Value.ref _)) _ _ _); (with_reducible rename Fr _ _ _ _ => F'); (with_reducible rename News _ _ _ _ => N'); (refine slice_strN_ss (hsz := ?q9hsz) (s := ⟨_, _, _, _, _⟩) F' N' ?_); (case q9hsz => (rw [sizeLine_eq]; omega)); intro _ _ _ _ _))
  (k_with "k_updF" => first | (refine' UpdF.head ?q9a; (case q9a => k_all)) | (refine' UpdF.tail ?q9a ?q9b; (case q9a => k_ne); (case q9b => k_updF)))
  (k_with "kwd_rel" => first | exact List.forall_mem_nil _ | ((refine' List.forall_mem_cons.mpr ⟨?q9aa, ?q9bb⟩); (case q9aa => k_mem); (case q9bb => kwd_rel)) | (intro p hp; repeat (first | exact hp | refine List.Mem.tail _ ?_)))
  (k_with "call ref" => (k_here; (with_reducible show wpAny _ _ (call (Value.ref 187) _) _ _ _); k_dflt (refine' both_use (rd_spec _ _ _ _ _ _ ?q9u1 ?q9u2 ?q9u3 ?q9u4 rfl) ?q9k1 ?q9k2 ?q9k3 ?q9k4 ?q9k5 ?q9k6 ?q9k7 ?q9k8 ?_ ?_; (case q9k1 => k_asm); (case q9k2 => k_asm); (case q9k3 => k_asm); (case q9k4 => k_asm); (case q9k5 => k_asm); (case q9k6 => first | exact rfl | assumption); (case q9k7 => ktr_room); (case q9k8 => ktr_units); (case q9u1 => assumption); (case q9u2 => assumption); (case q9u3 => assumption); (case q9u4 => assumption)); (first | (intro r9 n9 h9 tk9 F9 N9 R9) | (intro k9 a9 d9 Z9 e9 g9 h9 tk9 F9 U9 R9)); (try dsimp only)))
  (k_with "getAttr ref" => (k_here; k_dflt (refine' fe_get ?q9X ?q9I ?q9hn ?q9hl ?q9hh ?_; (case q9X => k_in); (case q9I => exact ⟨News.get (by k_asm) (.tail _ (.head _)), rfl, rfl, News.get (by k_asm) (.head _)⟩); (case q9hn => kernel_rfl); (case q9hl => rfl); (case q9hh => rfl))))
  trivial

theorem CallerT.back {h₀ g h' : Heap} {L L' : Addr} {m m' : Str → Option Value} {oL : Obj} {sl : Array (Option Value)} {pre keep : List (Addr × Obj)} (C : CallerT h₀ L m g oL) (F' : Fr h₀ L' h' m')
    (N' : News h₀ L' h' (pre ++ (L, { oL with slots := sl }) :: keep)) (h1 : ∀ p ∈ pre, p.1 ≠ L) (h2 : ∀ p ∈ keep, p.1 ≠ L) : Fr h₀ L h' m ∧ News h₀ L h' (pre ++ keep) := by
  have hL := (N' (L, { oL with slots := sl }) (List.mem_append_right _ (.head _))).1
  refine ⟨⟨C.ns sl _ hL, F'.keep, C.above⟩, fun p hp => ?_⟩
  rcases List.mem_append.mp hp with hp | hp
  · have := N' p (List.mem_append_left _ hp)
    exact ⟨this.1, h1 p hp, this.2.2⟩
  · have := N' p (List.mem_append_right _ (.tail _ hp))
    exact ⟨this.1, h2 p hp, this.2.2⟩

/-- as Rets, at the law's own level (base = h₀, nothing below) -/
def RetsL (w : World) (f : Addr) (vs : List Value) (nd nu : Nat) (news : List (Addr × Obj)) (R : Value → List (Addr × Obj) → Prop) : Prop :=
  ∀ (mean : ExcName → Option Value) (mg mb : Str → Option Value) (dp un : Nat) (gd : Option (List Code)) (cn : Str) (cs : Scope) (a : Addr) (ccd : Value) (cl : List (Str × Addr)) (A₀ : Around) (h₀ : Heap) (L : Addr) (m : Str → Option Value) (s : Shared) (Q E : Value → Shared → Prop),
    Below A₀ h₀ [] h₀ → Fr h₀ L s.heap m → (Mine.hd.heap_39 w.params).In h₀ → News h₀ L s.heap news → TopM mean mg mb h₀ → cs.kind = .function → dp + nd < recursionLimit → un + nu < cLine →
    (∀ r news' h' tk', Fr h₀ L h' m → News h₀ L h' news' → R r news' → Q r { s with heap := h', toks := tk' }) →
    wpAny (model PySem.Challenge.rw_on0102_01.row.prog w) (ktrTop dp un gd cn cs L a ccd cl []) (call (.ref f) vs) Q E s
theorem retsL_use {w : World} {f : Addr} {vs : List Value} {nd nu : Nat} {news : List (Addr × Obj)} {R : Value → List (Addr × Obj) → Prop}
  {mean : ExcName → Option Value} {mg mb : Str → Option Value} {dp un : Nat} {gd : Option (List Code)} {cn : Str} {cs : Scope} {a : Addr} {ccd : Value} {cl : List (Str × Addr)} {A₀ : Around} {h₀ : Heap} {L : Addr} {m : Str → Option Value} {s : Shared} {Q E : Value → Shared → Prop}
    (C : RetsL w f vs nd nu news R) (B : Below A₀ h₀ [] h₀) (F : Fr h₀ L s.heap m) (X : (Mine.hd.heap_39 w.params).In h₀) (N : News h₀ L s.heap news) (T : TopM mean mg mb h₀) (hk : cs.kind = .function) (hd : dp + nd < recursionLimit) (hu : un + nu < cLine)
    (ret : ∀ r news' h' tk', Fr h₀ L h' m → News h₀ L h' news' → R r news' → Q r { s with heap := h', toks := tk' }) :
    wpAny (model PySem.Challenge.rw_on0102_01.row.prog w) (ktrTop dp un gd cn cs L a ccd cl []) (call (.ref f) vs) Q E s := C _ _ _ _ _ _ _ _ _ _ _ _ _ _ _ _ _ _ B F X N T hk hd hu ret
theorem retsL_use2 {w : World} {f : Addr} {vs : List Value} {nd nu : Nat} {news : List (Addr × Obj)} {R : Value → List (Addr × Obj) → Prop}
  {mean : ExcName → Option Value} {mg mb : Str → Option Value} {dp un : Nat} {gd : Option (List Code)} {cn : Str} {cs : Scope} {a : Addr} {ccd : Value} {cl : List (Str × Addr)} {A₀ : Around} {h₀ : Heap} {L : Addr} {m : Str → Option Value} {s : Shared} {Q E : Value → Shared → Prop}
    (C : RetsL w f vs nd nu news R) (B : Below A₀ h₀ [] h₀) (F : Fr h₀ L s.heap m) (X : (Mine.hd.heap_39 w.params).In h₀) (N : News h₀ L s.heap news) (T : TopM mean mg mb h₀) (hk : cs.kind = .function) (hd : dp + nd < recursionLimit) (hu : un + nu < cLine)
    (ret : ∀ G : Value → List (Addr × Obj) → Heap → Nat → Prop, (∀ r news' h' tk', (Fr h₀ L h' m → News h₀ L h' news' → Q r { s with heap := h', toks := tk' }) → G r news' h' tk') → ∀ r news' h' tk', R r news' → G r news' h' tk') :
    wpAny (model PySem.Challenge.rw_on0102_01.row.prog w) (ktrTop dp un gd cn cs L a ccd cl []) (call (.ref f) vs) Q E s := retsL_use C B F X N T hk hd hu (fun r n h' tk' F' N' R' => ret (fun r n h' tk' => Fr h₀ L h' m → News h₀ L h' n → Q r { s with heap := h', toks := tk' }) (fun _ _ _ _ p => p) r n h' tk' R' F' N')

theorem lr_spec : ∀ (w : World) (news : List (Addr × Obj)) (T : Str) (t : Tok) (ws : List (Str × Int)) (out : Out), Strm T 0 ws → T.length < 1000000 → ws.length ≤ 1000 → RPlan T ws out → (Mine.hd.heap_39 w.params = Mine.hd.heap_39 w.params) → 
    RetsL w 222 [.str T t] 70 1000 news
      (fun r news' => (∀ x ∈ news, x ∈ news') ∧ ((∃ c', out = .ok c' [] ∧ DatIn news' r (.tuple [.str c'.scale, .list c'.vars, .list c'.chs])) ∨ ∃ kind a detail, out = .err kind a detail ∧ DatIn news' r (.tuple [.str kind, .int a, .str detail]))) := by
  unfold RetsL
  k_fill
  intro w news T t ws out hS hT hlen hP _ mean mg mb dp un gd cn cs a ccd cl A₀ h₀ L m s Q E B F X N Tp hk hd hu hret
  refine wpAny_call ?_
  have X0 := X
  have T0 := Tp
  k_dflt (refine' code_try ?k1 ?k2 ?k3 ?k4 ?k5 ?kA ?kF ?kK ?k6 ?k7 ?k8 ?k9 ?kB ?_ ?c2 ?c3 ?c4 ?c5; (case kA => exact rfl); (case kF => exact rfl); (case kK => assumption); (case k1 => k_asm); (case k2 => k_asm); (case k3 => k_asm); (case k4 => k_asm); (case k5 => k_asm); (case k6 => k_is); (case k7 => k_is); (case k8 => ktr_room); (case k9 => exact BindsTo.of_eq rfl); (case c5 => decide); (case kB => exact locs rfl); (case c2 => exact rfl); (case c3 => exact rfl); (case c4 => exact rfl); k_whole; intro g' L' h' oL9 FG' F' N' B' X' T' cT9 hsz9; (try dsimp only); (try k_fold))
  k_steps
  · (rename ∃ _, _ => R9)
    obtain ⟨c9, o9, s9, d9⟩ := R9
    exact Or.inl ⟨_, _, _, by assumption, by assumption, fun F8 N8 => hret _ _ _ _ F8 N8 ⟨s9, .inl ⟨c9, o9, d9⟩⟩⟩
  · (rename FErr _ _ _ _ _ _ _ _ _ => fX); (rename Heap.UpToSlots _ _ => uX)
    with_unfolding_all refine' fe_caught rfl hsz9 ?F uX fX rfl cT9.at' cT9.dict X0 (topRead_of T0) ?ex ?_
    case F => assumption
    case ex => kernel_rfl
    clear fX uX
    intro h' d9 ws9 sl9 k19 k29 k39 t19 t29 t39 tk9 F9 N9 O9
    have X9 := X0
    have T9 := T0
    k_steps
    (rename _ ∧ _ ∧ _ ∧ AllLt _ _ => l9); (rename News h₀ L' _ _ => N8); (rename Fr h₀ L' _ _ => F8)
    obtain ⟨F7, N7⟩ := CallerT.back (pre := [_, _, _]) (keep := news) cT9 F8 N8 (List.forall_mem_cons.mpr ⟨Nat.ne_of_gt l9.2.2.1, List.forall_mem_cons.mpr ⟨O9.1, List.forall_mem_cons.mpr ⟨O9.2.1, fun _ h => nomatch h⟩⟩⟩) O9.2.2
    exact Or.inr (hret _ _ _ _ F7 N7 ⟨fun x hx => List.mem_append_right _ hx, .inr ⟨_, _, _, by assumption, .tuple (.head _) (.cons (.str _ _) (.cons (.int _ _) (.cons (.str _ _) .nil)))⟩⟩)


end Mine
end
section
open PySem PySem.W PySem.Calls PyProof.Rows PyProof.V PySem.Spec
set_option maxHeartbeats 20000000
namespace Mine
/- a written display: its expression, its datum; its leaves may be any that LF admits -/
mutual
inductive Lt (LF : PySem.Expr → Dat → Prop) : PySem.Expr → Dat → Prop
  | str {x : Str} {k : Nat} {pos : Pos} : Lt LF (.Constant (.str x) k pos) (.str x)
  | int {i : Int} {k : Nat} {pos : Pos} : Lt LF (.Constant (.int i) k pos) (.int i)
  | neg {i : Int} {k : Nat} {pos pos' : Pos} : Lt LF (.UnaryOp .USub (.Constant (.int i) k pos) pos') (.int (-i))
  | leaf {e : PySem.Expr} {d : Dat} : LF e d → Lt LF e d
  | list {es : List PySem.Expr} {ds : List Dat} {pos : Pos} : Lts LF es ds → es.length ≤ 1000 → Lt LF (.List es pos) (.list ds)
  | tuple {es : List PySem.Expr} {ds : List Dat} {k : Nat} {pos : Pos} : Lts LF es ds → es.length ≤ 1000 → Lt LF (.Tuple es k pos) (.tuple ds)
inductive Lts (LF : PySem.Expr → Dat → Prop) : List PySem.Expr → List Dat → Prop
  | nil : Lts LF [] []
  | cons {e : PySem.Expr} {d : Dat} {es : List PySem.Expr} {ds : List Dat} : Lt LF e d → Lts LF es ds → Lts LF (e :: es) (d :: ds)
end
theorem lt_app {tl2 tl1 news : List (Addr × Obj)} (h1 : ∀ x ∈ tl1, ∀ y ∈ news, @LT.lt Nat _ y.1 x.1) (h2 : ∀ x ∈ tl2, ∀ y ∈ tl1 ++ news, @LT.lt Nat _ y.1 x.1) : ∀ x ∈ tl2 ++ tl1, ∀ y ∈ news, @LT.lt Nat _ y.1 x.1 := fun x hx y hy => by
  rcases List.mem_append.mp hx with hx | hx
  · exact h2 x hx y (List.mem_append_right _ hy)
  · exact h1 x hx y hy
theorem Lts.len {LF : PySem.Expr → Dat → Prop} : ∀ {es : List PySem.Expr} {ds : List Dat}, Lts LF es ds → es.length = ds.length
  | _, _, .nil => rfl
  | _, _, .cons _ h => by rw [List.length_cons, List.length_cons, Lts.len h]
section
variable {prog : Program} {w : World} {A : Around} {E : Value → Shared → Prop} {env : Env} {h₀ : Heap} {L : Addr} {m : Str → Option Value} {LF : PySem.Expr → Dat → Prop} {base : List (Addr × Obj)}
/-- a leaf is read off the ledger's part base -/
def LeafOk (prog : Program) (w : World) (A : Around) (E : Value → Shared → Prop) (env : Env) (h₀ : Heap) (L : Addr) (m : Str → Option Value) (LF : PySem.Expr → Dat → Prop) (base : List (Addr × Obj)) : Prop :=
  ∀ e d, LF e d → (∀ rest, starEach (e :: rest) env = (false, eval e env) :: starEach rest env) ∧ ∀ (s : Shared) (news : List (Addr × Obj)) (Q : Value → Shared → Prop), Fr h₀ L s.heap m → News h₀ L s.heap news → (∀ p ∈ base, p ∈ news) →
    (∀ v tk, DatIn base v d → Q v { s with toks := tk }) → wpAny (model prog w) A (eval e env) Q E s
theorem Lt.plain {e : PySem.Expr} {d : Dat} {rest : List PySem.Expr} (K : LeafOk prog w A E env h₀ L m LF base) (h : Lt LF e d) : starEach (e :: rest) env = (false, eval e env) :: starEach rest env := by
  cases h with
  | leaf h => exact (K _ _ h).1 _
  | _ => rfl
mutual
theorem Lt.eval (K : LeafOk prog w A E env h₀ L m LF base) : ∀ {e : PySem.Expr} {d : Dat}, Lt LF e d → ∀ {s : Shared} {news : List (Addr × Obj)} {Q : Value → Shared → Prop}, Fr h₀ L s.heap m → News h₀ L s.heap news → (∀ p ∈ base, p ∈ news) →
    (∀ v tl h' tk, Fr h₀ L h' m → News h₀ L h' (tl ++ news) → DatIn (tl ++ base) v d → (∀ x ∈ tl, ∀ y ∈ news, @LT.lt Nat _ y.1 x.1) → Q v { s with heap := h', toks := tk }) → wpAny (model prog w) A (eval e env) Q E s
  | _, _, .str, s, news, Q, F, N, _, h => Calls.Constant_str (h _ [] s.heap _ F N (.str _ _) (fun _ hx => nomatch hx))
  | _, _, .int, s, news, Q, F, N, _, h => wpAny_Constant_int (h _ [] s.heap _ F N (.int _ _) (fun _ hx => nomatch hx))
  | _, _, .neg, s, news, Q, F, N, _, h => UnaryOp_ (wpAny_Constant_int (neg_int (h _ [] s.heap _ F N (.int _ _) (fun _ hx => nomatch hx))))
  | _, _, .leaf hl, s, news, Q, F, N, hb, h => (K _ _ hl).2 s news Q F N hb fun v tk D => h v [] s.heap tk F N D (fun _ hx => nomatch hx)
  | _, _, .list hs hz, s, news, Q, F, N, hb, h => List_ (Lts.eval K hs F N hb fun vs tl h' tk F' N' D l => newList_N F' N' (fun h'' F'' N'' => by
      refine h _ ((_, _) :: tl) h'' tk F'' N'' (.list (.head _) (D.mono fun p hp => .tail _ hp)) fun x hx y hy => ?_
      rcases List.mem_cons.mp hx with rfl | hx
      · exact Heap.lt_size (N' y (List.mem_append_right _ hy)).1
      · exact l x hx y hy) (by rw [D.length, ← hs.len, sizeLine_eq]; omega))
  | _, _, .tuple hs hz, s, news, Q, F, N, hb, h => Tuple_ (Lts.eval K hs F N hb fun vs tl h' tk F' N' D l => newTuple_N F' N' (fun h'' F'' N'' => by
      refine h _ ((_, _) :: tl) h'' tk F'' N'' (.tuple (.head _) (D.mono fun p hp => .tail _ hp)) fun x hx y hy => ?_
      rcases List.mem_cons.mp hx with rfl | hx
      · exact Heap.lt_size (N' y (List.mem_append_right _ hy)).1
      · exact l x hx y hy) (by rw [D.length, ← hs.len, sizeLine_eq]; omega))
theorem Lts.eval (K : LeafOk prog w A E env h₀ L m LF base) : ∀ {es : List PySem.Expr} {ds : List Dat}, Lts LF es ds → ∀ {s : Shared} {pos : Pos} {news : List (Addr × Obj)} {Q : List Value → Shared → Prop}, Fr h₀ L s.heap m → News h₀ L s.heap news → (∀ p ∈ base, p ∈ news) →
    (∀ vs tl h' tk, Fr h₀ L h' m → News h₀ L h' (tl ++ news) → DatAll (tl ++ base) vs ds → (∀ x ∈ tl, ∀ y ∈ news, @LT.lt Nat _ y.1 x.1) → Q vs { s with heap := h', toks := tk }) → wpAny (model prog w) A (spliced (backTo pos (starEach es env))) Q E s
  | _, _, .nil, s, pos, news, Q, F, N, _, h => spliced_none (h [] [] s.heap s.toks F N .nil (fun _ hx => nomatch hx))
  | _, _, .cons he hs, s, pos, news, Q, F, N, hb, h => spliced_more (Lt.eval K he F N hb fun v tl h' tk F' N' D l => Lts.eval K hs F' N' (fun p hp => List.mem_append_right _ (hb p hp)) fun vs tl2 h'' tk2 F'' N'' D2 l2 => by
      refine h (v :: vs) (tl2 ++ tl) h'' tk2 F'' (by rw [List.append_assoc]; exact N'') ?_ (lt_app l l2)
      exact .cons (D.mono fun p hp => by rw [List.append_assoc]; exact List.mem_append_right _ hp) (D2.mono fun p hp => by
        rcases List.mem_append.mp hp with hp | hp
        · exact List.mem_append_left _ (List.mem_append_left _ hp)
        · exact List.mem_append_right _ hp)) (he.plain K)
end
abbrev NoL : PySem.Expr → Dat → Prop := fun _ _ => False
theorem lt_eval0 {e : PySem.Expr} {d : Dat} (h : Lt NoL e d) {s : Shared} {news : List (Addr × Obj)} {Q : Value → Shared → Prop} (F : Fr h₀ L s.heap m) (N : News h₀ L s.heap news)
    (k : ∀ v tl h' tk, Fr h₀ L h' m → News h₀ L h' (tl ++ news) → DatIn tl v d → (∀ x ∈ tl, ∀ y ∈ news, @LT.lt Nat _ y.1 x.1) → Q v { s with heap := h', toks := tk }) : wpAny (model prog w) A (eval e env) Q E s :=
  Lt.eval (base := []) (fun _ _ h => h.elim) h F N (fun _ hp => nomatch hp) fun v tl h' tk F' N' D l => k v tl h' tk F' N' (by rw [List.append_nil] at D; exact D) l
end

end Mine
end
section
open PySem PySem.W PySem.Calls PyProof.Rows PyProof.V PySem.Spec
set_option maxHeartbeats 20000000
namespace Mine
theorem grp_lines0 : True := by
  k_with_none
  (k_with "k_room" => ktr_room)
  (k_with "k_all" => assumption)
  (k_with "ktr_rel" => first | assumption | rfl | ((refine (if_neg (by decide)).trans ?_); ktr_rel))
  (k_with "eval Name" => (k_here; k_dflt (refine' ld ?q9k1 ?q9k2 ?_; (case q9k1 => k_asm); (case q9k2 => first | assumption | rfl | ((refine (if_neg (by decide)).trans ?_); first | assumption | ktr_rel)); k_whole)))
  (k_with "exec Raise some none" => (k_here; with_reducible refine fe_raise rfl ?_))
  (k_with "call ref" => (k_here; (with_reducible show wpAny _ _ (call (Value.ref 45) _) _ _ _); k_dflt (first
  | (refine' rets_use2 (fe_make _ _ _ _ _ _ _ _ rfl) ?q9k1 ?q9k2 ?q9k3 ?q9k4 ?q9k5 ?q9k6 ?q9k7 ?q9k8 ?_; (case q9k1 => k_asm); (case q9k2 => k_asm); (case q9k3 => k_asm); (case q9k4 => k_asm); (case q9k5 => k_asm); (case q9k6 => first | exact rfl | assumption); (case q9k7 => ktr_room); (case q9k8 => ktr_units))
  | (refine' rets_use2 (fe_make2 _ _ _ _ _ _ rfl) ?q9k1 ?q9k2 ?q9k3 ?q9k4 ?q9k5 ?q9k6 ?q9k7 ?q9k8 ?_; (case q9k1 => k_asm); (case q9k2 => k_asm); (case q9k3 => k_asm); (case q9k4 => k_asm); (case q9k5 => k_asm); (case q9k6 => first | exact rfl | assumption); (case q9k7 => ktr_room); (case q9k8 => ktr_units))); intro GG9 HH9; refine FeMade.out ?_; intro h9 tk9 e9 d9 p9 _ _ _ _ _ _ l9 m9; refine HH9 _ _ _ _ ?_; clear HH9 GG9; intro F9 N9; (try dsimp only)))
  (k_with "Exists" => (k_here; refine ⟨_, _, _, rfl, by k_in, News.get (by k_asm) (List.Mem.tail _ (List.Mem.head _)), ?_⟩; (try dsimp only)))
  (k_with "leaving ref" => (k_here; first
  | (refine' fe_leave_first ?q9k1 ?q9k2 ?q9k3 ?q9k4 ?q9k5 ?_; (case q9k1 => assumption); (case q9k2 => k_asm); (case q9k3 => k_asm); (case q9k4 => (intro p hp; exact Nat.ne_of_lt (by (first | exact l9 p hp | (rename ∀ p ∈ _, @LT.lt Nat _ _ _ => l9; exact l9 p hp))))); (case q9k5 => exact Nat.ne_of_gt (by assumption)); intro h' R' U'; (try dsimp only at R' U' ⊢))
  | (refine' fe_leave_on ?q9k1 ?q9k2 ?q9k3 ?q9k4 ?_; (case q9k3 => assumption); (case q9k1 => assumption); (case q9k4 => assumption); (case q9k2 => assumption); intro h' R' U'; (try dsimp only at R' U' ⊢))))
  (k_with "subscriptTail" => (k_here; (with_reducible show wpAny _ _ (subscriptTail _ _ (Value.str _ _) (Value.int _ _)) _ _ _); (refine item_str (fitsSsize_of (N := 9223372036854775808) (by omega) (by omega) (Int.le_refl _)) (by omega) (by omega) ?_); intro hlen9))
  (k_with "ktr_unf" => repeat' ((fail_if_success (with_reducible show wpAny _ _ (exec (Stmt.While _ _ _ _) _) _ _ _)); first | (k_unfold; (try dsimp only)) | (k_end; wrow_close) | walk1 | (dsimp only; walk1) | (leave1; walk_say "STEP leave1"; try dsimp only) | fail "no step"))
  (k_with "subscriptTail" => (k_here; (with_reducible show wpAny _ _ (subscriptTail _ (Expr.Slice (some _) (some _) none _) (Value.str _ _) (Value.ref _)) _ _ _); (with_reducible rename Fr _ _ _ _ => F'); (with_reducible rename News _ _ _ _ => N'); (refine slice_strN_ss (hsz := ?q9hsz) (s := ⟨_, _, _, _, _⟩) F' N' ?_); (case q9hsz => (rw [sizeLine_eq]; omega)); intro _ _ _ _ _))
  (k_with "k_updF" => first | (refine' UpdF.head ?q9a; (case q9a => k_all)) | (refine' UpdF.tail ?q9a ?q9b; (case q9a => k_ne); (case q9b => k_updF)))
  (k_with "kwd_rel" => first | exact List.forall_mem_nil _ | ((refine' List.forall_mem_cons.mpr ⟨?q9aa, ?q9bb⟩); (case q9aa => k_mem); (case q9bb => kwd_rel)) | (intro p hp; repeat (first | exact hp | refine List.Mem.tail _ ?_)))
  trivial

def gD (g : List Str) : Dat := .list (g.map Dat.str)
def gsD (gs : List (List Str)) : List Dat := gs.map gD
def grps (f s : Str) : List (List Str) := [[s_ "$timescale", s_ "1", s_ "ns", s_ "$end"], [s_ "$scope", s_ "module", s_ "top", s_ "$end"], [s_ "$var", s_ "wire", s_ "1", s_ "!", s_ "a", s_ "$end"], [s_ "$var", s_ "reg", s_ "3", s_ "%", s_ "b", s_ "[2:0]", s_ "$end"], [s_ "$upscope", s_ "$end"], [s_ "$enddefinitions", s_ "$end"], [s_ "#0"], [s_ "1!"], [s_ "b" ++ f, s_ "%"], [s_ "#5"], [s_ "x!"], [s_ "B" ++ s, s_ "%"], [s_ "0!"]]
/-- one wrong piece: its words, the place beside, kind, detail, the turns -/
structure WRow where
  piece : List Str
  beside : Int
  kind : Str
  detail : Str
  low : Int
  high : Int
def wRows : List WRow := [
  ⟨[s_ "hello"], 0, s_ "unexpected_word", s_ "hello", 0, 5⟩,
  ⟨[s_ "$end"], 0, s_ "unexpected_word", s_ "$end", 0, 5⟩,
  ⟨[s_ "$foo", s_ "x", s_ "$end"], 0, s_ "unexpected_word", s_ "$foo", 0, 5⟩,
  ⟨[s_ "$scope", s_ "module", s_ "$end"], 0, s_ "bad_scope", s_ "", 0, 5⟩,
  ⟨[s_ "$upscope", s_ "$end"], 0, s_ "bad_scope", s_ "", 0, 1⟩,
  ⟨[s_ "$var", s_ "wire", s_ "1", s_ "$end"], 0, s_ "bad_variable", s_ "", 0, 5⟩,
  ⟨[s_ "$var", s_ "wire", s_ "two", s_ "?", s_ "c", s_ "$end"], 0, s_ "bad_number", s_ "two", 0, 5⟩,
  ⟨[s_ "$var", s_ "wire", s_ "0", s_ "?", s_ "c", s_ "$end"], 0, s_ "wrong_width", s_ "?", 0, 5⟩,
  ⟨[s_ "$var", s_ "wire", s_ "2", s_ "!", s_ "c", s_ "$end"], 0, s_ "wrong_width", s_ "!", 3, 5⟩,
  ⟨[s_ "$comment", s_ "abc"], 0, s_ "end_missing", s_ "", -1, 0⟩,
  ⟨[s_ "#x"], 1, s_ "bad_number", s_ "x", 6, 13⟩,
  ⟨[s_ "#"], 1, s_ "bad_number", s_ "", 6, 13⟩,
  ⟨[s_ "#4"], 0, s_ "time_goes_back", s_ "#4", 10, 13⟩,
  ⟨[s_ "1~~"], 0, s_ "unknown_id", s_ "~~", 6, 13⟩,
  ⟨[s_ "b1010", s_ "%"], 0, s_ "wrong_width", s_ "%", 6, 13⟩,
  ⟨[s_ "b", s_ "%"], 0, s_ "wrong_width", s_ "%", 6, 13⟩,
  ⟨[s_ "b12", s_ "%"], 0, s_ "bad_digit", s_ "12", 6, 13⟩,
  ⟨[s_ "r1.5", s_ "%"], 0, s_ "real_unsupported", s_ "r1.5", 6, 13⟩,
  ⟨[s_ "hello"], 0, s_ "unexpected_word", s_ "hello", 6, 13⟩,
  ⟨[s_ "$comment", s_ "abc", s_ "1!"], 0, s_ "end_missing", s_ "", 6, 13⟩,
  ⟨[s_ "1"], 0, s_ "unknown_id", s_ "", 6, 13⟩,
  ⟨[s_ "B1"], 0, s_ "unknown_id", s_ "", 13, 13⟩]
def wD (r : WRow) : Dat := .tuple [gD r.piece, .int r.beside, .str r.kind, .str r.detail, .int r.low, .int r.high]

inductive GLf (x y : Str) : PySem.Expr → Dat → Prop
  | a {k : Nat} {p1 p2 p3 : Pos} : GLf x y (.BinOp (.Constant (.str (Str.ofString "b")) k p1) .Add (.Name (Str.ofString "first") p2) p3) (.str (s_ "b" ++ x))
  | b {k : Nat} {p1 p2 p3 : Pos} : GLf x y (.BinOp (.Constant (.str (Str.ofString "B")) k p1) .Add (.Name (Str.ofString "second") p2) p3) (.str (s_ "B" ++ y))

theorem fr_letter {h₀ h : Heap} {L : Addr} {m : Str → Option Value} {P : Prop} (F : Fr h₀ L h m) (k : ∀ m', m' = m → Fr h₀ L h m' → P) : P := k m rfl F
theorem grp_spec : ∀ (w : World) (news : List (Addr × Obj)) (f s : Str) (tf ts : Tok), f.length ≤ 10 → s.length ≤ 10 → (Mine.hd.heap_39 w.params = Mine.hd.heap_39 w.params) →
    Rets w 208 [.str f tf, .str s ts] 8 80 news
      fun r news' => ∃ (gl n : Nat) (vs : List Value) (tl : List (Addr × Obj)), r = .ref gl ∧ news' = tl ++ news ∧ (gl, listOf vs.toArray n) ∈ tl ∧ DatAll tl vs (gsD (grps f s)) ∧ (∀ x ∈ tl, ∀ y ∈ news, @LT.lt Nat _ y.1 x.1) := by
  unfold Rets
  k_fill
  intro w news f1 s1 tf ts hf hs _ mean mg mb dp un gd cn cs a ccd cl outer A₀ base h₀ L m s Q E B F X N Tp hk hd hu hret
  refine wpAny_call ?_
  k_dflt ktr_enter
  repeat ((fail_if_success (with_reducible show wpAny _ _ (eval (Expr.List _ _) _) _ _ _)); walk1)
  (rename Fr _ _ _ _ => F9); (rename News _ _ _ _ => N9)
  refine' Lt.eval (LF := GLf f1 s1) (base := []) (d := .list (gsD (grps f1 s1))) ?leaf ?lt ?F ?N ?hb ?_
  case F => exact F9
  case N => exact N9
  case hb => exact fun _ hp => nomatch hp
  case leaf =>
    intro e d hl
    cases hl with
    | a =>
      refine ⟨fun _ => rfl, ?_⟩
      intro s2 news2 Q2 F2 N2 hb2 h2
      k_steps
      exact h2 _ _ (.str _ _)
    | b =>
      refine ⟨fun _ => rfl, ?_⟩
      intro s2 news2 Q2 F2 N2 hb2 h2
      k_steps
      exact h2 _ _ (.str _ _)
  case lt =>
    simp only [gsD, grps, gD, List.map_cons, List.map_nil]
    exact (.list (.cons (.list (.cons .str (.cons .str (.cons .str (.cons .str .nil)))) (Nat.le_of_ble_eq_true rfl)) (.cons (.list (.cons .str (.cons .str (.cons .str (.cons .str .nil)))) (Nat.le_of_ble_eq_true rfl)) (.cons (.list (.cons .str (.cons .str (.cons .str (.cons .str (.cons .str (.cons .str .nil)))))) (Nat.le_of_ble_eq_true rfl)) (.cons (.list (.cons .str (.cons .str (.cons .str (.cons .str (.cons .str (.cons .str (.cons .str .nil))))))) (Nat.le_of_ble_eq_true rfl)) (.cons (.list (.cons .str (.cons .str .nil)) (Nat.le_of_ble_eq_true rfl)) (.cons (.list (.cons .str (.cons .str .nil)) (Nat.le_of_ble_eq_true rfl)) (.cons (.list (.cons .str .nil) (Nat.le_of_ble_eq_true rfl)) (.cons (.list (.cons .str .nil) (Nat.le_of_ble_eq_true rfl)) (.cons (.list (.cons (.leaf .a) (.cons .str .nil)) (Nat.le_of_ble_eq_true rfl)) (.cons (.list (.cons .str .nil) (Nat.le_of_ble_eq_true rfl)) (.cons (.list (.cons .str .nil) (Nat.le_of_ble_eq_true rfl)) (.cons (.list (.cons (.leaf .b) (.cons .str .nil)) (Nat.le_of_ble_eq_true rfl)) (.cons (.list (.cons .str .nil) (Nat.le_of_ble_eq_true rfl)) .nil))))))))))))) (Nat.le_of_ble_eq_true rfl))
  intro v tl h' tk F7 N8 D8 l8
  rw [List.append_nil] at D8
  cases D8 with
  | @list gl vs n _ hm hd =>
    k_steps
    exact hret _ _ _ _ (by assumption) (by assumption) ⟨gl, n, vs, tl, rfl, rfl, hm, hd, l8⟩


end Mine
end
section
open PySem PySem.W PySem.Calls PyProof.Rows PyProof.V PySem.Spec
set_option maxHeartbeats 20000000
namespace Mine
theorem wrg_lines0 : True := by
  k_with_none
  (k_with "k_room" => ktr_room)
  (k_with "k_all" => assumption)
  (k_with "ktr_rel" => first | assumption | rfl | ((refine (if_neg (by decide)).trans ?_); ktr_rel))
  (k_with "eval Name" => (k_here; k_dflt (refine' ld ?q9k1 ?q9k2 ?_; (case q9k1 => k_asm); (case q9k2 => first | assumption | rfl | ((refine (if_neg (by decide)).trans ?_); first | assumption | ktr_rel)); k_whole)))
  (k_with "exec Raise some none" => (k_here; with_reducible refine fe_raise rfl ?_))
  (k_with "call ref" => (k_here; (with_reducible show wpAny _ _ (call (Value.ref 45) _) _ _ _); k_dflt (first
  | (refine' rets_use2 (fe_make _ _ _ _ _ _ _ _ rfl) ?q9k1 ?q9k2 ?q9k3 ?q9k4 ?q9k5 ?q9k6 ?q9k7 ?q9k8 ?_; (case q9k1 => k_asm); (case q9k2 => k_asm); (case q9k3 => k_asm); (case q9k4 => k_asm); (case q9k5 => k_asm); (case q9k6 => first | exact rfl | assumption); (case q9k7 => ktr_room); (case q9k8 => ktr_units))
  | (refine' rets_use2 (fe_make2 _ _ _ _ _ _ rfl) ?q9k1 ?q9k2 ?q9k3 ?q9k4 ?q9k5 ?q9k6 ?q9k7 ?q9k8 ?_; (case q9k1 => k_asm); (case q9k2 => k_asm); (case q9k3 => k_asm); (case q9k4 => k_asm); (case q9k5 => k_asm); (case q9k6 => first | exact rfl | assumption); (case q9k7 => ktr_room); (case q9k8 => ktr_units))); intro GG9 HH9; refine FeMade.out ?_; intro h9 tk9 e9 d9 p9 _ _ _ _ _ _ l9 m9; refine HH9 _ _ _ _ ?_; clear HH9 GG9; intro F9 N9; (try dsimp only)))
  (k_with "Exists" => (k_here; refine ⟨_, _, _, rfl, by k_in, News.get (by k_asm) (List.Mem.tail _ (List.Mem.head _)), ?_⟩; (try dsimp only)))
  (k_with "leaving ref" => (k_here; first
  | (refine' fe_leave_first ?q9k1 ?q9k2 ?q9k3 ?q9k4 ?q9k5 ?_; (case q9k1 => assumption); (case q9k2 => k_asm); (case q9k3 => k_asm); (case q9k4 => (intro p hp; exact Nat.ne_of_lt (by (first | exact l9 p hp | (rename ∀ p ∈ _, @LT.lt Nat _ _ _ => l9; exact l9 p hp))))); (case q9k5 => exact Nat.ne_of_gt (by assumption)); intro h' R' U'; (try dsimp only at R' U' ⊢))
  | (refine' fe_leave_on ?q9k1 ?q9k2 ?q9k3 ?q9k4 ?_; (case q9k3 => assumption); (case q9k1 => assumption); (case q9k4 => assumption); (case q9k2 => assumption); intro h' R' U'; (try dsimp only at R' U' ⊢))))
  (k_with "subscriptTail" => (k_here; (with_reducible show wpAny _ _ (subscriptTail _ _ (Value.str _ _) (Value.int _ _)) _ _ _); (refine item_str (fitsSsize_of (N := 9223372036854775808) (by omega) (by omega) (Int.le_refl _)) (by omega) (by omega) ?_); intro hlen9))
  (k_with "ktr_unf" => repeat' ((fail_if_success (with_reducible show wpAny _ _ (exec (Stmt.While _ _ _ _) _) _ _ _)); first | (k_unfold; (try dsimp only)) | (k_end; wrow_close) | walk1 | (dsimp only; walk1) | (leave1; walk_say "STEP leave1"; try dsimp only) | fail "no step"))
  (k_with "subscriptTail" => (k_here; (with_reducible show wpAny _ _ (subscriptTail _ (Expr.Slice (some _) (some _) none _) (Value.str _ _) (Value.ref _)) _ _ _); (with_reducible rename Fr _ _ _ _ => F'); (with_reducible rename News _ _ _ _ => N'); (refine slice_strN_ss (hsz := ?q9hsz) (s := ⟨_, _, _, _, _⟩) F' N' ?_); (case q9hsz => (rw [sizeLine_eq]; omega)); intro _ _ _ _ _))
  (k_with "k_updF" => first | (refine' UpdF.head ?q9a; (case q9a => k_all)) | (refine' UpdF.tail ?q9a ?q9b; (case q9a => k_ne); (case q9b => k_updF)))
  (k_with "kwd_rel" => first | exact List.forall_mem_nil _ | ((refine' List.forall_mem_cons.mpr ⟨?q9aa, ?q9bb⟩); (case q9aa => k_mem); (case q9bb => kwd_rel)) | (intro p hp; repeat (first | exact hp | refine List.Mem.tail _ ?_)))
  trivial

theorem wrg_spec : ∀ (w : World) (news : List (Addr × Obj)), (Mine.hd.heap_39 w.params = Mine.hd.heap_39 w.params) →
    Rets w 201 [] 8 80 news
      fun r news' => ∃ (gl n : Nat) (vs : List Value) (tl : List (Addr × Obj)), r = .ref gl ∧ news' = tl ++ news ∧ (gl, listOf vs.toArray n) ∈ tl ∧ DatAll tl vs (wRows.map wD) ∧ (∀ x ∈ tl, ∀ y ∈ news, @LT.lt Nat _ y.1 x.1) := by
  unfold Rets
  k_fill
  intro w news _ mean mg mb dp un gd cn cs a ccd cl outer A₀ base h₀ L m s Q E B F X N Tp hk hd hu hret
  refine wpAny_call ?_
  k_dflt ktr_enter
  repeat ((fail_if_success (with_reducible show wpAny _ _ (eval (Expr.List _ _) _) _ _ _)); walk1)
  k_dflt (refine' lt_eval0 (d := .list (wRows.map wD)) ?lt ?F ?N ?_; (case F => k_asm); (case N => k_asm))
  case lt =>
    simp only [wRows, wD, gD, List.map_cons, List.map_nil]
    exact (.list (.cons (.tuple (.cons (.list (.cons .str .nil) (Nat.le_of_ble_eq_true rfl)) (.cons .int (.cons .str (.cons .str (.cons .int (.cons .int .nil)))))) (Nat.le_of_ble_eq_true rfl)) (.cons (.tuple (.cons (.list (.cons .str .nil) (Nat.le_of_ble_eq_true rfl)) (.cons .int (.cons .str (.cons .str (.cons .int (.cons .int .nil)))))) (Nat.le_of_ble_eq_true rfl)) (.cons (.tuple (.cons (.list (.cons .str (.cons .str (.cons .str .nil))) (Nat.le_of_ble_eq_true rfl)) (.cons .int (.cons .str (.cons .str (.cons .int (.cons .int .nil)))))) (Nat.le_of_ble_eq_true rfl)) (.cons (.tuple (.cons (.list (.cons .str (.cons .str (.cons .str .nil))) (Nat.le_of_ble_eq_true rfl)) (.cons .int (.cons .str (.cons .str (.cons .int (.cons .int .nil)))))) (Nat.le_of_ble_eq_true rfl)) (.cons (.tuple (.cons (.list (.cons .str (.cons .str .nil)) (Nat.le_of_ble_eq_true rfl)) (.cons .int (.cons .str (.cons .str (.cons .int (.cons .int .nil)))))) (Nat.le_of_ble_eq_true rfl)) (.cons (.tuple (.cons (.list (.cons .str (.cons .str (.cons .str (.cons .str .nil)))) (Nat.le_of_ble_eq_true rfl)) (.cons .int (.cons .str (.cons .str (.cons .int (.cons .int .nil)))))) (Nat.le_of_ble_eq_true rfl)) (.cons (.tuple (.cons (.list (.cons .str (.cons .str (.cons .str (.cons .str (.cons .str (.cons .str .nil)))))) (Nat.le_of_ble_eq_true rfl)) (.cons .int (.cons .str (.cons .str (.cons .int (.cons .int .nil)))))) (Nat.le_of_ble_eq_true rfl)) (.cons (.tuple (.cons (.list (.cons .str (.cons .str (.cons .str (.cons .str (.cons .str (.cons .str .nil)))))) (Nat.le_of_ble_eq_true rfl)) (.cons .int (.cons .str (.cons .str (.cons .int (.cons .int .nil)))))) (Nat.le_of_ble_eq_true rfl)) (.cons (.tuple (.cons (.list (.cons .str (.cons .str (.cons .str (.cons .str (.cons .str (.cons .str .nil)))))) (Nat.le_of_ble_eq_true rfl)) (.cons .int (.cons .str (.cons .str (.cons .int (.cons .int .nil)))))) (Nat.le_of_ble_eq_true rfl)) (.cons (.tuple (.cons (.list (.cons .str (.cons .str .nil)) (Nat.le_of_ble_eq_true rfl)) (.cons .int (.cons .str (.cons .str (.cons .neg (.cons .int .nil)))))) (Nat.le_of_ble_eq_true rfl)) (.cons (.tuple (.cons (.list (.cons .str .nil) (Nat.le_of_ble_eq_true rfl)) (.cons .int (.cons .str (.cons .str (.cons .int (.cons .int .nil)))))) (Nat.le_of_ble_eq_true rfl)) (.cons (.tuple (.cons (.list (.cons .str .nil) (Nat.le_of_ble_eq_true rfl)) (.cons .int (.cons .str (.cons .str (.cons .int (.cons .int .nil)))))) (Nat.le_of_ble_eq_true rfl)) (.cons (.tuple (.cons (.list (.cons .str .nil) (Nat.le_of_ble_eq_true rfl)) (.cons .int (.cons .str (.cons .str (.cons .int (.cons .int .nil)))))) (Nat.le_of_ble_eq_true rfl)) (.cons (.tuple (.cons (.list (.cons .str .nil) (Nat.le_of_ble_eq_true rfl)) (.cons .int (.cons .str (.cons .str (.cons .int (.cons .int .nil)))))) (Nat.le_of_ble_eq_true rfl)) (.cons (.tuple (.cons (.list (.cons .str (.cons .str .nil)) (Nat.le_of_ble_eq_true rfl)) (.cons .int (.cons .str (.cons .str (.cons .int (.cons .int .nil)))))) (Nat.le_of_ble_eq_true rfl)) (.cons (.tuple (.cons (.list (.cons .str (.cons .str .nil)) (Nat.le_of_ble_eq_true rfl)) (.cons .int (.cons .str (.cons .str (.cons .int (.cons .int .nil)))))) (Nat.le_of_ble_eq_true rfl)) (.cons (.tuple (.cons (.list (.cons .str (.cons .str .nil)) (Nat.le_of_ble_eq_true rfl)) (.cons .int (.cons .str (.cons .str (.cons .int (.cons .int .nil)))))) (Nat.le_of_ble_eq_true rfl)) (.cons (.tuple (.cons (.list (.cons .str (.cons .str .nil)) (Nat.le_of_ble_eq_true rfl)) (.cons .int (.cons .str (.cons .str (.cons .int (.cons .int .nil)))))) (Nat.le_of_ble_eq_true rfl)) (.cons (.tuple (.cons (.list (.cons .str .nil) (Nat.le_of_ble_eq_true rfl)) (.cons .int (.cons .str (.cons .str (.cons .int (.cons .int .nil)))))) (Nat.le_of_ble_eq_true rfl)) (.cons (.tuple (.cons (.list (.cons .str (.cons .str (.cons .str .nil))) (Nat.le_of_ble_eq_true rfl)) (.cons .int (.cons .str (.cons .str (.cons .int (.cons .int .nil)))))) (Nat.le_of_ble_eq_true rfl)) (.cons (.tuple (.cons (.list (.cons .str .nil) (Nat.le_of_ble_eq_true rfl)) (.cons .int (.cons .str (.cons .str (.cons .int (.cons .int .nil)))))) (Nat.le_of_ble_eq_true rfl)) (.cons (.tuple (.cons (.list (.cons .str .nil) (Nat.le_of_ble_eq_true rfl)) (.cons .int (.cons .str (.cons .str (.cons .int (.cons .int .nil)))))) (Nat.le_of_ble_eq_true rfl)) .nil)))))))))))))))))))))) (Nat.le_of_ble_eq_true rfl))
  intro v tl h' tk F8 N8 D8 l8
  cases D8 with
  | @list gl vs n _ hm hd =>
    k_steps
    exact hret _ _ _ _ (by assumption) (by assumption) ⟨gl, n, vs, tl, rfl, rfl, hm, hd, l8⟩


end Mine
end
section
open PySem PySem.W PySem.Calls PyProof.Rows PyProof.V PySem.Spec
set_option maxHeartbeats 20000000
namespace Mine
theorem jnw_lines0 : True := by
  k_with_none
  (k_with "k_room" => ktr_room)
  (k_with "k_all" => assumption)
  (k_with "ktr_rel" => first | assumption | rfl | ((refine (if_neg (by decide)).trans ?_); ktr_rel))
  (k_with "eval Name" => (k_here; k_dflt (refine' ld ?q9k1 ?q9k2 ?_; (case q9k1 => k_asm); (case q9k2 => first | assumption | rfl | ((refine (if_neg (by decide)).trans ?_); first | assumption | ktr_rel)); k_whole)))
  (k_with "exec Raise some none" => (k_here; with_reducible refine fe_raise rfl ?_))
  (k_with "call ref" => (k_here; (with_reducible show wpAny _ _ (call (Value.ref 45) _) _ _ _); k_dflt (first
  | (refine' rets_use2 (fe_make _ _ _ _ _ _ _ _ rfl) ?q9k1 ?q9k2 ?q9k3 ?q9k4 ?q9k5 ?q9k6 ?q9k7 ?q9k8 ?_; (case q9k1 => k_asm); (case q9k2 => k_asm); (case q9k3 => k_asm); (case q9k4 => k_asm); (case q9k5 => k_asm); (case q9k6 => first | exact rfl | assumption); (case q9k7 => ktr_room); (case q9k8 => ktr_units))
  | (refine' rets_use2 (fe_make2 _ _ _ _ _ _ rfl) ?q9k1 ?q9k2 ?q9k3 ?q9k4 ?q9k5 ?q9k6 ?q9k7 ?q9k8 ?_; (case q9k1 => k_asm); (case q9k2 => k_asm); (case q9k3 => k_asm); (case q9k4 => k_asm); (case q9k5 => k_asm); (case q9k6 => first | exact rfl | assumption); (case q9k7 => ktr_room); (case q9k8 => ktr_units))); intro GG9 HH9; refine FeMade.out ?_; intro h9 tk9 e9 d9 p9 _ _ _ _ _ _ l9 m9; refine HH9 _ _ _ _ ?_; clear HH9 GG9; intro F9 N9; (try dsimp only)))
  (k_with "Exists" => (k_here; refine ⟨_, _, _, rfl, by k_in, News.get (by k_asm) (List.Mem.tail _ (List.Mem.head _)), ?_⟩; (try dsimp only)))
  (k_with "leaving ref" => (k_here; first
  | (refine' fe_leave_first ?q9k1 ?q9k2 ?q9k3 ?q9k4 ?q9k5 ?_; (case q9k1 => assumption); (case q9k2 => k_asm); (case q9k3 => k_asm); (case q9k4 => (intro p hp; exact Nat.ne_of_lt (by (first | exact l9 p hp | (rename ∀ p ∈ _, @LT.lt Nat _ _ _ => l9; exact l9 p hp))))); (case q9k5 => exact Nat.ne_of_gt (by assumption)); intro h' R' U'; (try dsimp only at R' U' ⊢))
  | (refine' fe_leave_on ?q9k1 ?q9k2 ?q9k3 ?q9k4 ?_; (case q9k3 => assumption); (case q9k1 => assumption); (case q9k4 => assumption); (case q9k2 => assumption); intro h' R' U'; (try dsimp only at R' U' ⊢))))
  (k_with "subscriptTail" => (k_here; (with_reducible show wpAny _ _ (subscriptTail _ _ (Value.str _ _) (Value.int _ _)) _ _ _); (refine item_str (fitsSsize_of (N := 9223372036854775808) (by omega) (by omega) (Int.le_refl _)) (by omega) (by omega) ?_); intro hlen9))
  (k_with "ktr_unf" => repeat' ((fail_if_success (with_reducible show wpAny _ _ (exec (Stmt.While _ _ _ _) _) _ _ _)); first | (k_unfold; (try dsimp only)) | (k_end; wrow_close) | walk1 | (dsimp only; walk1) | (leave1; walk_say "STEP leave1"; try dsimp only) | fail "no step"))
  (k_with "subscriptTail" => (k_here; (with_reducible show wpAny _ _ (subscriptTail _ (Expr.Slice (some _) (some _) none _) (Value.str _ _) (Value.ref _)) _ _ _); (with_reducible rename Fr _ _ _ _ => F'); (with_reducible rename News _ _ _ _ => N'); (refine slice_strN_ss (hsz := ?q9hsz) (s := ⟨_, _, _, _, _⟩) F' N' ?_); (case q9hsz => (rw [sizeLine_eq]; omega)); intro _ _ _ _ _))
  (k_with "k_updF" => first | (refine' UpdF.head ?q9a; (case q9a => k_all)) | (refine' UpdF.tail ?q9a ?q9b; (case q9a => k_ne); (case q9b => k_updF)))
  (k_with "kwd_rel" => first | exact List.forall_mem_nil _ | ((refine' List.forall_mem_cons.mpr ⟨?q9aa, ?q9bb⟩); (case q9aa => k_mem); (case q9bb => kwd_rel)) | (intro p hp; repeat (first | exact hp | refine List.Mem.tail _ ?_)))
  trivial

inductive Sep : Str → Prop
  | s1 : Sep (s_ " ")
  | s2 : Sep (s_ "\n")
  | s3 : Sep (s_ "\t ")
  | s4 : Sep (s_ "\r\n")
  | s5 : Sep (s_ "  ")
/-- the words of one group, joined on to T₀ -/
inductive JW (T₀ : Str) : Str → List Str → List (Str × Int) → Prop
  | nil : JW T₀ T₀ [] []
  | snoc {T w s : Str} {g : List Str} {c : List (Str × Int)} : JW T₀ T g c → Sep s → JW T₀ (T ++ w ++ s) (g ++ [w]) (c ++ [(w, (T.length : Int))])
/-- the groups joined: the text, the groups, their places, their words -/
inductive Jn : Str → List (List Str) → List Int → List (Str × Int) → Prop
  | a : Jn (s_ "") [] [] []
  | b : Jn (s_ " \n") [] [] []
  | snoc {T T' : Str} {gs : List (List Str)} {sp : List Int} {ws c : List (Str × Int)} {g : List Str} : Jn T gs sp ws → JW T T' g c → Jn T' (gs ++ [g]) (sp ++ [(T.length : Int)]) (ws ++ c)

theorem strs_dat {L : List (Addr × Obj)} {vs : List Value} {xs : List Str} (h : StrsAre vs xs) : DatAll L vs (xs.map Dat.str) := by
  induction h with
  | nil => exact .nil
  | cons x t _ ih => exact .cons (.str x t) ih
theorem pick_str {w : World} {A : Around} {E : Value → Shared → Prop} {s : Shared} {h₀ : Heap} {L l : Addr} {value slice : PySem.Expr} {news : List (Addr × Obj)} {us : List Value} {xs : List Str} {n : Nat} {k : Int} {u : Tok} {Q : Value → Shared → Prop} (N : News h₀ L s.heap news) (hm : (l, listOf us.toArray n) ∈ news) (hd : StrsAre us xs)
    (h0 : 0 ≤ k) (h1 : k < (xs.length : Int)) (hfit : k < 2 ^ 63) (h : ∀ x t, x ∈ xs → Q (.str x t) s)
    (hs : subscripted slice false (.ref l) (.int k u) = operate [.ref l, .int k u] (getItem (.ref l) (.int k u)) := by with_unfolding_all rfl) :
    wpAny (model feProg w) A (subscriptTail value slice (.ref l) (.int k u)) Q E s := by
  refine kd_item (L9 := []) N hm (strs_dat hd) h0 (by rw [List.length_map]; exact h1) hfit (fun v d _ hd hD => ?_) hs
  obtain ⟨x, hx, rfl⟩ := List.mem_map.mp hd
  cases hD
  exact h _ _ hx
theorem jn_start {x : Str} (h : x ∈ [s_ "", s_ " \n"]) : Jn x [] [] [] ∧ x.length ≤ 2 := by
  rcases List.mem_cons.mp h with rfl | h
  · exact ⟨.a, by decide +kernel⟩
  rcases List.mem_cons.mp h with rfl | h
  · exact ⟨.b, by decide +kernel⟩
  cases h
theorem sep_of {x : Str} (h : x ∈ [s_ " ", s_ "\n", s_ "\t ", s_ "\r\n", s_ "  "]) : Sep x ∧ x.length ≤ 2 := by
  rcases List.mem_cons.mp h with rfl | h
  · exact ⟨.s1, by decide +kernel⟩
  rcases List.mem_cons.mp h with rfl | h
  · exact ⟨.s2, by decide +kernel⟩
  rcases List.mem_cons.mp h with rfl | h
  · exact ⟨.s3, by decide +kernel⟩
  rcases List.mem_cons.mp h with rfl | h
  · exact ⟨.s4, by decide +kernel⟩
  rcases List.mem_cons.mp h with rfl | h
  · exact ⟨.s5, by decide +kernel⟩
  cases h

theorem JW.len {T₀ T : Str} {g : List Str} {c : List (Str × Int)} (h : JW T₀ T g c) : c.length = g.length := by
  induction h with
  | nil => rfl
  | snoc _ _ ih => simp [ih]
theorem Jn.len {T : Str} {gs : List (List Str)} {sp : List Int} {ws : List (Str × Int)} (h : Jn T gs sp ws) : ws.length = gs.flatten.length ∧ sp.length = gs.length := by
  induction h with
  | a => exact ⟨rfl, rfl⟩
  | b => exact ⟨rfl, rfl⟩
  | snoc _ hw ih => simp [ih, hw.len, List.flatten_append]
theorem take_len {gs : List (List Str)} (i : Nat) : (gs.take i).flatten.length ≤ gs.flatten.length := by
  have h : gs.flatten = (gs.take i).flatten ++ (gs.drop i).flatten := by rw [← List.flatten_append, List.take_append_drop]
  rw [h, List.length_append]; omega
inductive JOut (J C : Nat) (rest : List (Addr × Obj)) (cv : List Value) (nc spa : Nat) (gs : List (List Str)) (b : Int) (i : Nat) (m : Str → Option Value) : List (Addr × Obj) → Prop
  | mk (T : Str) (sps : List Int) (ws : List (Str × Int)) (spv : List Value) (n n2 : Nat) (a' b' : Int) (tt t1 t2 : Tok) : m (Str.ofString "jar") = some (.ref J) → Jn T (gs.take i) sps ws → IntsAre spv sps → T.length ≤ 2 + 22 * ws.length → 0 ≤ a' → 0 ≤ b' → b' ≤ b + 1 + ws.length →
    m (Str.ofString "total") = some (.str T tt) → m (Str.ofString "spots") = some (.ref spa) → JOut J C rest cv nc spa gs b i m ((spa, listOf spv.toArray n) :: (J, listOf #[.int a' t1, .int b' t2, .ref C] n2) :: (C, listOf cv.toArray nc) :: rest)
inductive JIn (J C : Nat) (rest : List (Addr × Obj)) (cv : List Value) (nc spa I : Nat) (oI : Obj) (T₀ : Str) (g : List Str) (spo : Obj) (b : Int) (i : Nat) (m : Str → Option Value) : List (Addr × Obj) → Prop
  | mk (T : Str) (c : List (Str × Int)) (n2 : Nat) (a' b' : Int) (tt t1 t2 : Tok) : m (Str.ofString "jar") = some (.ref J) → m (Str.ofString "spots") = some (.ref spa) → JW T₀ T (g.take i) c → T.length ≤ T₀.length + 22 * c.length → 0 ≤ a' → 0 ≤ b' → b' ≤ b + c.length →
    m (Str.ofString "total") = some (.str T tt) → JIn J C rest cv nc spa I oI T₀ g spo b i m ((I, oI) :: (spa, spo) :: (J, listOf #[.int a' t1, .int b' t2, .ref C] n2) :: (C, listOf cv.toArray nc) :: rest)
/-- what _law_joined leaves -/
inductive JnR (w : World) (rest : List (Addr × Obj)) (J C nc : Nat) (b : Int) (cv : List Value) (gs : List (List Str)) : Value → List (Addr × Obj) → Prop
  | mk (tu spa n1 n2 : Nat) (T : Str) (tt : Tok) (spv : List Value) (sps : List Int) (ws : List (Str × Int)) (a' b' : Int) (t1 t2 : Tok) : Jn T gs sps ws → T.length ≤ 4000 → IntsAre spv sps → 0 ≤ a' → 0 ≤ b' → b' ≤ b + 101 → spa ≠ J → tu ≠ J →
    JnR w rest J C nc b cv gs (.ref tu) ((tu, tupObj [.str T tt, .ref spa]) :: (spa, listOf spv.toArray n1) :: (J, listOf #[.int a' t1, .int b' t2, .ref C] n2) :: (C, listOf cv.toArray nc) :: rest)
theorem JnR.out {w : World} {rest : List (Addr × Obj)} {J C nc : Nat} {b : Int} {cv : List Value} {gs : List (List Str)} {G : Value → List (Addr × Obj) → Heap → Nat → Prop} (k : ∀ h' tk' (tu spa n1 n2 : Nat) (T : Str) (tt : Tok) (spv : List Value) (sps : List Int) (ws : List (Str × Int)) (a' b' : Int) (t1 t2 : Tok), Jn T gs sps ws → T.length ≤ 4000 → IntsAre spv sps → 0 ≤ a' → 0 ≤ b' → b' ≤ b + 101 → spa ≠ J → tu ≠ J →
    G (.ref tu) ((tu, tupObj [.str T tt, .ref spa]) :: (spa, listOf spv.toArray n1) :: (J, listOf #[.int a' t1, .int b' t2, .ref C] n2) :: (C, listOf cv.toArray nc) :: rest) h' tk') : ∀ r n h' tk', JnR w rest J C nc b cv gs r n → G r n h' tk' := by
  intro r n h' tk' h
  cases h
  exact k _ _ _ _ _ _ _ _ _ _ _ _ _ _ _ (by assumption) (by assumption) (by assumption) (by assumption) (by assumption) (by assumption) (by assumption) (by assumption)
theorem mem_take_succ {α : Type} {l : List α} {i : Nat} {x : α} (h : l[i]? = some x) : l.take (i + 1) = l.take i ++ [x] := by
  rw [List.take_add_one, h]; rfl

theorem jnw_lines1 : True := by
  (k_with "subscriptTail" => (k_here; (with_reducible show wpAny _ _ (subscriptTail _ _ (Value.ref _) (Value.int _ _)) _ _ _); k_dflt (refine' pick_str ?q9N ?q9m ?q9d ?q9a ?q9b ?q9c ?_; (case q9N => k_asm); (case q9m => k_mem); (case q9d => first | exact .cons _ _ (.cons _ _ .nil) | exact .cons _ _ (.cons _ _ (.cons _ _ (.cons _ _ (.cons _ _ .nil))))); (case q9a => assumption); (case q9b => assumption); (case q9c => omega)); intro x9 t9 hx9; (try (obtain ⟨sp9, sl9⟩ := sep_of hx9))))
  (k_with "call ref" => (k_here; (with_reducible show wpAny _ _ (call (Value.ref 194) _) _ _ _); k_dflt (refine' rets_use2 (draw_spec _ _ _ _ _ _ _ _ _ _ _ _ _ _ _ ?q9u1 ?q9u2 ?q9u3 ?q9u4 ?q9u5 ?q9u6 ?q9u7 ?q9u8 ?q9u9 ?q9u10 ?q9u11) ?q9k1 ?q9k2 ?q9k3 ?q9k4 ?q9k5 ?q9k6 ?q9k7 ?q9k8 ?_; (case q9k1 => k_asm); (case q9k2 => k_asm); (case q9k3 => k_asm); (case q9k4 => k_asm); (case q9k5 => k_asm); (case q9k6 => first | exact rfl | assumption); (case q9k7 => ktr_room); (case q9k8 => ktr_units); (case q9u1 => k_updF); (case q9u2 => k_mem); (case q9u3 => k_ne); (case q9u4 => assumption); (case q9u5 => assumption); (case q9u6 => assumption); (case q9u7 => assumption); (case q9u8 => assumption); (case q9u9 => omega); (case q9u10 => decide); (case q9u11 => decide)); intro GG9 HH9; refine DrawR.out ?_; intro h9 tk9 g9 a9 b9 t9 t19 t29 m9 G19 G29 A9 B19 B29; refine HH9 _ _ _ _ ?_; clear HH9 GG9; intro F9 N9; (try dsimp only at N9); (have B09 := Int.le_trans (by assumption) B19); (try dsimp only)))
  (k_with "ktr_unf" => repeat' ((fail_if_success (with_reducible show wpAny _ _ (exec (Stmt.For _ _ _ _ _) _) _ _ _)); (fail_if_success (with_reducible show wpAny _ _ (pyIter (Value.ref _)) _ _ _)); first | (k_unfold; (try dsimp only)) | (k_end; wrow_close) | walk1 | (dsimp only; walk1) | (leave1; walk_say "STEP leave1"; try dsimp only) | fail "no step"))
  trivial

theorem jn_spec : ∀ (w : World) (rest : List (Addr × Obj)) (J C gl n nc ng : Nat) (a b : Int) (ta tb : Tok) (cv gvs : List Value) (ns : List Int) (gs : List (List Str)),
    (∀ q ∈ (C, listOf cv.toArray nc) :: rest, q.1 ≠ J) → IntsAre cv ns → 1 ≤ ns.length → ns.length ≤ 40 → 0 ≤ a → 0 ≤ b → b ≤ 500 → (gl, listOf gvs.toArray ng) ∈ rest → DatAll rest gvs (gsD gs) → (∀ g ∈ gs, ∀ x ∈ g, x.length ≤ 20) → gs.flatten.length ≤ 100 → gs.length ≤ 100 → (Mine.hd.heap_39 w.params = Mine.hd.heap_39 w.params) →
    Rets w 215 [.ref J, .ref gl] 20 200 ((J, listOf #[.int a ta, .int b tb, .ref C] n) :: (C, listOf cv.toArray nc) :: rest)
      (JnR w rest J C nc b cv gs) := by
  unfold Rets
  k_fill
  intro w rest J C gl n nc ng xa xb ta tb cv gvs ns gs hoff hi hn1 hn2 ha hb hb2 hgl hgd hw20 hfl hgl2 _ mean mg mb dp un gd cn cs a ccd cl outer A₀ base h₀ L m s Q E B F X N Tp hk hd hu hret
  have hCJ : C ≠ J := hoff _ (.head _)
  have hb3 : xb ≤ 1000 := by omega
  refine wpAny_call ?_
  k_dflt ktr_enter
  ktr_unf
  (rename Fr _ _ _ _ => F'); (rename News _ _ _ _ => N')
  (rename _ ∈ [s_ "", s_ " 
"] => hx0)
  (rename _ ∧ J < _ ∧ C < _ ∧ AllLt _ rest => l1)
  (rename _ ≤ xb + 1 => hb4)
  obtain ⟨hj0, hj1⟩ := jn_start hx0
  obtain ⟨l0, lJ, lC, lR⟩ := l1
  have fR := allLt_back lR
  have f1 := fun x hx => Nat.ne_of_lt (fR x hx)
  have f2 : ∀ x ∈ rest, x.1 ≠ J := fun x hx => hoff x (.tail _ hx)
  clear l0 lR
  have N0 := cb_drop (news := (_, listOf (List.toArray []) 0) :: (J, _) :: (C, _) :: rest) N' (by kwd_rel)
  clear N'
  refine' For_invVF F' rfl rfl ?_
  ktr_unf
  (rename Fr _ _ _ _ => F0)
  refine' iter_q (JOut J C rest cv nc _ gs xb) rfl (l := gl) (vs := gvs) (nn := ng) (.tail _ (.tail _ (.tail _ hgl))) F0 N0 (.mk _ [] [] [] _ _ _ _ _ _ _ rfl hj0 .nil (by simp only [List.length_nil]; omega) (by assumption) (by assumption) (by simp only [List.length_nil]; omega) rfl rfl) ?_ ?_ ?_
  · rintro i m1 nx ⟨T, sps, ws, spv, n1, n2, a1, b1, tt, t1, t2, _, _, _, _, _, _, _, _, _⟩
    exact .tail _ (.tail _ (.tail _ hgl))
  · intro i v I oI Qb hv GG HH m1 nx h1 tk1 R1
    obtain ⟨T, sps, ws, spv, n1, n2, a1, b1, tt, t1, t2, hjar, hJn, hsp, hTl, ha1, hb1, hb5, htot, hspt⟩ := R1
    refine HH _ _ _ _ ?_
    clear HH GG
    intro hI F1 N1 hQ
    clear F0 N0 hj0 hj1
    have hil : i < gvs.length := (List.getElem?_eq_some_iff.mp hv).1
    have hig : i < gs.length := by have := hgd.length; simp only [gsD, List.length_map] at this; omega
    obtain ⟨v', hv', hD⟩ := hgd.get (k := i) (by simp only [gsD, List.length_map]; exact hig)
    rw [hv] at hv'
    obtain rfl := Option.some.inj hv'
    have hgi : gs[i]? = some gs[i] := List.getElem?_eq_getElem hig
    have hgd2 : (gsD gs)[i]'(by simp only [gsD, List.length_map]; exact hig) = gD gs[i] := by simp [gsD]
    rw [hgd2] at hD
    have hwi := hw20 _ (List.getElem_mem hig)
    have htk := mem_take_succ hgi
    generalize gs[i] = g at hD hwi htk
    unfold gD at hD
    cases hD with
    | @list ga us ng2 _ hga hus =>
      have hJnl := hJn.len
      have hws : ws.length ≤ 100 := by have := take_len (gs := gs) i; omega
      have hT5 : T.length ≤ 2202 := by omega
      have hcz : spv.toArray.size ≤ 1000 := by
        have h1 := hsp.length
        have h2 := hJnl.2
        have h3 := List.length_take_le i gs
        simp only [List.size_toArray]; omega
      have e1 : @Ne Nat I _ := fun q => hI _ (.head _) q.symm
      have e2 : @Ne Nat I J := fun q => hI _ (.tail _ (.head _)) q.symm
      have e3 : @Ne Nat I C := fun q => hI _ (.tail _ (.tail _ (.head _))) q.symm
      ktr_unf
      (rename Fr _ _ _ _ => F2)
      refine' For_invVF F2 rfl rfl ?_
      ktr_unf
      (rename News _ _ _ _ => N3)
      have hfl2 : ws.length + g.length ≤ 100 := by
        have h1 := take_len (gs := gs) (i + 1)
        rw [htk] at h1
        simp only [List.flatten_append, List.flatten_cons, List.flatten_nil, List.length_append, List.length_nil] at h1
        omega
      refine' iter_q (JIn J C rest cv nc _ I oI T g _ b1) rfl (l := ga) (vs := us) (nn := ng2) (.tail _ (.tail _ (.tail _ (.tail _ hga)))) F2 N3 (.mk T [] n2 a1 b1 tt t1 t2 (by ktr_rel) (by ktr_rel) .nil (by simp only [List.length_nil]; omega) ha1 hb1 (by simp only [List.length_nil]; omega) (by ktr_rel)) ?_ ?_ ?_
      · rintro k m2 nx ⟨T2, c2, n3, a2, b2, tt2, t12, t22, _, _, _, _, _, _, _, _⟩
        exact .tail _ (.tail _ (.tail _ (.tail _ hga)))
      · intro k v2 I2 oI2 Qb2 hv2 GG HH m2 nx h2 tk2 R1
        obtain ⟨T2, c2, n3, a2, b2, tt2, t12, t22, hjar2, hspt2, hJW, hT2l, ha2, hb22, hb6, htot2⟩ := R1
        refine HH _ _ _ _ ?_
        clear HH GG
        intro hI2 F4 N4 hQ2
        clear F2 N3
        have hkl : k < us.length := (List.getElem?_eq_some_iff.mp hv2).1
        have hul := hus.length
        rw [List.length_map] at hul
        have hkg : k < g.length := by omega
        obtain ⟨v3, hv3, hD3⟩ := hus.get (k := k) (by rw [List.length_map]; exact hkg)
        rw [hv2] at hv3
        obtain rfl := Option.some.inj hv3
        have hgk : g[k]? = some g[k] := List.getElem?_eq_getElem hkg
        rw [List.getElem_map] at hD3
        have hwk := hwi _ (List.getElem_mem hkg)
        have htk2 := mem_take_succ hgk
        generalize g[k] = x at hD3 hwk htk2
        cases hD3 with
        | str _ tx =>
          have hcl := hJW.len
          have hcl2 : c2.length ≤ g.length := by rw [hcl]; exact List.length_take_le' k g
          have hT6 : T2.length ≤ 2202 := by omega
          have hb7 : b2 ≤ 1000 := by omega
          have e4 : @Ne Nat I2 _ := fun q => hI2 _ (.tail _ (.head _)) q.symm
          have e5 : @Ne Nat I2 J := fun q => hI2 _ (.tail _ (.tail _ (.head _))) q.symm
          have e6 : @Ne Nat I2 C := fun q => hI2 _ (.tail _ (.tail _ (.tail _ (.head _)))) q.symm
          have e7 : @Ne Nat I2 I := fun q => hI2 _ (.head _) q.symm
          ktr_unf
          (rename Fr _ _ _ _ => F5); (rename News _ _ _ _ => N5); (rename Sep _ => sp5)
          refine' hQ2 _ _ _ ((I, oI) :: (_, _) :: (J, _) :: (C, _) :: rest) F5 (cb_drop N5 (by kwd_rel)) ?zo (.mk (T2 ++ x ++ _) _ _ _ _ _ _ _ (by ktr_rel) (by ktr_rel) (by rw [htk2]; exact hJW.snoc sp5) ?zl (by assumption) (by assumption) ?zb (by ktr_rel))
          case zo => exact List.forall_mem_cons.mpr ⟨e7.symm, List.forall_mem_cons.mpr ⟨e4.symm, List.forall_mem_cons.mpr ⟨e5.symm, List.forall_mem_cons.mpr ⟨e6.symm, fun p hp => hI2 p (.tail _ (.tail _ (.tail _ (.tail _ hp))))⟩⟩⟩⟩
          case zl => simp only [List.length_append, List.length_cons, List.length_nil]; omega
          case zb => simp only [List.length_append, List.length_cons, List.length_nil]; omega
      · intro GG HH m2 nx h2 tk2 R1
        obtain ⟨T2, c2, n3, a2, b2, tt2, t12, t22, hjar2, hspt2, hJW, hT2l, ha2, hb22, hb6, htot2⟩ := R1
        refine HH _ _ _ _ ?_
        clear HH GG
        intro F4 N4
        clear F2 N3
        have hul := hus.length
        rw [List.length_map] at hul
        rw [hul, List.take_length] at hJW
        have hcl := hJW.len
        rw [List.push_toArray] at N4
        ktr_unf
        (rename Fr _ _ _ _ => F5)
        refine' hQ _ _ _ ((_, _) :: (J, _) :: (C, _) :: rest) F5 N4 ?zo (.mk T2 _ _ _ _ _ _ _ _ _ _ (by ktr_rel) (by rw [htk]; exact hJn.snoc hJW) (hsp.append (.cons _ _ .nil)) ?zl (by assumption) (by assumption) ?zb (by ktr_rel) (by ktr_rel))
        case zo => exact List.forall_mem_cons.mpr ⟨e1.symm, List.forall_mem_cons.mpr ⟨e2.symm, List.forall_mem_cons.mpr ⟨e3.symm, fun p hp => hI p (.tail _ (.tail _ (.tail _ hp)))⟩⟩⟩
        case zl => simp only [List.length_append]; omega
        case zb => simp only [List.length_append]; omega
  · intro GG HH m1 nx h1 tk1 R1
    obtain ⟨T, sps, ws, spv, n1, n2, a1, b1, tt, t1, t2, hjar, hJn, hsp, hTl, ha1, hb1, hb5, htot, hspt⟩ := R1
    refine HH _ _ _ _ ?_
    clear HH GG
    intro F1 N1
    clear F0 N0 hj0 hj1
    have hgl3 := hgd.length
    simp only [gsD, List.length_map] at hgl3
    rw [hgl3, List.take_length] at hJn
    have hJnl := hJn.len
    ktr_unf
    (rename _ < _ ∧ _ < _ ∧ _ < _ ∧ AllLt _ rest => l2)
    refine' hret _ _ _ _ (by assumption) (by assumption) (.mk _ _ _ _ T _ _ _ _ _ _ _ _ hJn ?zl hsp ha1 hb1 ?zb (Nat.ne_of_gt lJ) (Nat.ne_of_gt l2.2.1))
    case zl => omega
    case zb => omega


end Mine
end
section
open PySem PySem.W PySem.Calls PyProof.Rows PyProof.V PySem.Spec
set_option maxHeartbeats 20000000
namespace Mine
/-- a word: not empty, no layout in it -/
abbrev WOk (w : Str) : Prop := w.cps.toList ≠ [] ∧ ∀ c ∈ w.cps.toList, isL c = false
def SepHead (r : List Nat) : Prop := ∃ c r', r = c :: r' ∧ isL c = true
/-- from place p on, these codes hold these words at these places -/
noncomputable def Fl : Nat → List Nat → List (Str × Int) → Prop
  | _, l, [] => ∀ c ∈ l, isL c = true
  | p, l, (w, a) :: ws => ∃ l0 r, l = l0 ++ (w.cps.toList ++ r) ∧ (∀ c ∈ l0, isL c = true) ∧ WOk w ∧ a = ((p + l0.length : Nat) : Int) ∧ SepHead r ∧ Fl (p + l0.length + w.cps.toList.length) r ws
theorem Fl.snoc : ∀ {ws : List (Str × Int)} {p : Nat} {l s : List Nat} {w : Str} {q : Nat}, Fl p l ws → p + l.length = q → WOk w → SepHead s → (∀ c ∈ s, isL c = true) → Fl p (l ++ (w.cps.toList ++ s)) (ws ++ [(w, (q : Int))])
  | [], p, l, s, w, q, h, hq, hw, hs, hl => ⟨l, s, rfl, h, hw, by rw [hq], hs, hl⟩
  | (w0, a0) :: ws, p, l, s, w, q, h, hq, hw, hs, hl => by
    obtain ⟨l0, r, rfl, h0, hw0, rfl, ⟨c, r', hr, hc⟩, hf⟩ := h
    refine ⟨l0, r ++ (w.cps.toList ++ s), by simp only [List.append_assoc], h0, hw0, rfl, ⟨c, r' ++ (w.cps.toList ++ s), by rw [hr]; rfl, hc⟩, ?_⟩
    refine Fl.snoc hf ?_ hw hs hl
    rw [← hq]
    simp only [List.length_append]
    omega
theorem Sep.ok {s : Str} (h : Sep s) : SepHead s.cps.toList ∧ ∀ c ∈ s.cps.toList, isL c = true := by
  cases h
  · exact ⟨⟨32, [], by decide +kernel, by decide +kernel⟩, by decide +kernel⟩
  · exact ⟨⟨10, [], by decide +kernel, by decide +kernel⟩, by decide +kernel⟩
  · exact ⟨⟨9, [32], by decide +kernel, by decide +kernel⟩, by decide +kernel⟩
  · exact ⟨⟨13, [10], by decide +kernel, by decide +kernel⟩, by decide +kernel⟩
  · exact ⟨⟨32, [32], by decide +kernel, by decide +kernel⟩, by decide +kernel⟩
theorem cps_app (a b : Str) : (a ++ b).cps.toList = a.cps.toList ++ b.cps.toList := by
  show (a.cps ++ b.cps).toList = _
  rw [Array.toList_append]
theorem len_cps (a : Str) : a.length = a.cps.toList.length := (Array.length_toList).symm
theorem JW.fl {T₀ T : Str} {g : List Str} {c ws : List (Str × Int)} (h : JW T₀ T g c) (h0 : Fl 0 T₀.cps.toList ws) (hw : ∀ x ∈ g, WOk x) : Fl 0 T.cps.toList (ws ++ c) := by
  induction h with
  | nil => rw [List.append_nil]; exact h0
  | @snoc T w s g c _ hs ih =>
    have h1 := ih fun x hx => hw x (List.mem_append_left _ hx)
    have h2 := Fl.snoc h1 (by rw [Nat.zero_add]) (hw w (List.mem_append_right _ (.head _))) hs.ok.1 hs.ok.2
    rw [cps_app, cps_app, List.append_assoc, ← List.append_assoc ws, len_cps]
    exact h2
theorem Jn.fl {T : Str} {gs : List (List Str)} {sp : List Int} {ws : List (Str × Int)} (h : Jn T gs sp ws) (hw : ∀ g ∈ gs, ∀ x ∈ g, WOk x) : Fl 0 T.cps.toList ws := by
  induction h with
  | a => exact (by decide +kernel : ∀ c ∈ (s_ "").cps.toList, isL c = true)
  | b => exact (by decide +kernel : ∀ c ∈ (s_ " \n").cps.toList, isL c = true)
  | @snoc T T' gs sp ws c g _ hJ ih =>
    exact hJ.fl (ih fun g hg => hw g (List.mem_append_left _ hg)) (hw g (List.mem_append_right _ (.head _)))

theorem cd_at {T : Str} {k : Nat} (h : k < T.cps.toList.length) : cd T (k : Int) = T.cps.toList[k] := by
  have h' : k < T.cps.size := by rw [← Array.length_toList]; exact h
  have hs : seqIndex? (k : Int) T.length = some k := by
    unfold seqIndex?
    simp only [show ¬ ((k : Int) < 0) by omega, if_false]
    rw [if_pos (by simp only [Bool.and_eq_true, decide_eq_true_eq]; exact ⟨by omega, by show (k : Int) < (T.cps.size : Int); omega⟩)]
    rfl
  unfold cd Txt.charAt
  rw [hs]
  simp [h', Array.getElem_toList]
theorem cd_app {T : Str} {pre l : List Nat} {k : Nat} (h : T.cps.toList = pre ++ l) (hk : k < l.length) : cd T ((pre.length + k : Nat) : Int) = l[k] := by
  have h1 : pre.length + k < T.cps.toList.length := by rw [h, List.length_append]; omega
  rw [cd_at h1]
  simp only [h]
  rw [List.getElem_append_right (Nat.le_add_right _ _)]
  simp
theorem slice_app {T : Str} {pre w r : List Nat} (h : T.cps.toList = pre ++ (w ++ r)) : Txt.slice T (some (pre.length : Int)) (some ((pre.length + w.length : Nat) : Int)) = ⟨w.toArray⟩ := by
  have hl : T.cps.toList.length = pre.length + (w.length + r.length) := by rw [h, List.length_append, List.length_append]
  have := slice_closes (x := T) (i := (pre.length : Int)) (j := ((pre.length + w.length : Nat) : Int)) ⟨by omega, by omega, by omega⟩
  rw [eq_of_beq this, h]
  congr 2
  have e1 : ((pre.length : Nat) : Int).toNat = pre.length := by omega
  have e2 : (((pre.length + w.length : Nat) : Int) - (pre.length : Int)).toNat = w.length := by omega
  rw [e1, e2, List.drop_left, List.take_left]
theorem Fl.strm {T : Str} : ∀ {ws : List (Str × Int)} {pre l : List Nat}, T.cps.toList = pre ++ l → Fl pre.length l ws → Strm T (pre.length : Int) ws
  | [], pre, l, hT, h => by
    have hl : T.length = pre.length + l.length := by rw [len_cps, hT, List.length_append]
    refine .nil ⟨by omega, Int.le_refl _, Int.le_refl _, fun k h1 h2 => ?_, fun h => absurd h (Int.lt_irrefl _), fun k h1 h2 => by omega, fun h => absurd h (Int.lt_irrefl _)⟩ ?_
    · have hk : (k.toNat - pre.length) < l.length := by omega
      have e := cd_app hT hk
      have e2 : ((pre.length + (k.toNat - pre.length) : Nat) : Int) = k := by omega
      rw [e2] at e
      rw [e]
      exact h _ (List.getElem_mem hk)
    · have e := slice_app (T := T) (pre := pre ++ l) (w := []) (r := []) (by rw [hT]; simp)
      rw [List.length_append, ← hl] at e
      exact e
  | (w, a) :: ws, pre, l, hT, h => by
    obtain ⟨l0, r, rfl, h0, ⟨hw1, hw2⟩, rfl, ⟨c, r', hr, hc⟩, hf⟩ := h
    have hl : T.length = pre.length + (l0.length + (w.cps.toList.length + r.length)) := by rw [len_cps, hT, List.length_append, List.length_append, List.length_append]
    have hrl : 1 ≤ r.length := by rw [hr]; simp
    have hwl : 1 ≤ w.cps.toList.length := List.length_pos_iff.mpr hw1
    have hT1 : T.cps.toList = (pre ++ l0) ++ (w.cps.toList ++ r) := by rw [hT, List.append_assoc]
    have hT2 : T.cps.toList = (pre ++ l0 ++ w.cps.toList) ++ r := by rw [hT1, List.append_assoc (pre ++ l0)]
    refine .cons (q := ((pre.length + l0.length + w.cps.toList.length : Nat) : Int)) ⟨by omega, by omega, by omega, fun k h1 h2 => ?_, fun _ => ?_, fun k h1 h2 => ?_, fun _ => ?_⟩ ?_ ?_ ?_
    · have hk : (k.toNat - pre.length) < (l0 ++ (w.cps.toList ++ r)).length := by simp only [List.length_append]; omega
      have e := cd_app hT hk
      have e2 : ((pre.length + (k.toNat - pre.length) : Nat) : Int) = k := by omega
      rw [e2] at e
      rw [e, List.getElem_append_left (by omega)]
      exact h0 _ (List.getElem_mem _)
    · have e := cd_app hT1 (k := 0) (by simp only [List.length_append]; omega)
      rw [Nat.add_zero, List.length_append] at e
      rw [e, List.getElem_append_left (by omega)]
      exact hw2 _ (List.getElem_mem _)
    · have hk : (k.toNat - (pre ++ l0).length) < (w.cps.toList ++ r).length := by simp only [List.length_append]; omega
      have e := cd_app hT1 hk
      have e2 : (((pre ++ l0).length + (k.toNat - (pre ++ l0).length) : Nat) : Int) = k := by simp only [List.length_append]; omega
      rw [e2] at e
      rw [e, List.getElem_append_left (by simp only [List.length_append]; omega)]
      exact hw2 _ (List.getElem_mem _)
    · have e := cd_app hT2 (k := 0) (by omega)
      rw [Nat.add_zero, List.length_append, List.length_append] at e
      rw [e]
      simp only [hr, List.getElem_cons_zero]
      exact hc
    · have e := slice_app hT1
      rw [List.length_append] at e
      rw [e]
    · intro q
      rw [q] at hw1
      exact hw1 (by decide +kernel)
    · have e := Fl.strm (ws := ws) (pre := pre ++ l0 ++ w.cps.toList) (l := r) hT2 (by simp only [List.length_append]; exact hf)
      simp only [List.length_append] at e
      exact e
theorem Jn.strm {T : Str} {gs : List (List Str)} {sp : List Int} {ws : List (Str × Int)} (h : Jn T gs sp ws) (hw : ∀ g ∈ gs, ∀ x ∈ g, WOk x) : Strm T 0 ws :=
  Fl.strm (pre := []) rfl (h.fl hw)

/-- the words parted into the groups, with the place of each group -/
inductive Ck : List (List Str) → List Int → List (Str × Int) → Prop
  | nil : Ck [] [] []
  | cons {g : List Str} {sp0 : Int} {c ws : List (Str × Int)} {gs : List (List Str)} {sps : List Int} : c.map Prod.fst = g → (∀ w a r, c = (w, a) :: r → a = sp0) → Ck gs sps ws → Ck (g :: gs) (sp0 :: sps) (c ++ ws)
theorem Ck.snoc {gs : List (List Str)} {sps : List Int} {ws : List (Str × Int)} {g : List Str} {sp0 : Int} {c : List (Str × Int)} (h : Ck gs sps ws) (h1 : c.map Prod.fst = g) (h2 : ∀ w a r, c = (w, a) :: r → a = sp0) : Ck (gs ++ [g]) (sps ++ [sp0]) (ws ++ c) := by
  induction h with
  | nil => have := Ck.cons h1 h2 .nil; rw [List.append_nil] at this; exact this
  | cons a b _ ih => rw [List.append_assoc]; exact .cons a b ih
theorem JW.chunk {T₀ T : Str} {g : List Str} {c : List (Str × Int)} (h : JW T₀ T g c) : c.map Prod.fst = g ∧ (∀ w a r, c = (w, a) :: r → a = (T₀.length : Int)) ∧ (c = [] → T = T₀) := by
  induction h with
  | nil => exact ⟨rfl, fun _ _ _ h => (by cases h), fun _ => rfl⟩
  | @snoc T w s g c _ _ ih =>
    obtain ⟨h1, h2, h3⟩ := ih
    refine ⟨by rw [List.map_append, h1]; rfl, fun w' a r e => ?_, fun e => by simp at e⟩
    cases c with
    | nil =>
      rw [h3 rfl] at e
      cases e
      rfl
    | cons y c =>
      injection e with e1 e2
      exact h2 w' a c (by rw [e1])
theorem Jn.ck {T : Str} {gs : List (List Str)} {sp : List Int} {ws : List (Str × Int)} (h : Jn T gs sp ws) : Ck gs sp ws := by
  induction h with
  | a => exact .nil
  | b => exact .nil
  | snoc _ hJ ih => exact ih.snoc hJ.chunk.1 hJ.chunk.2.1
theorem Ck.split {gs1 gs2 : List (List Str)} {sps : List Int} {ws : List (Str × Int)} (h : Ck (gs1 ++ gs2) sps ws) : ∃ sps1 sps2 ws1 ws2, sps = sps1 ++ sps2 ∧ ws = ws1 ++ ws2 ∧ sps1.length = gs1.length ∧ Ck gs1 sps1 ws1 ∧ Ck gs2 sps2 ws2 := by
  induction gs1 generalizing sps ws with
  | nil => exact ⟨[], sps, [], ws, rfl, rfl, rfl, .nil, h⟩
  | cons g gs1 ih =>
    cases h with
    | cons a b h =>
      obtain ⟨s1, s2, w1, w2, rfl, rfl, e, k1, k2⟩ := ih h
      exact ⟨_ :: s1, s2, _ ++ w1, w2, rfl, by rw [List.append_assoc], by simp [e], .cons a b k1, k2⟩

end Mine
end
section
open PySem PySem.W PySem.Calls PyProof.Rows PyProof.V PySem.Spec
set_option maxHeartbeats 20000000
namespace Mine
def digs : List (Str × Int × Int) := [(s_ "10", 2, 0), (s_ "x", 7, 7), (s_ "z1", 1, 6), (s_ "0", 0, 0), (s_ "1X0", 6, 2), (s_ "Z", 0, 7), (s_ "111", 7, 0)]
def digV (x : Str × Int × Int) : Dat := .tuple [.int 3, .int x.2.1, .int x.2.2]
abbrev endS : Str := s_ "$end"
structure DigF (f : Str) (v : Dat) : Prop where
  dig : Dig f (s_ "%") v
  wb : WOk (s_ "b" ++ f)
  wB : WOk (s_ "B" ++ f)
  vb : VecW (s_ "b" ++ f)
  vB : VecW (s_ "B" ++ f)
  sb : Txt.slice (s_ "b" ++ f) (some 1) none = f
  sB : Txt.slice (s_ "B" ++ f) (some 1) none = f
  nb : s_ "b" ++ f ≠ endS
  nB : s_ "B" ++ f ≠ endS
  len : f.length ≤ 10
  lb : (s_ "b" ++ f).length ≤ 20
  lB : (s_ "B" ++ f).length ≤ 20
theorem vecW_of {word : Str} (h : (decide ((word != Str.ofString "") = true) && decide (1 ≤ word.length) && decide (word.length ≤ 20) && decide ((Txt.item word 0 == Str.ofString "#") = false) && decide (occ "01xzXZ" (Txt.item word 0) = true) && decide (occ "bB" (Txt.item word 0) = false)) = true) : VecW word := by
  simp only [Bool.and_eq_true, decide_eq_true_eq] at h
  obtain ⟨⟨⟨⟨⟨a, b⟩, c⟩, d⟩, e⟩, f⟩ := h
  exact ⟨a, b, c, d, e, f⟩
theorem digF : ∀ x ∈ digs, DigF x.1 (digV x) := by
  unfold digs
  refine List.forall_mem_cons.mpr ⟨?_, List.forall_mem_cons.mpr ⟨?_, List.forall_mem_cons.mpr ⟨?_, List.forall_mem_cons.mpr ⟨?_, List.forall_mem_cons.mpr ⟨?_, List.forall_mem_cons.mpr ⟨?_, List.forall_mem_cons.mpr ⟨?_, fun _ h => nomatch h⟩⟩⟩⟩⟩⟩⟩
  · exact ⟨.g3, by decide +kernel, by decide +kernel, vecW_of (by decide +kernel), vecW_of (by decide +kernel), by decide +kernel, by decide +kernel, by decide +kernel, by decide +kernel, by decide +kernel, by decide +kernel, by decide +kernel⟩
  · exact ⟨.g4, by decide +kernel, by decide +kernel, vecW_of (by decide +kernel), vecW_of (by decide +kernel), by decide +kernel, by decide +kernel, by decide +kernel, by decide +kernel, by decide +kernel, by decide +kernel, by decide +kernel⟩
  · exact ⟨.g5, by decide +kernel, by decide +kernel, vecW_of (by decide +kernel), vecW_of (by decide +kernel), by decide +kernel, by decide +kernel, by decide +kernel, by decide +kernel, by decide +kernel, by decide +kernel, by decide +kernel⟩
  · exact ⟨.g6, by decide +kernel, by decide +kernel, vecW_of (by decide +kernel), vecW_of (by decide +kernel), by decide +kernel, by decide +kernel, by decide +kernel, by decide +kernel, by decide +kernel, by decide +kernel, by decide +kernel⟩
  · exact ⟨.g7, by decide +kernel, by decide +kernel, vecW_of (by decide +kernel), vecW_of (by decide +kernel), by decide +kernel, by decide +kernel, by decide +kernel, by decide +kernel, by decide +kernel, by decide +kernel, by decide +kernel⟩
  · exact ⟨.g8, by decide +kernel, by decide +kernel, vecW_of (by decide +kernel), vecW_of (by decide +kernel), by decide +kernel, by decide +kernel, by decide +kernel, by decide +kernel, by decide +kernel, by decide +kernel, by decide +kernel⟩
  · exact ⟨.g9, by decide +kernel, by decide +kernel, vecW_of (by decide +kernel), vecW_of (by decide +kernel), by decide +kernel, by decide +kernel, by decide +kernel, by decide +kernel, by decide +kernel, by decide +kernel, by decide +kernel⟩

/- the states of the reading -/
def C1 : Cont := { c00 with scale := s_ "1 ns" }
def C2 : Cont := { C1 with scopes := [s_ "top"] }
def C3 : Cont := { C2 with vars := [varA], D := [(s_ "!", 1)] }
def C4 : Cont := { C3 with vars := [varA, varB], D := [(s_ "!", 1), (s_ "%", 3)] }
def C5 : Cont := { C4 with scopes := [] }
def Cst : Nat → Cont
  | 0 => c00
  | 1 => C1
  | 2 => C2
  | 3 => C3
  | 4 => C4
  | _ => C5
def chg (k : Int) (nm : String) (v : Dat) : Dat := .tuple [.int k, .str (s_ nm), v]
def one (a b : Int) : Dat := .tuple [.int 1, .int a, .int b]
def due (v1 v2 : Dat) : List Dat := [chg 0 "!" (one 1 0), chg 0 "%" v1, chg 5 "!" (one 1 1), chg 5 "%" v2, chg 5 "!" (one 0 0)]
def Vst (v1 v2 : Dat) : Nat → Cont
  | 0 => C5
  | 1 => C5
  | 2 => { C5 with chs := (due v1 v2).take 1 }
  | 3 => { C5 with chs := (due v1 v2).take 2 }
  | 4 => { C5 with chs := (due v1 v2).take 2, now := 5 }
  | 5 => { C5 with chs := (due v1 v2).take 3, now := 5 }
  | 6 => { C5 with chs := (due v1 v2).take 4, now := 5 }
  | _ => { C5 with chs := due v1 v2, now := 5 }

theorem cut_map : ∀ {parts : List Str} {ck ws : List (Str × Int)}, ck.map Prod.fst = parts ++ [endS] → (∀ p ∈ parts, p ≠ endS) → cutEnd (ck ++ ws) = some (parts, ws)
  | [], ck, ws, h, _ => by
    cases ck with
    | nil => cases h
    | cons x r =>
      obtain ⟨w, a⟩ := x
      obtain ⟨h1, h2⟩ := List.cons.inj h
      have h1' : w = endS := h1
      subst h1'
      have h3 : r = [] := by cases r with | nil => rfl | cons _ _ => cases h2
      subst h3
      rw [List.cons_append, cutEnd, if_pos rfl]; rfl
  | p :: parts, ck, ws, h, hp => by
    cases ck with
    | nil => cases h
    | cons x r =>
      obtain ⟨w, a⟩ := x
      obtain ⟨h1, h2⟩ := List.cons.inj h
      have h1' : w = p := h1
      subst h1'
      rw [List.cons_append, cutEnd, if_neg (hp _ (.head _)), cut_map h2 fun q hq => hp q (.tail _ hq)]
      rfl
theorem cut_none : ∀ {ws : List (Str × Int)}, (∀ y ∈ ws, y.1 ≠ endS) → cutEnd ws = none
  | [], _ => rfl
  | (w, a) :: ws, h => by rw [cutEnd, if_neg (h _ (.head _)), cut_none fun y hy => h y (.tail _ hy)]; rfl
theorem ck_words {gs : List (List Str)} {sps : List Int} {ws : List (Str × Int)} {P : Str → Prop} (h : Ck gs sps ws) (hp : ∀ g ∈ gs, ∀ x ∈ g, P x) : ∀ y ∈ ws, P y.1 := by
  induction h with
  | nil => intro y hy; cases hy
  | cons a _ _ ih =>
    intro y hy
    rcases List.mem_append.mp hy with hy | hy
    · exact hp _ (.head _) _ (a ▸ List.mem_map_of_mem hy)
    · exact ih (fun g hg => hp g (.tail _ hg)) y hy
theorem map1 {ck : List (Str × Int)} {w : Str} (h : ck.map Prod.fst = [w]) : ∃ a, ck = [(w, a)] := by
  cases ck with
  | nil => cases h
  | cons x r =>
    obtain ⟨y, a⟩ := x
    obtain ⟨h1, h2⟩ := List.cons.inj h
    have h1' : y = w := h1
    subst h1'
    cases r with
    | nil => exact ⟨a, rfl⟩
    | cons _ _ => cases h2
theorem map_cons {ck : List (Str × Int)} {w : Str} {l : List Str} (h : ck.map Prod.fst = w :: l) : ∃ a r, ck = (w, a) :: r ∧ r.map Prod.fst = l := by
  cases ck with
  | nil => cases h
  | cons x r =>
    obtain ⟨y, a⟩ := x
    obtain ⟨h1, h2⟩ := List.cons.inj h
    have h1' : y = w := h1
    subst h1'
    exact ⟨a, r, rfl, h2⟩

def DStep (c : Cont) (g : List Str) (c' : Cont) : Prop := ∀ T ws out ck, ck.map Prod.fst = g → DPlan T c' ws out → DPlan T c (ck ++ ws) out
def DPath (c : Cont) (gs : List (List Str)) (c' : Cont) : Prop := ∀ T ws out sps ws0, Ck gs sps ws0 → DPlan T c' ws out → DPlan T c (ws0 ++ ws) out
def VStep (c : Cont) (g : List Str) (c' : Cont) : Prop := ∀ T ws out ck, ck.map Prod.fst = g → VPlan T c' ws out → VPlan T c (ck ++ ws) out
def VPath (c : Cont) (gs : List (List Str)) (c' : Cont) : Prop := ∀ T ws out sps ws0, Ck gs sps ws0 → VPlan T c' ws out → VPlan T c (ws0 ++ ws) out
theorem DPath.nil {c : Cont} : DPath c [] c := fun T ws out sps ws0 h k => by cases h; exact k
theorem DPath.cons {c c1 c2 : Cont} {g : List Str} {gs : List (List Str)} (s : DStep c g c1) (p : DPath c1 gs c2) : DPath c (g :: gs) c2 := fun T ws out sps ws0 h k => by
  cases h with
  | cons a _ h => rw [List.append_assoc]; exact s _ _ _ _ a (p _ _ _ _ _ h k)
theorem VPath.nil {c : Cont} : VPath c [] c := fun T ws out sps ws0 h k => by cases h; exact k
theorem VPath.cons {c c1 c2 : Cont} {g : List Str} {gs : List (List Str)} (s : VStep c g c1) (p : VPath c1 gs c2) : VPath c (g :: gs) c2 := fun T ws out sps ws0 h k => by
  cases h with
  | cons a _ h => rw [List.append_assoc]; exact s _ _ _ _ a (p _ _ _ _ _ h k)
theorem dstep {c c' : Cont} {cmd : Str} {parts : List Str} (h : Good c cmd parts c') (hp : ∀ p ∈ parts, p ≠ endS) : DStep c (cmd :: (parts ++ [endS])) c' := fun T ws out ck hk k => by
  obtain ⟨a, r, rfl, hr⟩ := map_cons hk
  exact .good h (cut_map hr hp) k
theorem vtime {c : Cont} {word : Str} {k : Int} (h1 : HashW word) (h2 : Wn (Txt.slice word (some 1) none) k) (h3 : c.now ≤ k) : VStep c [word] { c with now := k } := fun T ws out ck hk kk => by
  obtain ⟨a, rfl⟩ := map1 hk
  exact .time h1 h2 h3 kk
theorem vscal {c : Cont} {word nm : Str} {v : Dat} (h1 : ScalW word) (h0 : Txt.slice word (some 1) none = nm) (h2 : Dig (Txt.item word 0) nm v) (h3 : c.chs.length + 1 ≤ 50) : VStep c [word] { c with chs := c.chs ++ [.tuple [.int c.now, .str nm, v]] } := fun T ws out ck hk kk => by
  obtain ⟨a, rfl⟩ := map1 hk
  subst h0
  exact .scal h1 h2 h3 kk
theorem vvec {c : Cont} {word nm : Str} {v : Dat} (h1 : VecW word) (h2 : Dig (Txt.slice word (some 1) none) nm v) (h3 : c.chs.length + 1 ≤ 50) : VStep c [word, nm] { c with chs := c.chs ++ [.tuple [.int c.now, .str nm, v]] } := fun T ws out ck hk kk => by
  obtain ⟨a, r, rfl, hr⟩ := map_cons hk
  obtain ⟨b, rfl⟩ := map1 hr
  exact .vec h1 h2 h3 kk

theorem d0 : DStep c00 [s_ "$timescale", s_ "1", s_ "ns", s_ "$end"] C1 := dstep .scale (by decide +kernel)
theorem d1 : DStep C1 [s_ "$scope", s_ "module", s_ "top", s_ "$end"] C2 := dstep (.scope rfl) (by decide +kernel)
theorem d2 : DStep C2 [s_ "$var", s_ "wire", s_ "1", s_ "!", s_ "a", s_ "$end"] C3 := dstep (.var1 rfl rfl rfl) (by decide +kernel)
theorem d3 : DStep C3 [s_ "$var", s_ "reg", s_ "3", s_ "%", s_ "b", s_ "[2:0]", s_ "$end"] C4 := dstep (.var2 rfl rfl rfl) (by decide +kernel)
theorem d4 : DStep C4 [s_ "$upscope", s_ "$end"] C5 := dstep (.up rfl) (by decide +kernel)
theorem dpath (f s : Str) : ∀ t, t ≤ 5 → DPath c00 ((grps f s).take t) (Cst t)
  | 0, _ => .nil
  | 1, _ => .cons d0 .nil
  | 2, _ => .cons d0 (.cons d1 .nil)
  | 3, _ => .cons d0 (.cons d1 (.cons d2 .nil))
  | 4, _ => .cons d0 (.cons d1 (.cons d2 (.cons d3 .nil)))
  | 5, _ => .cons d0 (.cons d1 (.cons d2 (.cons d3 (.cons d4 .nil))))
  | n + 6, h => absurd h (by omega)
theorem hashW_of {word : Str} (h : (decide ((word != Str.ofString "") = true) && decide (1 ≤ word.length) && decide (word.length ≤ 20) && decide ((Txt.item word 0 == Str.ofString "#") = true)) = true) : HashW word := by
  simp only [Bool.and_eq_true, decide_eq_true_eq] at h
  obtain ⟨⟨⟨a, b⟩, c⟩, d⟩ := h
  exact ⟨a, b, c, d⟩
theorem scalW_of {word : Str} (h : (decide ((word != Str.ofString "") = true) && decide (1 ≤ word.length) && decide (word.length ≤ 20) && decide ((Txt.item word 0 == Str.ofString "#") = false) && decide (occ "01xzXZ" (Txt.item word 0) = false)) = true) : ScalW word := by
  simp only [Bool.and_eq_true, decide_eq_true_eq] at h
  obtain ⟨⟨⟨⟨a, b⟩, c⟩, d⟩, e⟩ := h
  exact ⟨a, b, c, d, e⟩
theorem restW_of {word : Str} {rr : Bool} (h : (decide ((word != Str.ofString "") = true) && decide (1 ≤ word.length) && decide (word.length ≤ 20) && decide ((Txt.item word 0 == Str.ofString "#") = false) && decide (occ "01xzXZ" (Txt.item word 0) = true) && decide (occ "bB" (Txt.item word 0) = true) && decide (occ "rR" (Txt.item word 0) = rr)) = true) : RestW word rr := by
  simp only [Bool.and_eq_true, decide_eq_true_eq] at h
  obtain ⟨⟨⟨⟨⟨⟨a, b⟩, c⟩, d⟩, e⟩, f⟩, g⟩ := h
  exact ⟨a, b, c, d, e, f, g⟩
theorem wn_at {x y : Str} {k : Int} (e : x = y) (h : Wn y k) : Wn x k := by rw [e]; exact h
theorem dig_at {x y nm : Str} {v : Dat} (e : x = y) (h : Dig y nm v) : Dig x nm v := by rw [e]; exact h
section
variable {f s : Str} {v1 v2 : Dat}
theorem u0 : VStep (Vst v1 v2 0) [s_ "#0"] (Vst v1 v2 1) := vtime (k := 0) (hashW_of (by decide +kernel)) (wn_at (y := s_ "0") (by decide +kernel) .zero) (Int.le_refl _)
theorem u1 : VStep (Vst v1 v2 1) [s_ "1!"] (Vst v1 v2 2) := vscal (scalW_of (by decide +kernel)) (nm := s_ "!") (by decide +kernel) (dig_at (y := s_ "1") (by decide +kernel) .g0) (by show 0 + 1 ≤ 50; decide)
theorem u2 (h : DigF f v1) : VStep (Vst v1 v2 2) [s_ "b" ++ f, s_ "%"] (Vst v1 v2 3) := vvec h.vb (dig_at h.sb h.dig) (by show 1 + 1 ≤ 50; decide)
theorem u3 : VStep (Vst v1 v2 3) [s_ "#5"] (Vst v1 v2 4) := vtime (k := 5) (hashW_of (by decide +kernel)) (wn_at (y := s_ "5") (by decide +kernel) .five) (by show (0 : Int) ≤ 5; decide)
theorem u4 : VStep (Vst v1 v2 4) [s_ "x!"] (Vst v1 v2 5) := vscal (scalW_of (by decide +kernel)) (nm := s_ "!") (by decide +kernel) (dig_at (y := s_ "x") (by decide +kernel) .g1) (by show 2 + 1 ≤ 50; decide)
theorem u5 (h : DigF s v2) : VStep (Vst v1 v2 5) [s_ "B" ++ s, s_ "%"] (Vst v1 v2 6) := vvec h.vB (dig_at h.sB h.dig) (by show 3 + 1 ≤ 50; decide)
theorem u6 : VStep (Vst v1 v2 6) [s_ "0!"] (Vst v1 v2 7) := vscal (scalW_of (by decide +kernel)) (nm := s_ "!") (by decide +kernel) (dig_at (y := s_ "0") (by decide +kernel) .g2) (by show 4 + 1 ≤ 50; decide)
theorem vpath (h1 : DigF f v1) (h2 : DigF s v2) : ∀ t, t ≤ 7 → VPath C5 (((grps f s).drop 6).take t) (Vst v1 v2 t)
  | 0, _ => .nil
  | 1, _ => .cons (u0 (v1 := v1) (v2 := v2)) .nil
  | 2, _ => .cons (u0 (v1 := v1) (v2 := v2)) (.cons u1 .nil)
  | 3, _ => .cons (u0 (v1 := v1) (v2 := v2)) (.cons u1 (.cons (u2 h1) .nil))
  | 4, _ => .cons (u0 (v1 := v1) (v2 := v2)) (.cons u1 (.cons (u2 h1) (.cons u3 .nil)))
  | 5, _ => .cons (u0 (v1 := v1) (v2 := v2)) (.cons u1 (.cons (u2 h1) (.cons u3 (.cons u4 .nil))))
  | 6, _ => .cons (u0 (v1 := v1) (v2 := v2)) (.cons u1 (.cons (u2 h1) (.cons u3 (.cons u4 (.cons (u5 h2) .nil)))))
  | 7, _ => .cons (u0 (v1 := v1) (v2 := v2)) (.cons u1 (.cons (u2 h1) (.cons u3 (.cons u4 (.cons (u5 h2) (.cons u6 .nil))))))
  | n + 8, h => absurd h (by omega)
end

end Mine
end
section
open PySem PySem.W PySem.Calls PyProof.Rows PyProof.V PySem.Spec
set_option maxHeartbeats 20000000
namespace Mine
theorem Ck.one {g : List Str} {gs : List (List Str)} {sps : List Int} {ws : List (Str × Int)} (h : Ck (g :: gs) sps ws) : ∃ sp0 sps' c ws', sps = sp0 :: sps' ∧ ws = c ++ ws' ∧ c.map Prod.fst = g ∧ (∀ w a r, c = (w, a) :: r → a = sp0) ∧ Ck gs sps' ws' := by
  cases h with
  | cons a b h => exact ⟨_, _, _, _, rfl, rfl, a, b, h⟩
theorem getD_mid {l1 l2 : List Int} {x : Int} {t : Nat} (h : l1.length = t) : (l1 ++ x :: l2).getD t 0 = x := by
  subst h
  simp [List.getD]
/-- a wrong piece among the declarations -/
theorem rp_decl {f s : Str} {t : Nat} {piece : List Str} {rest : List (List Str)} {kind detail : Str} {T : Str} {sps : List Int} {ws : List (Str × Int)} (ht : t ≤ 5)
    (hP : ∀ ws2 sps2 ck a, Ck rest sps2 ws2 → ck.map Prod.fst = piece → (∀ w b r, ck = (w, b) :: r → b = a) → DPlan T (Cst t) (ck ++ ws2) (.err kind a detail))
    (h : Ck ((grps f s).take t ++ (piece :: rest)) sps ws) : RPlan T ws (.err kind (sps.getD t 0) detail) := by
  obtain ⟨sps1, sps2, ws1, ws2, rfl, rfl, hl, k1, k2⟩ := h.split
  obtain ⟨sp0, sps3, c, ws3, rfl, rfl, hc, hsp, k3⟩ := k2.one
  have hlen : ((grps f s).take t).length = t := by rw [List.length_take]; show min t 13 = t; omega
  rw [getD_mid (hl.trans hlen)]
  exact ⟨_, dpath f s t ht _ _ _ _ _ k1 (hP _ _ _ _ k3 hc hsp), .inl ⟨_, _, _, rfl, rfl⟩⟩
theorem rp_miss {f s : Str} {t : Nat} {T : Str} {sps : List Int} {ws : List (Str × Int)} (ht : t ≤ 5) (h : Ck ((grps f s).take t) sps ws) : RPlan T ws (.err (s_ "definitions_missing") T.length eS) := by
  have := dpath f s t ht T [] (.err (s_ "definitions_missing") T.length eS) _ _ h .missing
  rw [List.append_nil] at this
  exact ⟨_, this, .inl ⟨_, _, _, rfl, rfl⟩⟩
/-- past the declarations -/
theorem rp_past {f s : Str} {gsV : List (List Str)} {T : Str} {sps : List Int} {ws : List (Str × Int)} {P : List Int → Out} (hlen : ws.length ≤ 1000)
    (hP : ∀ sps1 sps2 ws2, sps = sps1 ++ sps2 → sps1.length = 6 → Ck gsV sps2 ws2 → VPlan T C5 ws2 (P sps))
    (h : Ck ((grps f s).take 6 ++ gsV) sps ws) : RPlan T ws (P sps) := by
  have e : (grps f s).take 6 ++ gsV = (grps f s).take 5 ++ ([s_ "$enddefinitions", endS] :: gsV) := rfl
  rw [e] at h
  obtain ⟨sps1, sps2, ws1, ws2, rfl, rfl, hl, k1, k2⟩ := h.split
  obtain ⟨sp0, sps3, c, ws3, rfl, rfl, hc, hsp, k3⟩ := k2.one
  obtain ⟨a, r, rfl, hr⟩ := map_cons hc
  refine ⟨.ok C5 ws3, dpath f s 5 (Nat.le_refl 5) _ _ _ _ _ k1 (.done (cut_map (parts := []) hr (fun _ h => nomatch h))), .inr ⟨C5, ws3, rfl, ?_, by decide, rfl, ?_⟩⟩
  · simp only [List.length_append] at hlen; omega
  · refine hP (sps1 ++ [sp0]) sps3 ws3 (by simp) ?_ k3
    rw [List.length_append, hl]; rfl
theorem grps_split (f s : Str) : grps f s = (grps f s).take 6 ++ (grps f s).drop 6 := (List.take_append_drop 6 _).symm
section
variable {f s : Str} {v1 v2 : Dat} {T : Str} {sps : List Int} {ws : List (Str × Int)}
/-- the sound dump -/
theorem rp_good (h1 : DigF f v1) (h2 : DigF s v2) (hlen : ws.length ≤ 1000) (h : Ck (grps f s) sps ws) : RPlan T ws (.ok (Vst v1 v2 7) []) := by
  rw [grps_split] at h
  refine rp_past (P := fun _ => .ok (Vst v1 v2 7) []) hlen (fun sps1 sps2 ws2 _ _ k => ?_) h
  have := vpath h1 h2 7 (Nat.le_refl 7) T [] (.ok (Vst v1 v2 7) []) _ _ k .done
  rw [List.append_nil] at this
  exact this
/-- a wrong piece among the changes -/
theorem rp_chg {t : Nat} {piece : List Str} {rest : List (List Str)} {kind detail : Str} {bes : Int} (h1 : DigF f v1) (h2 : DigF s v2) (hlen : ws.length ≤ 1000) (h6 : 6 ≤ t) (h13 : t ≤ 13)
    (hP : ∀ ws2 sps2 ck a, Ck rest sps2 ws2 → ck.map Prod.fst = piece → (∀ w b r, ck = (w, b) :: r → b = a) → VPlan T (Vst v1 v2 (t - 6)) (ck ++ ws2) (.err kind (a + bes) detail))
    (h : Ck ((grps f s).take t ++ (piece :: rest)) sps ws) : RPlan T ws (.err kind (sps.getD t 0 + bes) detail) := by
  have e : (grps f s).take t = (grps f s).take 6 ++ ((grps f s).drop 6).take (t - 6) := by
    rw [show t = 6 + (t - 6) by omega, List.take_add]
    rw [show 6 + (t - 6) - 6 = t - 6 by omega]
  rw [e, List.append_assoc] at h
  refine rp_past (P := fun sps => .err kind (sps.getD t 0 + bes) detail) hlen (fun sps1 sps2 ws2 hs hl k => ?_) h
  obtain ⟨sps3, sps4, ws3, ws4, rfl, rfl, hl3, k1, k2⟩ := k.split
  obtain ⟨sp0, sps5, c, ws5, rfl, rfl, hc, hsp, k3⟩ := k2.one
  have hl4 : (sps1 ++ sps3).length = t := by
    rw [List.length_append, hl, hl3, List.length_take, List.length_drop]
    show 6 + min (t - 6) (13 - 6) = t
    omega
  have e2 : sps.getD t 0 = sp0 := by rw [hs, ← List.append_assoc]; exact getD_mid hl4
  show VPlan T C5 _ (.err kind (sps.getD t 0 + bes) detail)
  rw [e2]
  exact vpath h1 h2 (t - 6) (by omega) _ _ _ _ _ k1 (hP _ _ _ _ k3 hc hsp)
end

end Mine
end
section
open PySem PySem.W PySem.Calls PyProof.Rows PyProof.V PySem.Spec
set_option maxHeartbeats 20000000
namespace Mine
theorem vbadnum {T : Str} {c : Cont} {word d : Str} {a : Int} {ws : List (Str × Int)} (h1 : HashW word) (e : Txt.slice word (some 1) none = d) (h2 : WnBad d) : VPlan T c ((word, a) :: ws) (.err (s_ "bad_number") (a + 1) d) := by subst e; exact .badnum h1 h2
theorem vback {T : Str} {c : Cont} {word d : Str} {a k : Int} {ws : List (Str × Int)} (h1 : HashW word) (e : Txt.slice word (some 1) none = d) (h2 : Wn d k) (h3 : k < c.now) : VPlan T c ((word, a) :: ws) (.err (s_ "time_goes_back") (a + 0) word) := by subst e; rw [Int.add_zero]; exact .back h1 h2 h3
theorem vscalb {T : Str} {c : Cont} {word d n kind detail : Str} {a : Int} {ws : List (Str × Int)} (h1 : ScalW word) (e1 : Txt.item word 0 = d) (e2 : Txt.slice word (some 1) none = n) (h2 : DigBad d n kind detail) : VPlan T c ((word, a) :: ws) (.err kind (a + 0) detail) := by subst e1 e2; rw [Int.add_zero]; exact .scalBad h1 h2
theorem vvecb {T : Str} {c : Cont} {word d n kind detail : Str} {a : Int} {ws : List (Str × Int)} (h1 : VecW word) (e1 : Txt.slice word (some 1) none = d) (e2 : hdW ws = n) (h2 : DigBad d n kind detail) : VPlan T c ((word, a) :: ws) (.err kind (a + 0) detail) := by subst e1 e2; rw [Int.add_zero]; exact .vecBad h1 h2
theorem vreal {T : Str} {c : Cont} {word : Str} {a : Int} {ws : List (Str × Int)} (h1 : RestW word false) : VPlan T c ((word, a) :: ws) (.err (s_ "real_unsupported") (a + 0) word) := by rw [Int.add_zero]; exact .real h1
theorem vother {T : Str} {c : Cont} {word : Str} {a : Int} {ws : List (Str × Int)} (h1 : RestW word true) (h2 : (word == Str.ofString "$comment") = false) (h3 : ([Str.ofString "$dumpvars", Str.ofString "$dumpall", Str.ofString "$dumpon", Str.ofString "$dumpoff", Str.ofString "$end"].any fun x => x == word) = false) : VPlan T c ((word, a) :: ws) (.err (s_ "unexpected_word") (a + 0) word) := by rw [Int.add_zero]; exact .other h1 h2 h3
theorem vnoend {T : Str} {c : Cont} {word : Str} {a : Int} {ws : List (Str × Int)} (h1 : RestW word true) (h2 : (word == Str.ofString "$comment") = true) (h3 : cutEnd ws = none) : VPlan T c ((word, a) :: ws) (.err (s_ "end_missing") (a + 0) eS) := by rw [Int.add_zero]; exact .noend h1 h2 h3

/-- what a row of the wrong pieces promises -/
def RowOk (f s : Str) (r : WRow) : Prop :=
  (r.low < 0 → ∀ t : Nat, t ≤ 5 → ∀ (T : Str) (sps : List Int) (ws : List (Str × Int)), ws.length ≤ 1000 → Ck ((grps f s).take t ++ [r.piece]) sps ws → RPlan T ws (.err r.kind (sps.getD t 0 + r.beside) r.detail)) ∧
  (0 ≤ r.low → ∀ t : Nat, r.low ≤ t → t ≤ r.high → ∀ (T : Str) (sps : List Int) (ws : List (Str × Int)), ws.length ≤ 1000 → Ck ((grps f s).take t ++ (r.piece :: (grps f s).drop t)) sps ws → RPlan T ws (.err r.kind (sps.getD t 0 + r.beside) r.detail))
theorem row_decl {f s : Str} {piece : List Str} {kind detail : Str} {low high : Int} (h0 : 0 ≤ low) (h5 : high ≤ 5)
    (hP : ∀ (t : Nat) T ws2 ck a, low ≤ t → t ≤ high → ck.map Prod.fst = piece → (∀ w b r, ck = (w, b) :: r → b = a) → DPlan T (Cst t) (ck ++ ws2) (.err kind a detail)) : RowOk f s ⟨piece, 0, kind, detail, low, high⟩ := by
  refine ⟨fun h => absurd h (by show ¬ (low < 0); omega), fun _ t hl hh T sps ws hlen hc => ?_⟩
  show RPlan T ws (.err kind (sps.getD t 0 + 0) detail)
  rw [Int.add_zero]
  exact rp_decl (by have : (t : Int) ≤ high := hh; omega) (fun ws2 sps2 ck a _ hk hp => hP t T ws2 ck a hl hh hk hp) hc
theorem row_chg {f s : Str} {v1 v2 : Dat} (h1 : DigF f v1) (h2 : DigF s v2) {piece : List Str} {kind detail : Str} {bes low : Int} (h0 : 6 ≤ low)
    (hP : ∀ (t : Nat) T ws2 sps2 ck a, low ≤ t → (t : Int) ≤ 13 → Ck ((grps f s).drop t) sps2 ws2 → ck.map Prod.fst = piece → (∀ w b r, ck = (w, b) :: r → b = a) → VPlan T (Vst v1 v2 (t - 6)) (ck ++ ws2) (.err kind (a + bes) detail)) : RowOk f s ⟨piece, bes, kind, detail, low, 13⟩ := by
  refine ⟨fun h => absurd h (by show ¬ (low < 0); omega), fun _ t hl hh T sps ws hlen hc => ?_⟩
  have hl' : low ≤ t := hl
  have hh' : (t : Int) ≤ 13 := hh
  exact rp_chg h1 h2 hlen (by omega) (by omega) (fun ws2 sps2 ck a hk2 hk hp => hP t T ws2 sps2 ck a hl hh hk2 hk hp) hc
theorem tail_none {f s : Str} {v1 v2 : Dat} (h1 : DigF f v1) (h2 : DigF s v2) {t : Nat} (ht : 6 ≤ t) {sps : List Int} {ws : List (Str × Int)} (h : Ck ((grps f s).drop t) sps ws) : ∀ y ∈ ws, y.1 ≠ endS := by
  refine ck_words (P := fun x => x ≠ endS) h fun g hg => ?_
  have e : (grps f s).drop t = ((grps f s).drop 6).drop (t - 6) := by rw [List.drop_drop, show 6 + (t - 6) = t by omega]
  rw [e] at hg
  have hg2 := List.mem_of_mem_drop hg
  have all : ∀ g ∈ [[s_ "#0"], [s_ "1!"], [s_ "b" ++ f, s_ "%"], [s_ "#5"], [s_ "x!"], [s_ "B" ++ s, s_ "%"], [s_ "0!"]], ∀ x ∈ g, x ≠ endS := by
    refine List.forall_mem_cons.mpr ⟨by decide +kernel, List.forall_mem_cons.mpr ⟨by decide +kernel, List.forall_mem_cons.mpr ⟨?_, List.forall_mem_cons.mpr ⟨by decide +kernel, List.forall_mem_cons.mpr ⟨by decide +kernel, List.forall_mem_cons.mpr ⟨?_, List.forall_mem_cons.mpr ⟨by decide +kernel, fun _ h => nomatch h⟩⟩⟩⟩⟩⟩⟩
    · exact List.forall_mem_cons.mpr ⟨h1.nb, by decide +kernel⟩
    · exact List.forall_mem_cons.mpr ⟨h2.nB, by decide +kernel⟩
  exact all g hg2
section
variable {f s : Str} {v1 v2 : Dat}
theorem row0 : RowOk f s ⟨[s_ "hello"], 0, s_ "unexpected_word", s_ "hello", 0, 5⟩ := by
  refine row_decl (by decide) (by decide) fun t T ws2 ck a hl hh hk hp => ?_
  obtain ⟨b, rfl⟩ := map1 hk
  obtain rfl := hp _ _ _ rfl
  exact .hello
theorem row1 : RowOk f s ⟨[s_ "$end"], 0, s_ "unexpected_word", s_ "$end", 0, 5⟩ := by
  refine row_decl (by decide) (by decide) fun t T ws2 ck a hl hh hk hp => ?_
  obtain ⟨b, rfl⟩ := map1 hk
  obtain rfl := hp _ _ _ rfl
  exact .anEnd
theorem row2 : RowOk f s ⟨[s_ "$foo", s_ "x", s_ "$end"], 0, s_ "unexpected_word", s_ "$foo", 0, 5⟩ := by
  refine row_decl (by decide) (by decide) fun t T ws2 ck a hl hh hk hp => ?_
  obtain ⟨b, r, rfl, hr⟩ := map_cons hk
  obtain rfl := hp _ _ _ rfl
  exact .bad .foo (cut_map (parts := [s_ "x"]) hr (by decide +kernel))
theorem row3 : RowOk f s ⟨[s_ "$scope", s_ "module", s_ "$end"], 0, s_ "bad_scope", s_ "", 0, 5⟩ := by
  refine row_decl (by decide) (by decide) fun t T ws2 ck a hl hh hk hp => ?_
  obtain ⟨b, r, rfl, hr⟩ := map_cons hk
  obtain rfl := hp _ _ _ rfl
  exact .bad .scope (cut_map (parts := [s_ "module"]) hr (by decide +kernel))
theorem row4 : RowOk f s ⟨[s_ "$upscope", s_ "$end"], 0, s_ "bad_scope", s_ "", 0, 1⟩ := by
  refine row_decl (by decide) (by decide) fun t T ws2 ck a hl hh hk hp => ?_
  obtain ⟨b, r, rfl, hr⟩ := map_cons hk
  obtain rfl := hp _ _ _ rfl
  have : t = 0 ∨ t = 1 := by omega
  rcases this with rfl | rfl
  · exact .bad (.up rfl) (cut_map (parts := []) hr (by decide +kernel))
  · exact .bad (.up rfl) (cut_map (parts := []) hr (by decide +kernel))
theorem row5 : RowOk f s ⟨[s_ "$var", s_ "wire", s_ "1", s_ "$end"], 0, s_ "bad_variable", s_ "", 0, 5⟩ := by
  refine row_decl (by decide) (by decide) fun t T ws2 ck a hl hh hk hp => ?_
  obtain ⟨b, r, rfl, hr⟩ := map_cons hk
  obtain rfl := hp _ _ _ rfl
  exact .bad .short (cut_map (parts := [s_ "wire", s_ "1"]) hr (by decide +kernel))
theorem row6 : RowOk f s ⟨[s_ "$var", s_ "wire", s_ "two", s_ "?", s_ "c", s_ "$end"], 0, s_ "bad_number", s_ "two", 0, 5⟩ := by
  refine row_decl (by decide) (by decide) fun t T ws2 ck a hl hh hk hp => ?_
  obtain ⟨b, r, rfl, hr⟩ := map_cons hk
  obtain rfl := hp _ _ _ rfl
  exact .bad .num (cut_map (parts := [s_ "wire", s_ "two", s_ "?", s_ "c"]) hr (by decide +kernel))
theorem row7 : RowOk f s ⟨[s_ "$var", s_ "wire", s_ "0", s_ "?", s_ "c", s_ "$end"], 0, s_ "wrong_width", s_ "?", 0, 5⟩ := by
  refine row_decl (by decide) (by decide) fun t T ws2 ck a hl hh hk hp => ?_
  obtain ⟨b, r, rfl, hr⟩ := map_cons hk
  obtain rfl := hp _ _ _ rfl
  exact .bad .zero (cut_map (parts := [s_ "wire", s_ "0", s_ "?", s_ "c"]) hr (by decide +kernel))
theorem row8 : RowOk f s ⟨[s_ "$var", s_ "wire", s_ "2", s_ "!", s_ "c", s_ "$end"], 0, s_ "wrong_width", s_ "!", 3, 5⟩ := by
  refine row_decl (by decide) (by decide) fun t T ws2 ck a hl hh hk hp => ?_
  obtain ⟨b, r, rfl, hr⟩ := map_cons hk
  obtain rfl := hp _ _ _ rfl
  have : t = 3 ∨ t = 4 ∨ t = 5 := by omega
  rcases this with rfl | rfl | rfl
  · exact .bad (.width1 rfl) (cut_map (parts := [s_ "wire", s_ "2", s_ "!", s_ "c"]) hr (by decide +kernel))
  · exact .bad (.width2 rfl) (cut_map (parts := [s_ "wire", s_ "2", s_ "!", s_ "c"]) hr (by decide +kernel))
  · exact .bad (.width2 rfl) (cut_map (parts := [s_ "wire", s_ "2", s_ "!", s_ "c"]) hr (by decide +kernel))
theorem row9 : RowOk f s ⟨[s_ "$comment", s_ "abc"], 0, s_ "end_missing", s_ "", -1, 0⟩ := by
  refine ⟨fun _ t ht T sps ws hlen hc => ?_, fun h => absurd h (by decide)⟩
  show RPlan T ws (.err (s_ "end_missing") (sps.getD t 0 + 0) (s_ ""))
  rw [Int.add_zero]
  refine rp_decl ht (fun ws2 sps2 ck a hk2 hk hp => ?_) hc
  obtain ⟨b, r, rfl, hr⟩ := map_cons hk
  obtain rfl := hp _ _ _ rfl
  obtain ⟨b2, rfl⟩ := map1 hr
  cases hk2
  refine .noend (cut_none fun y hy => ?_)
  rcases List.mem_cons.mp (show y ∈ [(s_ "abc", b2)] from hy) with rfl | hy
  · exact (by decide +kernel : s_ "abc" ≠ endS)
  · cases hy
theorem row10 (h1 : DigF f v1) (h2 : DigF s v2) : RowOk f s ⟨[s_ "#x"], 1, s_ "bad_number", s_ "x", 6, 13⟩ := by
  refine row_chg h1 h2 (by decide) fun t T ws2 sps2 ck a hl hh hk2 hk hp => ?_
  obtain ⟨b, rfl⟩ := map1 hk
  obtain rfl := hp _ _ _ rfl
  exact vbadnum (hashW_of (by decide +kernel)) (by decide +kernel) .x
theorem row11 (h1 : DigF f v1) (h2 : DigF s v2) : RowOk f s ⟨[s_ "#"], 1, s_ "bad_number", s_ "", 6, 13⟩ := by
  refine row_chg h1 h2 (by decide) fun t T ws2 sps2 ck a hl hh hk2 hk hp => ?_
  obtain ⟨b, rfl⟩ := map1 hk
  obtain rfl := hp _ _ _ rfl
  exact vbadnum (hashW_of (by decide +kernel)) (by decide +kernel) .e
theorem row12 (h1 : DigF f v1) (h2 : DigF s v2) : RowOk f s ⟨[s_ "#4"], 0, s_ "time_goes_back", s_ "#4", 10, 13⟩ := by
  refine row_chg h1 h2 (by decide) fun t T ws2 sps2 ck a hl hh hk2 hk hp => ?_
  obtain ⟨b, rfl⟩ := map1 hk
  obtain rfl := hp _ _ _ rfl
  refine vback (hashW_of (by decide +kernel)) (d := s_ "4") (by decide +kernel) .four ?_
  have : t = 10 ∨ t = 11 ∨ t = 12 ∨ t = 13 := by omega
  rcases this with rfl | rfl | rfl | rfl
  · show (4 : Int) < 5; decide
  · show (4 : Int) < 5; decide
  · show (4 : Int) < 5; decide
  · show (4 : Int) < 5; decide
theorem row13 (h1 : DigF f v1) (h2 : DigF s v2) : RowOk f s ⟨[s_ "1~~"], 0, s_ "unknown_id", s_ "~~", 6, 13⟩ := by
  refine row_chg h1 h2 (by decide) fun t T ws2 sps2 ck a hl hh hk2 hk hp => ?_
  obtain ⟨b, rfl⟩ := map1 hk
  obtain rfl := hp _ _ _ rfl
  exact vscalb (scalW_of (by decide +kernel)) (d := s_ "1") (n := s_ "~~") (by decide +kernel) (by decide +kernel) .unk
theorem row14 (h1 : DigF f v1) (h2 : DigF s v2) : RowOk f s ⟨[s_ "b1010", s_ "%"], 0, s_ "wrong_width", s_ "%", 6, 13⟩ := by
  refine row_chg h1 h2 (by decide) fun t T ws2 sps2 ck a hl hh hk2 hk hp => ?_
  obtain ⟨b, r, rfl, hr⟩ := map_cons hk
  obtain rfl := hp _ _ _ rfl
  obtain ⟨b2, rfl⟩ := map1 hr
  exact vvecb (vecW_of (by decide +kernel)) (d := s_ "1010") (n := s_ "%") (by decide +kernel) rfl .wid
theorem row15 (h1 : DigF f v1) (h2 : DigF s v2) : RowOk f s ⟨[s_ "b", s_ "%"], 0, s_ "wrong_width", s_ "%", 6, 13⟩ := by
  refine row_chg h1 h2 (by decide) fun t T ws2 sps2 ck a hl hh hk2 hk hp => ?_
  obtain ⟨b, r, rfl, hr⟩ := map_cons hk
  obtain rfl := hp _ _ _ rfl
  obtain ⟨b2, rfl⟩ := map1 hr
  exact vvecb (vecW_of (by decide +kernel)) (d := s_ "") (n := s_ "%") (by decide +kernel) rfl .non
theorem row16 (h1 : DigF f v1) (h2 : DigF s v2) : RowOk f s ⟨[s_ "b12", s_ "%"], 0, s_ "bad_digit", s_ "12", 6, 13⟩ := by
  refine row_chg h1 h2 (by decide) fun t T ws2 sps2 ck a hl hh hk2 hk hp => ?_
  obtain ⟨b, r, rfl, hr⟩ := map_cons hk
  obtain rfl := hp _ _ _ rfl
  obtain ⟨b2, rfl⟩ := map1 hr
  exact vvecb (vecW_of (by decide +kernel)) (d := s_ "12") (n := s_ "%") (by decide +kernel) rfl .dig
theorem row17 (h1 : DigF f v1) (h2 : DigF s v2) : RowOk f s ⟨[s_ "r1.5", s_ "%"], 0, s_ "real_unsupported", s_ "r1.5", 6, 13⟩ := by
  refine row_chg h1 h2 (by decide) fun t T ws2 sps2 ck a hl hh hk2 hk hp => ?_
  obtain ⟨b, r, rfl, hr⟩ := map_cons hk
  obtain rfl := hp _ _ _ rfl
  exact vreal (restW_of (by decide +kernel))
theorem row18 (h1 : DigF f v1) (h2 : DigF s v2) : RowOk f s ⟨[s_ "hello"], 0, s_ "unexpected_word", s_ "hello", 6, 13⟩ := by
  refine row_chg h1 h2 (by decide) fun t T ws2 sps2 ck a hl hh hk2 hk hp => ?_
  obtain ⟨b, rfl⟩ := map1 hk
  obtain rfl := hp _ _ _ rfl
  exact vother (restW_of (by decide +kernel)) (by decide +kernel) (by decide +kernel)
theorem row19 (h1 : DigF f v1) (h2 : DigF s v2) : RowOk f s ⟨[s_ "$comment", s_ "abc", s_ "1!"], 0, s_ "end_missing", s_ "", 6, 13⟩ := by
  refine row_chg h1 h2 (by decide) fun t T ws2 sps2 ck a hl hh hk2 hk hp => ?_
  obtain ⟨b, r, rfl, hr⟩ := map_cons hk
  obtain rfl := hp _ _ _ rfl
  refine vnoend (restW_of (by decide +kernel)) (by decide +kernel) (cut_none fun y hy => ?_)
  rcases List.mem_append.mp hy with hy | hy
  · have hm : y.1 ∈ [s_ "abc", s_ "1!"] := hr ▸ List.mem_map_of_mem hy
    exact (by decide +kernel : ∀ x ∈ [s_ "abc", s_ "1!"], x ≠ endS) _ hm
  · exact tail_none h1 h2 (by omega) hk2 y hy
theorem row20 (h1 : DigF f v1) (h2 : DigF s v2) : RowOk f s ⟨[s_ "1"], 0, s_ "unknown_id", s_ "", 6, 13⟩ := by
  refine row_chg h1 h2 (by decide) fun t T ws2 sps2 ck a hl hh hk2 hk hp => ?_
  obtain ⟨b, rfl⟩ := map1 hk
  obtain rfl := hp _ _ _ rfl
  exact vscalb (scalW_of (by decide +kernel)) (d := s_ "1") (n := s_ "") (by decide +kernel) (by decide +kernel) .emp
theorem row21 (h1 : DigF f v1) (h2 : DigF s v2) : RowOk f s ⟨[s_ "B1"], 0, s_ "unknown_id", s_ "", 13, 13⟩ := by
  refine row_chg h1 h2 (by decide) fun t T ws2 sps2 ck a hl hh hk2 hk hp => ?_
  obtain ⟨b, rfl⟩ := map1 hk
  obtain rfl := hp _ _ _ rfl
  have : t = 13 := by omega
  subst this
  cases hk2
  exact vvecb (vecW_of (by decide +kernel)) (d := s_ "1") (n := s_ "") (by decide +kernel) rfl .emp
theorem rows_ok (h1 : DigF f v1) (h2 : DigF s v2) : ∀ r ∈ wRows, RowOk f s r := by
  unfold wRows
  exact List.forall_mem_cons.mpr ⟨row0, List.forall_mem_cons.mpr ⟨row1, List.forall_mem_cons.mpr ⟨row2, List.forall_mem_cons.mpr ⟨row3, List.forall_mem_cons.mpr ⟨row4, List.forall_mem_cons.mpr ⟨row5, List.forall_mem_cons.mpr ⟨row6, List.forall_mem_cons.mpr ⟨row7, List.forall_mem_cons.mpr ⟨row8, List.forall_mem_cons.mpr ⟨row9, List.forall_mem_cons.mpr ⟨row10 h1 h2, List.forall_mem_cons.mpr ⟨row11 h1 h2, List.forall_mem_cons.mpr ⟨row12 h1 h2, List.forall_mem_cons.mpr ⟨row13 h1 h2, List.forall_mem_cons.mpr ⟨row14 h1 h2, List.forall_mem_cons.mpr ⟨row15 h1 h2, List.forall_mem_cons.mpr ⟨row16 h1 h2, List.forall_mem_cons.mpr ⟨row17 h1 h2, List.forall_mem_cons.mpr ⟨row18 h1 h2, List.forall_mem_cons.mpr ⟨row19 h1 h2, List.forall_mem_cons.mpr ⟨row20 h1 h2, List.forall_mem_cons.mpr ⟨row21 h1 h2, fun _ h => nomatch h⟩⟩⟩⟩⟩⟩⟩⟩⟩⟩⟩⟩⟩⟩⟩⟩⟩⟩⟩⟩⟩⟩
end

end Mine
end
section
open PySem PySem.W PySem.Calls PyProof.Rows PyProof.V PySem.Spec
set_option maxHeartbeats 20000000
namespace Mine
theorem lawp_lines0 : True := by
  k_with_none
  (k_with "k_room" => ktr_room)
  (k_with "k_all" => assumption)
  (k_with "ktr_rel" => first | assumption | rfl | ((refine (if_neg (by decide)).trans ?_); ktr_rel))
  (k_with "eval Name" => (k_here; k_dflt (refine' ld ?q9k1 ?q9k2 ?_; (case q9k1 => k_asm); (case q9k2 => first | assumption | rfl | ((refine (if_neg (by decide)).trans ?_); first | assumption | ktr_rel)); k_whole)))
  (k_with "exec Raise some none" => (k_here; with_reducible refine fe_raise rfl ?_))
  (k_with "call ref" => (k_here; (with_reducible show wpAny _ _ (call (Value.ref 45) _) _ _ _); k_dflt (first
  | (refine' rets_use2 (fe_make _ _ _ _ _ _ _ _ rfl) ?q9k1 ?q9k2 ?q9k3 ?q9k4 ?q9k5 ?q9k6 ?q9k7 ?q9k8 ?_; (case q9k1 => k_asm); (case q9k2 => k_asm); (case q9k3 => k_asm); (case q9k4 => k_asm); (case q9k5 => k_asm); (case q9k6 => first | exact rfl | assumption); (case q9k7 => ktr_room); (case q9k8 => ktr_units))
  | (refine' rets_use2 (fe_make2 _ _ _ _ _ _ rfl) ?q9k1 ?q9k2 ?q9k3 ?q9k4 ?q9k5 ?q9k6 ?q9k7 ?q9k8 ?_; (case q9k1 => k_asm); (case q9k2 => k_asm); (case q9k3 => k_asm); (case q9k4 => k_asm); (case q9k5 => k_asm); (case q9k6 => first | exact rfl | assumption); (case q9k7 => ktr_room); (case q9k8 => ktr_units))); intro GG9 HH9; refine FeMade.out ?_; intro h9 tk9 e9 d9 p9 _ _ _ _ _ _ l9 m9; refine HH9 _ _ _ _ ?_; clear HH9 GG9; intro F9 N9; (try dsimp only)))
  (k_with "Exists" => (k_here; refine ⟨_, _, _, rfl, by k_in, News.get (by k_asm) (List.Mem.tail _ (List.Mem.head _)), ?_⟩; (try dsimp only)))
  (k_with "leaving ref" => (k_here; first
  | (refine' fe_leave_first ?q9k1 ?q9k2 ?q9k3 ?q9k4 ?q9k5 ?_; (case q9k1 => assumption); (case q9k2 => k_asm); (case q9k3 => k_asm); (case q9k4 => (intro p hp; exact Nat.ne_of_lt (by (first | exact l9 p hp | (rename ∀ p ∈ _, @LT.lt Nat _ _ _ => l9; exact l9 p hp))))); (case q9k5 => exact Nat.ne_of_gt (by assumption)); intro h' R' U'; (try dsimp only at R' U' ⊢))
  | (refine' fe_leave_on ?q9k1 ?q9k2 ?q9k3 ?q9k4 ?_; (case q9k3 => assumption); (case q9k1 => assumption); (case q9k4 => assumption); (case q9k2 => assumption); intro h' R' U'; (try dsimp only at R' U' ⊢))))
  (k_with "subscriptTail" => (k_here; (with_reducible show wpAny _ _ (subscriptTail _ _ (Value.str _ _) (Value.int _ _)) _ _ _); (refine item_str (fitsSsize_of (N := 9223372036854775808) (by omega) (by omega) (Int.le_refl _)) (by omega) (by omega) ?_); intro hlen9))
  (k_with "ktr_unf" => repeat' ((fail_if_success (with_reducible show wpAny _ _ (exec (Stmt.While _ _ _ _) _) _ _ _)); first | (k_unfold; (try dsimp only)) | (k_end; wrow_close) | walk1 | (dsimp only; walk1) | (leave1; walk_say "STEP leave1"; try dsimp only) | fail "no step"))
  (k_with "subscriptTail" => (k_here; (with_reducible show wpAny _ _ (subscriptTail _ (Expr.Slice (some _) (some _) none _) (Value.str _ _) (Value.ref _)) _ _ _); (with_reducible rename Fr _ _ _ _ => F'); (with_reducible rename News _ _ _ _ => N'); (refine slice_strN_ss (hsz := ?q9hsz) (s := ⟨_, _, _, _, _⟩) F' N' ?_); (case q9hsz => (rw [sizeLine_eq]; omega)); intro _ _ _ _ _))
  (k_with "k_updF" => first | (refine' UpdF.head ?q9a; (case q9a => k_all)) | (refine' UpdF.tail ?q9a ?q9b; (case q9a => k_ne); (case q9b => k_updF)))
  (k_with "kwd_rel" => first | exact List.forall_mem_nil _ | ((refine' List.forall_mem_cons.mpr ⟨?q9aa, ?q9bb⟩); (case q9aa => k_mem); (case q9bb => kwd_rel)) | (intro p hp; repeat (first | exact hp | refine List.Mem.tail _ ?_)))
  trivial

def digD (x : Str × Int × Int) : Dat := .tuple [.str x.1, digV x]
theorem DatIn.list_inv {L : List (Addr × Obj)} {v : Value} {ds : List Dat} (h : DatIn L v (.list ds)) : ∃ (a n : Nat) (vs : List Value), v = .ref a ∧ (a, listOf vs.toArray n) ∈ L ∧ DatAll L vs ds := by
  cases h with
  | list hm hd => exact ⟨_, _, _, rfl, hm, hd⟩
theorem DatIn.tuple_inv {L : List (Addr × Obj)} {v : Value} {ds : List Dat} (h : DatIn L v (.tuple ds)) : ∃ (a n : Nat) (vs : List Value), v = .ref a ∧ (a, ({ cls := .type "tuple", data := .seq vs.toArray n } : Obj)) ∈ L ∧ DatAll L vs ds := by
  cases h with
  | tuple hm hd => exact ⟨_, _, _, rfl, hm, hd⟩
theorem DatIn.dig_inv {L : List (Addr × Obj)} {v : Value} {x : Str × Int × Int} (h : DatIn L v (digD x)) : ∃ (a n : Nat) (t : Tok) (u : Value), v = .ref a ∧ (a, ({ cls := .type "tuple", data := .seq [Value.str x.1 t, u].toArray n } : Obj)) ∈ L ∧ DatIn L u (digV x) := by
  unfold digD at h
  cases h with
  | tuple hm hd =>
    cases hd with
    | cons h1 h2 =>
      cases h2 with
      | cons h3 h4 =>
        cases h4
        cases h1
        exact ⟨_, _, _, _, rfl, hm, h3⟩
theorem DatAll.cons_inv {L : List (Addr × Obj)} {vs : List Value} {d : Dat} {ds : List Dat} (h : DatAll L vs (d :: ds)) : ∃ v us, vs = v :: us ∧ DatIn L v d ∧ DatAll L us ds := by
  cases h with
  | cons a b => exact ⟨_, _, rfl, a, b⟩
theorem DatAll.nil_inv {L : List (Addr × Obj)} {vs : List Value} (h : DatAll L vs []) : vs = [] := by
  cases h
  rfl
theorem DatIn.int_inv {L : List (Addr × Obj)} {v : Value} {i : Int} (h : DatIn L v (.int i)) : ∃ t, v = .int i t := by
  cases h
  exact ⟨_, rfl⟩
theorem DatIn.str_inv {L : List (Addr × Obj)} {v : Value} {x : Str} (h : DatIn L v (.str x)) : ∃ t, v = .str x t := by
  cases h
  exact ⟨_, rfl⟩
inductive RowI (L : List (Addr × Obj)) (r : WRow) : Value → Prop
  | mk (a n pa pn : Nat) (pvs : List Value) (t1 t2 t3 t4 t5 : Tok) : (a, ({ cls := .type "tuple", data := .seq [Value.ref pa, .int r.beside t1, .str r.kind t2, .str r.detail t3, .int r.low t4, .int r.high t5].toArray n } : Obj)) ∈ L → (pa, listOf pvs.toArray pn) ∈ L → DatAll L pvs (r.piece.map Dat.str) → RowI L r (.ref a)
theorem DatIn.row_inv {L : List (Addr × Obj)} {v : Value} {r : WRow} (h : DatIn L v (wD r)) : RowI L r v := by
  unfold wD gD at h
  obtain ⟨a, n, vs, rfl, hm, hd⟩ := DatIn.tuple_inv h
  obtain ⟨v1, u1, rfl, h1, hd⟩ := DatAll.cons_inv hd
  obtain ⟨v2, u2, rfl, h2, hd⟩ := DatAll.cons_inv hd
  obtain ⟨v3, u3, rfl, h3, hd⟩ := DatAll.cons_inv hd
  obtain ⟨v4, u4, rfl, h4, hd⟩ := DatAll.cons_inv hd
  obtain ⟨v5, u5, rfl, h5, hd⟩ := DatAll.cons_inv hd
  obtain ⟨v6, u6, rfl, h6, hd⟩ := DatAll.cons_inv hd
  obtain rfl := DatAll.nil_inv hd
  obtain ⟨t2, rfl⟩ := DatIn.int_inv h2
  obtain ⟨t3, rfl⟩ := DatIn.str_inv h3
  obtain ⟨t4, rfl⟩ := DatIn.str_inv h4
  obtain ⟨t5, rfl⟩ := DatIn.int_inv h5
  obtain ⟨t6, rfl⟩ := DatIn.int_inv h6
  obtain ⟨pa, pn, pvs, rfl, hpm, hpd⟩ := DatIn.list_inv h1
  exact .mk _ _ _ _ _ _ _ _ _ _ hm hpm hpd
theorem DatAll.take {L : List (Addr × Obj)} : ∀ {vs : List Value} {ds : List Dat} (k : Nat), DatAll L vs ds → DatAll L (vs.take k) (ds.take k)
  | _, _, 0, _ => by rw [List.take_zero, List.take_zero]; exact .nil
  | _, _, k + 1, .nil => .nil
  | _, _, k + 1, .cons h r => .cons h (DatAll.take k r)
theorem DatAll.drop {L : List (Addr × Obj)} : ∀ {vs : List Value} {ds : List Dat} (k : Nat), DatAll L vs ds → DatAll L (vs.drop k) (ds.drop k)
  | _, _, 0, h => h
  | _, _, k + 1, .nil => .nil
  | _, _, k + 1, .cons _ r => DatAll.drop k r
section
variable {prog : Program} {w : World} {A : Around} {E : Value → Shared → Prop} {s : Shared} {h₀ : Heap} {L l : Addr}
theorem dig_item {value slice : PySem.Expr} {news L9 : List (Addr × Obj)} {us : List Value} {n : Nat} {k : Int} {u : Tok} {Q : Value → Shared → Prop} (N : News h₀ L s.heap news) (hm : (l, listOf us.toArray n) ∈ news) (hd : DatAll L9 us (digs.map digD))
    (h0 : 0 ≤ k) (h1 : k < 7) (h : ∀ x a n t u, x ∈ digs → (a, ({ cls := .type "tuple", data := .seq [Value.str x.1 t, u].toArray n } : Obj)) ∈ L9 → DatIn L9 u (digV x) → Q (.ref a) s)
    (hs : subscripted slice false (.ref l) (.int k u) = operate [.ref l, .int k u] (getItem (.ref l) (.int k u)) := by with_unfolding_all rfl) :
    wpAny (model prog w) A (subscriptTail value slice (.ref l) (.int k u)) Q E s := by
  refine kd_item N hm hd h0 (by rw [List.length_map]; exact h1) (by omega) (fun v d _ hdm hD => ?_) hs
  obtain ⟨x, hx, rfl⟩ := List.mem_map.mp hdm
  obtain ⟨a, n, t, u, rfl, h2, h3⟩ := DatIn.dig_inv hD
  exact h _ _ _ _ _ hx h2 h3
theorem row_item {value slice : PySem.Expr} {news L9 : List (Addr × Obj)} {us : List Value} {n : Nat} {k : Int} {u : Tok} {Q : Value → Shared → Prop} (N : News h₀ L s.heap news) (hm : (l, listOf us.toArray n) ∈ news) (hd : DatAll L9 us (wRows.map wD))
    (h0 : 0 ≤ k) (h1 : k < 22) (h : ∀ r a n pa pn pvs t1 t2 t3 t4 t5, r ∈ wRows → (a, ({ cls := .type "tuple", data := .seq [Value.ref pa, .int r.beside t1, .str r.kind t2, .str r.detail t3, .int r.low t4, .int r.high t5].toArray n } : Obj)) ∈ L9 → (pa, listOf pvs.toArray pn) ∈ L9 → DatAll L9 pvs (r.piece.map Dat.str) → Q (.ref a) s)
    (hs : subscripted slice false (.ref l) (.int k u) = operate [.ref l, .int k u] (getItem (.ref l) (.int k u)) := by with_unfolding_all rfl) :
    wpAny (model prog w) A (subscriptTail value slice (.ref l) (.int k u)) Q E s := by
  refine kd_item N hm hd h0 (by rw [List.length_map]; exact h1) (by omega) (fun v d _ hdm hD => ?_) hs
  obtain ⟨x, hx, rfl⟩ := List.mem_map.mp hdm
  cases DatIn.row_inv hD with
  | mk _ _ _ _ _ _ _ _ _ _ h2 h3 h4 => exact h _ _ _ _ _ _ _ _ _ _ _ hx h2 h3 h4
end
section
variable {prog : Program} {w : World} {A : Around} {E : Value → Shared → Prop} {s : Shared} {h₀ : Heap} {L l : Addr} {m : Str → Option Value} {news : List (Addr × Obj)} {value slice : PySem.Expr} {vs : List Value} {vl vu : Value} {n : Nat} {x y : Int} {t u : Tok} {Q : Value → Shared → Prop}
theorem slice_up (F : Fr h₀ L s.heap m) (N : News h₀ L s.heap news) (hm : (l, listOf vs.toArray n) ∈ news) (h0 : 0 ≤ y) (hz : vs.length ≤ 1000)
    (h : ∀ D h', Fr h₀ L h' m → News h₀ L h' ((D, listOf (vs.take y.toNat).toArray 0) :: news) → (∀ p ∈ news, p.1 < D) → Q (.ref D) { s with heap := h' })
    (hs : subscripted slice false (.ref l) (.ref s.heap.objs.size) = operate [.ref s.heap.objs.size, .ref l] (getItem (.ref l) (.ref s.heap.objs.size))) (ht : ∀ r, letTemporaryGo value (.ref l) r = pure ()) :
    wpAny (model prog w) A (subscriptTail value slice (.ref l) (.ref s.heap.objs.size)) Q E { s with heap := s.heap.push { cls := .type "slice", data := .fields #[.none, .int y t, .none] } } := by
  refine kms_slice_lit (its := vs.toArray) F N ⟨_, (N _ hm).1, rfl, n, rfl⟩ .none (.int y t) ?_ h hs ht (by rw [List.size_toArray, sizeLine_eq]; omega)
  show kms_pick vs none (some y) = vs.take y.toNat
  unfold kms_pick kms_lo kms_hi
  simp only [if_neg (show ¬ (y < 0) by omega), List.drop_zero, Nat.sub_zero]
  rw [kmk_take_min]
theorem slice_down (F : Fr h₀ L s.heap m) (N : News h₀ L s.heap news) (hm : (l, listOf vs.toArray n) ∈ news) (h0 : 0 ≤ x) (hz : vs.length ≤ 1000)
    (h : ∀ D h', Fr h₀ L h' m → News h₀ L h' ((D, listOf (vs.drop x.toNat).toArray 0) :: news) → (∀ p ∈ news, p.1 < D) → Q (.ref D) { s with heap := h' })
    (hs : subscripted slice false (.ref l) (.ref s.heap.objs.size) = operate [.ref s.heap.objs.size, .ref l] (getItem (.ref l) (.ref s.heap.objs.size))) (ht : ∀ r, letTemporaryGo value (.ref l) r = pure ()) :
    wpAny (model prog w) A (subscriptTail value slice (.ref l) (.ref s.heap.objs.size)) Q E { s with heap := s.heap.push { cls := .type "slice", data := .fields #[.int x t, .none, .none] } } := by
  refine kms_slice_lit (its := vs.toArray) F N ⟨_, (N _ hm).1, rfl, n, rfl⟩ (.int x t) .none ?_ h hs ht (by rw [List.size_toArray, sizeLine_eq]; omega)
  show kms_pick vs (some x) none = vs.drop x.toNat
  unfold kms_pick kms_lo kms_hi
  simp only [if_neg (show ¬ (x < 0) by omega)]
  rw [kmk_drop_min, List.take_of_length_le]
  rw [List.length_drop]
  omega
end
theorem gsD_take (gs : List (List Str)) (k : Nat) : (gsD gs).take k = gsD (gs.take k) := by unfold gsD; rw [List.map_take]
theorem gsD_drop (gs : List (List Str)) (k : Nat) : (gsD gs).drop k = gsD (gs.drop k) := by unfold gsD; rw [List.map_drop]
theorem take_dat {R R3 : List (Addr × Obj)} {vs : List Value} {gs : List (List Str)} (h : DatAll R vs (gsD gs)) (hs : ∀ x ∈ R, x ∈ R3) (k : Nat) : DatAll R3 (vs.take k) (gsD (gs.take k)) := by
  rw [← gsD_take]; exact (DatAll.take k h).mono hs
theorem drop_dat {R R3 : List (Addr × Obj)} {vs : List Value} {gs : List (List Str)} (h : DatAll R vs (gsD gs)) (hs : ∀ x ∈ R, x ∈ R3) (k : Nat) : DatAll R3 (vs.drop k) (gsD (gs.drop k)) := by
  rw [← gsD_drop]; exact (DatAll.drop k h).mono hs
theorem cat_vals {prog : Program} {w : World} {A : Around} {E : Value → Shared → Prop} {s : Shared} {h₀ : Heap} {L a b : Addr} {m : Str → Option Value} {news : List (Addr × Obj)} {vs ws : List Value} {n k : Nat} {Q : Value → Shared → Prop} (F : Fr h₀ L s.heap m) (N : News h₀ L s.heap news) (ma : (a, listOf vs.toArray n) ∈ news) (mb : (b, listOf ws.toArray k) ∈ news)
    (hz : vs.length + ws.length ≤ 1000)
    (h : ∀ D h', Fr h₀ L h' m → News h₀ L h' ((D, listOf (vs ++ ws).toArray 0) :: news) → (∀ p ∈ news, p.1 < D) → Q (.ref D) { s with heap := h' }) : wpAny (model prog w) A (binaryOp .Add (.ref a) (.ref b)) Q E s :=
  kmk_add_lit (its := vs.toArray) (its2 := ws.toArray) F N ⟨_, (N _ ma).1, rfl, n, rfl⟩ ⟨_, (N _ mb).1, rfl, k, rfl⟩ rfl h (by show vs.length + ws.length ≤ sizeLine; rw [sizeLine_eq]; omega)
theorem gsD_app (a b : List (List Str)) : gsD (a ++ b) = gsD a ++ gsD b := by unfold gsD; rw [List.map_append]
theorem worse1 {R R4 : List (Addr × Obj)} {vs pvs : List Value} {gs : List (List Str)} {piece : List Str} {pa pn : Nat} (h : DatAll R vs (gsD gs)) (hs : ∀ x ∈ R, x ∈ R4) (hpm : (pa, listOf pvs.toArray pn) ∈ R) (hpd : DatAll R pvs (piece.map Dat.str)) (k : Nat) : DatAll R4 (vs.take k ++ [Value.ref pa]) (gsD (gs.take k ++ [piece])) := by
  rw [gsD_app]
  exact (take_dat h hs k).append (.one (.list (hs _ hpm) (hpd.mono hs)))
theorem worse2 {R R4 : List (Addr × Obj)} {vs pvs : List Value} {gs : List (List Str)} {piece : List Str} {pa pn : Nat} (h : DatAll R vs (gsD gs)) (hs : ∀ x ∈ R, x ∈ R4) (hpm : (pa, listOf pvs.toArray pn) ∈ R) (hpd : DatAll R pvs (piece.map Dat.str)) (k : Nat) : DatAll R4 (vs.take k ++ [Value.ref pa] ++ vs.drop k) (gsD (gs.take k ++ (piece :: gs.drop k))) := by
  rw [show gs.take k ++ (piece :: gs.drop k) = (gs.take k ++ [piece]) ++ gs.drop k by simp, gsD_app]
  exact (worse1 h hs hpm hpd k).append (drop_dat h hs k)
theorem pack5 {h₀ h : Heap} {L J C D : Addr} {oJ oC oD : Obj} {R l : List (Addr × Obj)} (hR : ∀ q ∈ R, q.1 ≠ J) (hDJ : D ≠ J) (N : News h₀ L h ((D, oD) :: (l ++ (J, oJ) :: (C, oC) :: R))) :
    ∃ R4, News h₀ L h ((J, oJ) :: (C, oC) :: R4) ∧ (D, oD) ∈ R4 ∧ (∀ x ∈ R, x ∈ R4) ∧ (∀ q ∈ R4, q.1 ≠ J) := by
  refine ⟨(D, oD) :: R, cb_drop N fun p hp => ?_, .head _, fun x hx => .tail _ hx, fun q hq => ?_⟩
  · rcases List.mem_cons.mp hp with rfl | hp
    · exact .tail _ (List.mem_append_right _ (.head _))
    · rcases List.mem_cons.mp hp with rfl | hp
      · exact .tail _ (List.mem_append_right _ (.tail _ (.head _)))
      · rcases List.mem_cons.mp hp with rfl | hp
        · exact .head _
        · exact .tail _ (List.mem_append_right _ (.tail _ (.tail _ hp)))
  · rcases List.mem_cons.mp hq with rfl | hq
    · exact hDJ
    · exact hR q hq
theorem pack4 {h₀ h : Heap} {L J C wl : Addr} {oJ oC oW : Obj} {R tl : List (Addr × Obj)} {wvs : List Value} {ds : List Dat} (hR : ∀ q ∈ R, q.1 ≠ J) (hw : (wl, oW) ∈ tl) (hd : DatAll tl wvs ds) (l : ∀ x ∈ tl, ∀ y ∈ (J, oJ) :: (C, oC) :: R, @LT.lt Nat _ y.1 x.1) (N : News h₀ L h (tl ++ (J, oJ) :: (C, oC) :: R)) :
    ∃ R3, News h₀ L h ((J, oJ) :: (C, oC) :: R3) ∧ (wl, oW) ∈ R3 ∧ DatAll R3 wvs ds ∧ (∀ x ∈ R, x ∈ R3) ∧ (∀ q ∈ R3, q.1 ≠ J) := by
  refine ⟨tl ++ R, cb_drop N fun p hp => ?_, List.mem_append_left _ hw, hd.mono fun p hp => List.mem_append_left _ hp, fun x hx => List.mem_append_right _ hx, fun q hq => ?_⟩
  · rcases List.mem_cons.mp hp with rfl | hp
    · exact List.mem_append_right _ (.head _)
    · rcases List.mem_cons.mp hp with rfl | hp
      · exact List.mem_append_right _ (.tail _ (.head _))
      · rcases List.mem_append.mp hp with hp | hp
        · exact List.mem_append_left _ hp
        · exact List.mem_append_right _ (.tail _ (.tail _ hp))
  · rcases List.mem_append.mp hq with hq | hq
    · exact Nat.ne_of_gt (l q hq _ (.head _))
    · exact hR q hq
theorem pack3 {h₀ h : Heap} {L J C D : Addr} {oJ oC oD : Obj} {R : List (Addr × Obj)} (hR : ∀ q ∈ R, q.1 ≠ J) (l : ∀ p ∈ (J, oJ) :: (C, oC) :: R, p.1 < D) (N : News h₀ L h ((D, oD) :: (J, oJ) :: (C, oC) :: R)) :
    ∃ R3, News h₀ L h ((J, oJ) :: (C, oC) :: R3) ∧ (D, oD) ∈ R3 ∧ (∀ x ∈ R, x ∈ R3) ∧ (∀ q ∈ R3, q.1 ≠ J) := by
  refine ⟨(D, oD) :: R, cb_drop N fun p hp => ?_, .head _, fun x hx => .tail _ hx, fun q hq => ?_⟩
  · rcases List.mem_cons.mp hp with rfl | hp
    · exact .tail _ (.head _)
    · rcases List.mem_cons.mp hp with rfl | hp
      · exact .tail _ (.tail _ (.head _))
      · rcases List.mem_cons.mp hp with rfl | hp
        · exact .head _
        · exact .tail _ (.tail _ (.tail _ hp))
  · rcases List.mem_cons.mp hq with rfl | hq
    · exact Nat.ne_of_gt (l _ (.head _))
    · exact hR q hq
theorem grps_ok {f s : Str} {v1 v2 : Dat} (h1 : DigF f v1) (h2 : DigF s v2) : ∀ g ∈ grps f s, ∀ x ∈ g, WOk x ∧ x.length ≤ 20 := by
  unfold grps
  refine List.forall_mem_cons.mpr ⟨by decide +kernel, List.forall_mem_cons.mpr ⟨by decide +kernel, List.forall_mem_cons.mpr ⟨by decide +kernel, List.forall_mem_cons.mpr ⟨by decide +kernel, List.forall_mem_cons.mpr ⟨by decide +kernel, List.forall_mem_cons.mpr ⟨by decide +kernel, List.forall_mem_cons.mpr ⟨by decide +kernel, List.forall_mem_cons.mpr ⟨by decide +kernel, List.forall_mem_cons.mpr ⟨?_, List.forall_mem_cons.mpr ⟨by decide +kernel, List.forall_mem_cons.mpr ⟨by decide +kernel, List.forall_mem_cons.mpr ⟨?_, List.forall_mem_cons.mpr ⟨by decide +kernel, fun _ h => nomatch h⟩⟩⟩⟩⟩⟩⟩⟩⟩⟩⟩⟩⟩
  · exact List.forall_mem_cons.mpr ⟨⟨h1.wb, h1.lb⟩, by decide +kernel⟩
  · exact List.forall_mem_cons.mpr ⟨⟨h2.wB, h2.lB⟩, by decide +kernel⟩
theorem rows_words : ∀ r ∈ wRows, ∀ x ∈ r.piece, WOk x ∧ x.length ≤ 20 := by decide +kernel
theorem rows_range : ∀ r ∈ wRows, r.piece.length ≤ 10 ∧ (0 ≤ r.low → r.low ≤ r.high ∧ r.high ≤ 13) ∧ -1 ≤ r.low ∧ r.low ≤ 13 ∧ 0 ≤ r.beside ∧ r.beside ≤ 1 ∧ PyData.strOk r.kind = true ∧ PyData.strOk r.detail = true := by decide +kernel
theorem worse_words {f s : Str} {v1 v2 : Dat} {r : WRow} (h1 : DigF f v1) (h2 : DigF s v2) (hr : r ∈ wRows) (k : Nat) {l : List (List Str)} (hl : ∀ g ∈ l, g ∈ grps f s) : ∀ g ∈ (grps f s).take k ++ (r.piece :: l), ∀ x ∈ g, WOk x ∧ x.length ≤ 20 := by
  intro g hg
  rcases List.mem_append.mp hg with hg | hg
  · exact grps_ok h1 h2 g (List.mem_of_mem_take hg)
  · rcases List.mem_cons.mp hg with rfl | hg
    · exact rows_words r hr
    · exact grps_ok h1 h2 g (hl g hg)
theorem worse_len {f s : Str} {r : WRow} (hr : r ∈ wRows) (k : Nat) : ((grps f s).take k ++ [r.piece]).flatten.length ≤ 100 ∧ ((grps f s).take k ++ (r.piece :: (grps f s).drop k)).flatten.length ≤ 100 := by
  have h := (rows_range r hr).1
  have e : (grps f s).flatten.length = 34 := rfl
  have h2 := take_len (gs := grps f s) k
  have e2 : (grps f s).flatten = ((grps f s).take k).flatten ++ ((grps f s).drop k).flatten := by rw [← List.flatten_append, List.take_append_drop]
  rw [e2, List.length_append] at e
  simp only [List.flatten_append, List.flatten_cons, List.flatten_nil, List.length_append, List.length_nil]
  omega
section
variable {prog : Program} {w : World} {A : Around} {E : Value → Shared → Prop} {s : Shared} {h₀ : Heap} {L : Addr} {news : List (Addr × Obj)} {va vb : Value} {d : Dat} {Q : Value → Shared → Prop}
theorem dat_shaped (hk : kqdOk 8 d = true) : SeqAt.shaped (kqdP d) = true := by
  have l := kqd_lay 8 d hk
  unfold SeqAt.shaped
  rw [l.1, Bool.true_and]
  exact decide_eq_true (Nat.le_trans l.2 (by decide))
theorem dat_eqv (hk : kqdOk 8 d = true) : PyData.eqv (kqdP d) (kqdP d) = true := (kqd_eqv 8 d d 8 hk hk).mpr rfl
theorem dat_eq (N : News h₀ L s.heap news) (Da : DatIn news va d) (Db : DatIn news vb d) (hk : kqdOk 8 d = true) (hu : A.units + 64 < cLine) (h : Q (.bool true) s) : wpAny (model prog w) A (compareOp .Eq va vb) Q E s := by
  obtain ⟨as, ra⟩ := kqd_in N 8 Da hk
  obtain ⟨bs, rb⟩ := kqd_in N 8 Db hk
  exact eq_dataH ra rb (dat_shaped hk) (dat_shaped hk) hu (by rw [dat_eqv hk]; exact h)
theorem dat_ne (N : News h₀ L s.heap news) (Da : DatIn news va d) (Db : DatIn news vb d) (hk : kqdOk 8 d = true) (hu : A.units + 64 < cLine) (h : Q (.bool false) s) : wpAny (model prog w) A (compareOp .NotEq va vb) Q E s := by
  obtain ⟨as, ra⟩ := kqd_in N 8 Da hk
  obtain ⟨bs, rb⟩ := kqd_in N 8 Db hk
  exact ne_dataH ra rb (dat_shaped hk) (dat_shaped hk) hu (by rw [dat_eqv hk]; exact h)
end
theorem lawp_lines1 : True := by
  (k_with "subscriptTail" => (k_here; (with_reducible show wpAny _ _ (subscriptTail _ (Expr.Slice none (some _) none _) (Value.ref _) (Value.ref _)) _ _ _); k_dflt (refine' slice_up ?q9F ?q9N ?q9m ?q9a ?q9z ?_ ?q9s ?q9t; (case q9F => k_asm); (case q9N => k_asm); (case q9m => k_mem); (case q9a => omega); (case q9z => assumption); (case q9s => with_unfolding_all rfl); (case q9t => intro _; rfl)); intro D' h' F' N' l1))
  (k_with "ktr_unf" => repeat' ((fail_if_success (with_reducible show wpAny _ _ (call (Value.ref 194) _) _ _ _)); (fail_if_success (with_reducible show wpAny _ _ (call (Value.ref 208) _) _ _ _)); (fail_if_success (with_reducible show wpAny _ _ (call (Value.ref 201) _) _ _ _)); (fail_if_success (with_reducible show wpAny _ _ (call (Value.ref 215) _) _ _ _)); (fail_if_success (with_reducible show wpAny _ _ (call (Value.ref 222) _) _ _ _)); (fail_if_success (with_reducible show wpAny _ _ (subscriptTail _ (Expr.Slice _ _ _ _) _ _) _ _ _)); first | (k_unfold; (try dsimp only)) | (k_end; wrow_close) | walk1 | (dsimp only; walk1) | (leave1; walk_say "STEP leave1"; try dsimp only) | fail "no step"))
  trivial

/-- what _law_read hands back of a sound text | of a refused one -/
theorem lr_ok {w : World} {news : List (Addr × Obj)} {T : Str} {t : Tok} {ws : List (Str × Int)} {c : Cont} {wl : List (Str × Int)} (h1 : Strm T 0 ws) (h2 : T.length < 1000000) (h3 : ws.length ≤ 1000) (h4 : RPlan T ws (.ok c wl)) :
    RetsL w 222 [.str T t] 70 1000 news (fun r n => (∀ x ∈ news, x ∈ n) ∧ DatIn n r (.tuple [.str c.scale, .list c.vars, .list c.chs])) :=
  fun mean mg mb dp un gd cn cs a ccd cl A₀ h₀ L m s Q E B F X N Tp hk hd hu hret => lr_spec w news T t ws _ h1 h2 h3 h4 rfl mean mg mb dp un gd cn cs a ccd cl A₀ h₀ L m s Q E B F X N Tp hk hd hu fun r n h' tk' F' N' R => hret r n h' tk' F' N' (by
    obtain ⟨hs, hc⟩ := R
    rcases hc with ⟨c6, ho, hD⟩ | ⟨_, _, _, ho, _⟩
    · obtain ⟨rfl, _⟩ := Out.ok.inj ho
      exact ⟨hs, hD⟩
    · exact nomatch ho)
theorem lr_err {w : World} {news : List (Addr × Obj)} {T : Str} {t : Tok} {ws : List (Str × Int)} {kind detail : Str} {at' : Int} (h1 : Strm T 0 ws) (h2 : T.length < 1000000) (h3 : ws.length ≤ 1000) (h4 : RPlan T ws (.err kind at' detail)) :
    RetsL w 222 [.str T t] 70 1000 news (fun r n => (∀ x ∈ news, x ∈ n) ∧ DatIn n r (.tuple [.str kind, .int at', .str detail])) :=
  fun mean mg mb dp un gd cn cs a ccd cl A₀ h₀ L m s Q E B F X N Tp hk hd hu hret => lr_spec w news T t ws _ h1 h2 h3 h4 rfl mean mg mb dp un gd cn cs a ccd cl A₀ h₀ L m s Q E B F X N Tp hk hd hu fun r n h' tk' F' N' R => hret r n h' tk' F' N' (by
    obtain ⟨hs, hc⟩ := R
    rcases hc with ⟨_, ho, _⟩ | ⟨_, _, _, ho, hD⟩
    · exact nomatch ho
    · obtain ⟨rfl, rfl, rfl⟩ := Out.err.inj ho
      exact ⟨hs, hD⟩)
/-- the answer's tuple, opened -/
theorem lr_out {L : List (Addr × Obj)} {ds : List Dat} {G : Value → List (Addr × Obj) → Heap → Nat → Prop} (k : ∀ n h' tk' (a : Addr) (tn : Nat) (vs : List Value), (∀ x ∈ L, x ∈ n) → (a, ({ cls := .type "tuple", data := .seq vs.toArray tn } : Obj)) ∈ n → DatAll n vs ds → G (.ref a) n h' tk') :
    ∀ r n h' tk', ((∀ x ∈ L, x ∈ n) ∧ DatIn n r (.tuple ds)) → G r n h' tk' := by
  intro r n h' tk' h
  obtain ⟨hs, hD⟩ := h
  obtain ⟨a, tn, vs, rfl, hm, hd⟩ := DatIn.tuple_inv hD
  exact k n h' tk' a tn vs hs hm hd

end Mine
end
section
open PySem PySem.W PySem.Calls PyProof.Rows PyProof.V PySem.Spec
set_option maxHeartbeats 20000000
namespace Mine

theorem law_lines0 : True := by
  k_with_none
  (k_with "ktr_unf" => repeat' ((fail_if_success (with_reducible show wpAny _ _ (eval (PySem.Expr.List (PySem.Expr.Tuple (PySem.Expr.Constant (Const.int _) _ _ :: _) _ _ :: _) _) _) _ _ _)); (fail_if_success (with_reducible show (ite _ _ _))); (fail_if_success (with_reducible show wpAny _ _ (compareOp _ (Value.ref _) (Value.ref _)) _ _ _)); (fail_if_success (with_reducible show wpAny _ _ (call (Value.ref 194) _) _ _ _)); (fail_if_success (with_reducible show wpAny _ _ (call (Value.ref 208) _) _ _ _)); (fail_if_success (with_reducible show wpAny _ _ (call (Value.ref 201) _) _ _ _)); (fail_if_success (with_reducible show wpAny _ _ (call (Value.ref 215) _) _ _ _)); (fail_if_success (with_reducible show wpAny _ _ (call (Value.ref 222) _) _ _ _)); (fail_if_success (with_reducible show wpAny _ _ (subscriptTail _ (Expr.Slice _ _ _ _) _ _) _ _ _)); first | (k_unfold; (try dsimp only)) | (k_end; wrow_close) | walk1 | (dsimp only; walk1) | (leave1; walk_say "STEP leave1"; try dsimp only) | fail "no step"))
  (k_with "kwd_rel" => repeat' ((fail_if_success (with_reducible show (ite _ _ _))); (fail_if_success (with_reducible show wpAny _ _ (compareOp _ (Value.ref _) (Value.ref _)) _ _ _));  (fail_if_success (with_reducible show wpAny _ _ (call (Value.ref 208) _) _ _ _)); (fail_if_success (with_reducible show wpAny _ _ (call (Value.ref 201) _) _ _ _)); (fail_if_success (with_reducible show wpAny _ _ (call (Value.ref 215) _) _ _ _)); (fail_if_success (with_reducible show wpAny _ _ (call (Value.ref 222) _) _ _ _)); (fail_if_success (with_reducible show wpAny _ _ (subscriptTail _ (Expr.Slice _ _ _ _) _ _) _ _ _)); first | (k_unfold; (try dsimp only)) | (k_end; wrow_close) | walk1 | (dsimp only; walk1) | (leave1; walk_say "STEP leave1"; try dsimp only) | fail "no step"))
  (k_with "ktr_rel" => repeat' ((fail_if_success (with_reducible show (ite _ _ _))); (fail_if_success (with_reducible show wpAny _ _ (compareOp _ (Value.ref _) (Value.ref _)) _ _ _)); (fail_if_success (with_reducible show wpAny _ _ (call (Value.ref 194) _) _ _ _)); (fail_if_success (with_reducible show wpAny _ _ (subscriptTail _ _ (Value.ref _) (Value.int _ _)) _ _ _)); (fail_if_success (with_reducible show wpAny _ _ (call (Value.ref 208) _) _ _ _)); (fail_if_success (with_reducible show wpAny _ _ (call (Value.ref 201) _) _ _ _)); (fail_if_success (with_reducible show wpAny _ _ (call (Value.ref 215) _) _ _ _)); (fail_if_success (with_reducible show wpAny _ _ (call (Value.ref 222) _) _ _ _)); (fail_if_success (with_reducible show wpAny _ _ (subscriptTail _ (Expr.Slice _ _ _ _) _ _) _ _ _)); first | (k_unfold; (try dsimp only)) | (k_end; wrow_close) | walk1 | (dsimp only; walk1) | (leave1; walk_say "STEP leave1"; try dsimp only) | fail "no step"))
  trivial

theorem cells_of {ws : List Value} {ns : List Int} (h : IntsAre ws (ns ++ [0])) : ∃ ms, IntsAre (ws.take (Int.toNat 40)) ms ∧ 1 ≤ ms.length ∧ ms.length ≤ 40 := by
  refine ⟨(ns ++ [0]).take 40, ?_, ?_, ?_⟩
  · have := kmk_upto (vs := ws) h (show (0 : Int) ≤ 40 by decide)
    rw [kms_pick_eq] at this
    simp only [kms_pick, kms_lo, kms_hi, List.drop_zero, Nat.sub_zero] at this
    rw [if_neg (by decide), kmk_take_min] at this
    exact this
  · rw [List.length_take, List.length_append, List.length_singleton]; omega
  · rw [List.length_take]; omega
theorem mem_rot {α : Type} {a b g p : α} {t R : List α} (h : p ∈ a :: b :: (g :: (t ++ R))) : p ∈ g :: (t ++ a :: b :: R) := by
  simp only [List.mem_cons, List.mem_append] at h ⊢
  rcases h with h | h | h | h | h
  · exact .inr (.inr (.inl h))
  · exact .inr (.inr (.inr (.inl h)))
  · exact .inl h
  · exact .inr (.inl h)
  · exact .inr (.inr (.inr (.inr h)))
theorem ne_of_bnot {a b : Int} (h : ¬ ((a == b) = true)) : a ≠ b := fun e => h (by rw [e]; exact beq_self_eq_true b)
theorem mem_rot2 {α : Type} {a b p : α} {t : List α} (h : p ∈ a :: b :: t) : p ∈ t ++ [a, b] := by
  simp only [List.mem_cons, List.mem_append, List.not_mem_nil, or_false] at h ⊢
  rcases h with h | h | h
  · exact .inr (.inl h)
  · exact .inr (.inr h)
  · exact .inl h
theorem pack0 {h₀ h : Heap} {L J C : Addr} {oJ oC : Obj} {R : List (Addr × Obj)} (lC : C < J) (lD : ∀ x ∈ R, ∀ y ∈ [(J, oJ), (C, oC)], y.1 < x.1) (N : News h₀ L h (R ++ [(J, oJ), (C, oC)])) :
    News h₀ L h ((J, oJ) :: (C, oC) :: R) ∧ (∀ q ∈ R, q.1 ≠ J) ∧ J ≠ C :=
  ⟨cb_drop N fun p hp => mem_rot2 hp, fun q hq => Nat.ne_of_gt (lD q hq _ (.head _)), Nat.ne_of_gt lC⟩
theorem pack2 {h₀ h : Heap} {L : Addr} {tl2 tl1 R2 : List (Addr × Obj)} {a b c d : Addr × Obj} {v1 v2 : Value} {d1 d2 : Dat} (N : News h₀ L h (tl2 ++ (tl1 ++ a :: b :: c :: d :: R2))) (D1 : DatIn tl1 v1 d1) (D2 : DatIn (tl2 ++ R2) v2 d2) :
    ∃ NS, News h₀ L h NS ∧ (∀ p ∈ c :: d :: R2, p ∈ NS) ∧ DatIn NS v2 d2 ∧ DatIn NS v1 d1 :=
  ⟨_, N, fun p hp => List.mem_append_right _ (List.mem_append_right _ (.tail _ (.tail _ hp))), D2.mono (fun p hp => (List.mem_append.mp hp).elim (List.mem_append_left _) (fun h => List.mem_append_right _ (List.mem_append_right _ (.tail _ (.tail _ (.tail _ (.tail _ h))))))), D1.mono fun p hp => List.mem_append_right _ (List.mem_append_left _ hp)⟩
inductive DLf (d1 d2 : Dat) : PySem.Expr → Dat → Prop
  | a {k : Nat} {p1 p2 p3 : Pos} : DLf d1 d2 (.Subscript (.Name (Str.ofString "first") p1) (.Constant (.int 1) k p2) p3) d1
  | b {k : Nat} {p1 p2 p3 : Pos} : DLf d1 d2 (.Subscript (.Name (Str.ofString "second") p1) (.Constant (.int 1) k p2) p3) d2
theorem with_dat {P : Prop} {L : List (Addr × Obj)} {v : Value} {x : Str × Int × Int} (_ : DatIn L v (digV x)) (k : ∀ y, y = x → P) : P := k x rfl
theorem law_lines1 : True := by
  (k_with "eval List" => (k_here; k_dflt (refine' lt_eval0 (d := .list (digs.map digD)) ?q9lt ?q9F ?q9N ?_; (case q9F => k_asm); (case q9N => k_asm); (case q9lt => (simp only [digs, digD, digV, List.map_cons, List.map_nil]; exact (.list (.cons (.tuple (.cons .str (.cons (.tuple (.cons .int (.cons .int (.cons .int .nil))) (Nat.le_of_ble_eq_true rfl)) .nil)) (Nat.le_of_ble_eq_true rfl)) (.cons (.tuple (.cons .str (.cons (.tuple (.cons .int (.cons .int (.cons .int .nil))) (Nat.le_of_ble_eq_true rfl)) .nil)) (Nat.le_of_ble_eq_true rfl)) (.cons (.tuple (.cons .str (.cons (.tuple (.cons .int (.cons .int (.cons .int .nil))) (Nat.le_of_ble_eq_true rfl)) .nil)) (Nat.le_of_ble_eq_true rfl)) (.cons (.tuple (.cons .str (.cons (.tuple (.cons .int (.cons .int (.cons .int .nil))) (Nat.le_of_ble_eq_true rfl)) .nil)) (Nat.le_of_ble_eq_true rfl)) (.cons (.tuple (.cons .str (.cons (.tuple (.cons .int (.cons .int (.cons .int .nil))) (Nat.le_of_ble_eq_true rfl)) .nil)) (Nat.le_of_ble_eq_true rfl)) (.cons (.tuple (.cons .str (.cons (.tuple (.cons .int (.cons .int (.cons .int .nil))) (Nat.le_of_ble_eq_true rfl)) .nil)) (Nat.le_of_ble_eq_true rfl)) (.cons (.tuple (.cons .str (.cons (.tuple (.cons .int (.cons .int (.cons .int .nil))) (Nat.le_of_ble_eq_true rfl)) .nil)) (Nat.le_of_ble_eq_true rfl)) .nil))))))) (Nat.le_of_ble_eq_true rfl))))); intro v9 tl9 h9 tk9 F9 N9 D9 l9; obtain ⟨dg9, n9, vs9, e9, m9, d9⟩ := DatIn.list_inv D9; subst e9; clear D9))
  (k_with "eval List" => (k_here; k_dflt (refine' lt_eval0 (d := .list [varA, varB]) ?q9lt ?q9F ?q9N ?_; (case q9F => k_asm); (case q9N => k_asm); (case q9lt => (simp only [varA, varB]; exact (.list (.cons (.tuple (.cons .str (.cons .int (.cons .str (.cons .str .nil)))) (Nat.le_of_ble_eq_true rfl)) (.cons (.tuple (.cons .str (.cons .int (.cons .str (.cons .str .nil)))) (Nat.le_of_ble_eq_true rfl)) .nil)) (Nat.le_of_ble_eq_true rfl))))); intro v9 tl9 h9 tk9 F9 N9 D9 l9; obtain ⟨dg9, n9, vs9, e9, m9, d9⟩ := DatIn.list_inv D9; subst e9; clear m9 d9))
  (k_with "binaryOp Add ref ref" => (k_here; (with_reducible show wpAny _ _ (binaryOp _ (Value.ref _) (Value.ref _)) _ _ _); k_dflt (refine' cat_vals ?q9F ?q9N (.tail _ (.head _)) (.head _) ?q9z ?_; (case q9F => k_asm); (case q9N => k_asm); (case q9z => (simp only [List.length_append, List.length_take, List.length_drop, List.length_cons, List.length_nil]; omega))); intro D' h' F' N' l1))
  (k_with "callWith ref" => (k_here; (with_reducible show wpAny _ _ (callWith _ (Value.ref _) _ (backTo _ (starEach [] _)) []) _ _ _); k_dflt (refine' callWith_K0 (K := Mine.hd.heap_39 _) ?q9k1 ?q9k2 ?_; (case q9k1 => (refine Frag.In.keeps ?_ (Fr.keep (by assumption)); assumption)); (case q9k2 => k_is))))
  (k_with "call ref" => (k_here; (with_reducible show wpAny _ _ (call (Value.ref 194) _) _ _ _); k_dflt (refine' rets_use2 (draw_core _ _ _ _ _ _ _ _ _ _ _ _ _ _ ?q9u1 ?q9u2 ?q9u3 ?q9u4 ?q9u5 ?q9u6 ?q9u7 ?q9u8 ?q9u9 ?q9u10 rfl) ?q9k1 ?q9k2 ?q9k3 ?q9k4 ?q9k5 ?q9k6 ?q9k7 ?q9k8 ?_; (case q9k1 => k_asm); (case q9k2 => k_asm); (case q9k3 => k_asm); (case q9k4 => k_asm); (case q9k5 => k_asm); (case q9k6 => exact rfl); (case q9k7 => ktr_room); (case q9k8 => ktr_units); (case q9u1 => assumption); (case q9u2 => assumption); (case q9u3 => assumption); (case q9u4 => assumption); (case q9u5 => assumption); (case q9u6 => first | assumption | decide); (case q9u7 => first | assumption | decide); (case q9u8 => first | assumption | omega); (case q9u9 => first | omega | decide); (case q9u10 => first | omega | decide)); intro GG9 HH9; refine DrawR.out ?_; intro h9 tk9 g9 a9 b9 t9 t19 t29 m9 G19 G29 A9 B19 B29; refine HH9 _ _ _ _ ?_; clear HH9 GG9; intro F9 N9; (try dsimp only at N9); (have B09 : (0 : Int) ≤ _ := Int.le_trans (by first | assumption | decide) B19); (try dsimp only)))
  (k_with "subscriptTail" => (k_here; (with_reducible show wpAny _ _ (subscriptTail _ _ (Value.ref _) (Value.int _ _)) _ _ _); k_dflt (refine' item_tupleT (News.isTup ?q9N ?q9m) ?q9a ?q9b ?q9c ?q9d ?_; (case q9N => k_asm); (case q9m => first | (refine List.mem_cons_of_mem _ (List.mem_cons_of_mem _ ?_); assumption) | (with_reducible rename ∀ x ∈ _, x ∈ _ => hs9; repeat (first | exact hs9 _ (by assumption) | refine List.mem_cons_of_mem _ ?_))); (case q9a => decide); (case q9b => decide); (case q9c => rfl); (case q9d => rfl))))
  (k_with "subscriptTail" => (k_here; (with_reducible show wpAny _ _ (subscriptTail _ _ (Value.ref _) (Value.int _ _)) _ _ _); (rename DatAll _ _ (List.map digD digs) => dd9); k_dflt (refine' dig_item ?q9N (.tail _ (.tail _ ?q9m)) dd9 ?q9a ?q9b ?_; (case q9N => k_asm); (case q9m => assumption); (case q9a => assumption); (case q9b => assumption)); intro x9 f9 fn9 ft9 fu9 hx9 fm9 fd9; (have ln9 := (digF _ hx9).len)))
  trivial

theorem wlen1 {f s : Str} {p : List Str} {k : Nat} : ((grps f s).take k ++ [p]).length = min k 13 + 1 := by
  rw [List.length_append, List.length_take]; rfl
theorem wlen2 {f s : Str} {p : List Str} {k : Nat} : ((grps f s).take k ++ (p :: (grps f s).drop k)).length = min k 13 + (13 - k + 1) := by
  rw [List.length_append, List.length_take, List.length_cons, List.length_drop]; rfl
/-- behind the choice of the turn: what the last two statements need -/
inductive LawX (s₁ : Shared) (J C nc : Nat) (cv : List Value) (r : WRow) : Shared → Prop
  | mk (h : Heap) (tk : Nat) (m : Str → Option Value) (a b : Int) (ta tb : Tok) (n : Nat) (R4 : List (Addr × Obj)) (wl wn : Nat) (wvs : List Value) (worse : List (List Str)) (turn : Int) (t1 t2 t3 t4 : Tok) :
    Fr s₁.heap s₁.heap.objs.size h m → News s₁.heap s₁.heap.objs.size h ((J, listOf #[.int a ta, .int b tb, .ref C] n) :: (C, listOf cv.toArray nc) :: R4) → (∀ q ∈ R4, q.1 ≠ J) → 0 ≤ a → 0 ≤ b → b ≤ 500 → (wl, listOf wvs.toArray wn) ∈ R4 → DatAll R4 wvs (gsD worse) →
    m (Str.ofString "jar") = some (.ref J) → m (Str.ofString "worse") = some (.ref wl) → m (Str.ofString "turn") = some (.int turn t1) → m (Str.ofString "beside") = some (.int r.beside t2) → m (Str.ofString "kind") = some (.str r.kind t3) → m (Str.ofString "detail") = some (.str r.detail t4) →
    0 ≤ turn → turn < worse.length → worse.length ≤ 100 → worse.flatten.length ≤ 100 → (∀ g ∈ worse, ∀ x ∈ g, WOk x ∧ x.length ≤ 20) →
    (∀ T sps ws, ws.length ≤ 1000 → Ck worse sps ws → RPlan T ws (.err r.kind (sps.getD turn.toNat 0 + r.beside) r.detail)) → LawX s₁ J C nc cv r { heap := h, gens := s₁.gens, drawn := s₁.drawn, toks := tk, os := s₁.os }
theorem LawX.out {s₁ : Shared} {J C nc : Nat} {cv : List Value} {r : WRow} {G : Shared → Prop} (k : ∀ (h : Heap) (tk : Nat) (m : Str → Option Value) (a b : Int) (ta tb : Tok) (n : Nat) (R4 : List (Addr × Obj)) (wl wn : Nat) (wvs : List Value) (worse : List (List Str)) (turn : Int) (t1 t2 t3 t4 : Tok),
    Fr s₁.heap s₁.heap.objs.size h m → News s₁.heap s₁.heap.objs.size h ((J, listOf #[.int a ta, .int b tb, .ref C] n) :: (C, listOf cv.toArray nc) :: R4) → (∀ q ∈ R4, q.1 ≠ J) → 0 ≤ a → 0 ≤ b → b ≤ 500 → (wl, listOf wvs.toArray wn) ∈ R4 → DatAll R4 wvs (gsD worse) →
    m (Str.ofString "jar") = some (.ref J) → m (Str.ofString "worse") = some (.ref wl) → m (Str.ofString "turn") = some (.int turn t1) → m (Str.ofString "beside") = some (.int r.beside t2) → m (Str.ofString "kind") = some (.str r.kind t3) → m (Str.ofString "detail") = some (.str r.detail t4) →
    0 ≤ turn → turn < worse.length → worse.length ≤ 100 → worse.flatten.length ≤ 100 → (∀ g ∈ worse, ∀ x ∈ g, WOk x ∧ x.length ≤ 20) →
    (∀ T sps ws, ws.length ≤ 1000 → Ck worse sps ws → RPlan T ws (.err r.kind (sps.getD turn.toNat 0 + r.beside) r.detail)) → G { heap := h, gens := s₁.gens, drawn := s₁.drawn, toks := tk, os := s₁.os }) : ∀ s', LawX s₁ J C nc cv r s' → G s' := by
  intro s' h
  cases h
  exact k _ _ _ _ _ _ _ _ _ _ _ _ _ _ _ _ _ _ (by assumption) (by assumption) (by assumption) (by assumption) (by assumption) (by assumption) (by assumption) (by assumption) (by assumption) (by assumption) (by assumption) (by assumption) (by assumption) (by assumption) (by assumption) (by assumption) (by assumption) (by assumption) (by assumption) (by assumption)
/-- a statement whose ways meet in X -/
theorem ex_joinL {M : Model} {A : Around} {env : Env} {st : Stmt} {rest : List Stmt} {Q : Flow → Shared → Prop} {E : Value → Shared → Prop} {s S : Shared} {J C nc va : Nat} {h : Heap} {cv : List Value} {o1 o2 : Obj} {R : List (Addr × Obj)} (r : WRow)
    (_ : News S.heap S.heap.objs.size h ((va, o1) :: (J, o2) :: (C, listOf cv.toArray nc) :: R))
    (h1 : ∀ Q1 : Flow → Shared → Prop, (∀ s', LawX S J C nc cv r s' → Q1 .next s') → wpAny M A (exec st env) Q1 E s)
    (h2 : ∀ G : Shared → Prop, (∀ s', wpAny M A (execs rest env) Q E s' → G s') → ∀ s', LawX S J C nc cv r s' → G s') : wpAny M A (execs (st :: rest) env) Q E s :=
  wpAny_execs_cons (h1 _ fun s' x => h2 _ (fun _ p => p) s' x)

theorem law_lines2 : True := by
  (k_with "eval Name" => (k_here; (with_reducible rename Str → Option Value => mm9); k_dflt (refine' ld ?q9k1 ?q9k2 ?_; (case q9k1 => k_asm); (case q9k2 => repeat (first | assumption | exact if_pos rfl | refine (if_neg (by decide)).trans ?_)); k_whole)))
  trivial

theorem law_holds : PySem.Challenge.rw_on0102_01.Holds := by
  refine Mine.hd rfl rfl rfl ?_
  k_fill
  intro w s₀ s₁ mg mb G Y fa o pm cd doc dV kV ho hd hcd hD hmg hg args vals as hpre hlay hrd hwl hlo
  have KX := kIn_of Y
  have X := (Ground.X G).1
  have V := (Ground.X G).2
  refine Ground.open G ?_
  intro T B D TE TW
  try (refine guard_noD D (by decide +kernel) ?_; clear D)
  obtain ⟨_, _, M⟩ := bmod_of_top T
  have TA := at_of_top T
  try (obtain ⟨_, _, he, B0⟩ := based_of_top T rfl hmg ho hd; have he' : cd = _ := he; subst he'; clear he)
  clear hmg
  wrow_args hpre hlay hrd hwl hlo
  all_goals (
    first | refine callC_kw (enter_call ?_) | refine enter_call ?_ | refine callC_kw (enter_callW ?_) | refine enter_callW ?_ | w_how
    w_top on
    try refine codeAny_mono ?_ (fun _ _ g => GoodW.toG g)
    have K0 := below_caller (Top.heap T)
    w_call any ho hd hcd hD T F
    clear hd TA
    k_drop
    skip)
  (all_goals try k_fold)
  ktr_unf
  (rename IntsAre _ (_ ++ [0]) => hI9); (rename News _ _ _ _ => N9); (rename Fr _ _ _ _ => F9)
  k_dflt (refine kba_turn (value' := PySem.Expr.Name (PySem.Str.ofString "_") ⟨0, 0, 0, 0⟩) (fun _ => rfl) ?_)
  k_dflt (refine' slice_up F9 N9 (.head _) ?ya ?yz ?_ ?ys ?yt)
  case ya => decide
  case yz => (have := hI9.length); simp only [List.length_append, List.length_cons, List.length_nil] at this; omega
  case ys => with_unfolding_all rfl
  case yt => intro _; rfl
  clear F9 N9
  intro C h1 F1 N1 l1
  replace N1 := cb_drop (news := [(C, _)]) N1 (fun p hp => by rw [List.mem_singleton.mp hp]; exact .head _)
  refine hide0 ?_
  intro GG HH
  obtain ⟨ms, hms, hm1, hm40⟩ := cells_of hI9
  refine HH ?_
  clear HH GG
  generalize List.take (Int.toNat 40) _ = cv at N1 hms
  clear l1
  ktr_unf
  (rename ∀ x ∈ _, ∀ y ∈ [(_, _), (C, _)], _ => lD); (rename News _ _ _ (_ ++ _) => N2); (rename C < _ => lC)
  refine hide0 ?_
  intro GG HH
  obtain ⟨N3, hRJ, hJC⟩ := pack0 lC lD N2
  refine HH ?_
  clear HH GG
  clear N2 lC lD
  kwd_rel
  k_dflt (refine' rets_use2 (grp_spec _ _ _ _ _ _ (by assumption) (by assumption) rfl) ?k1 ?k2 ?k3 ?k4 ?k5 ?k6 ?k7 ?k8 ?_; (case k1 => k_asm); (case k2 => k_asm); (case k3 => k_asm); (case k4 => k_asm); (case k5 => k_asm); (case k6 => exact rfl); (case k7 => ktr_room); (case k8 => ktr_units))
  intro GG HH r9 n9 h3 tk3 R9
  obtain ⟨gl, ng, gvs, tlG, rfl, rfl, hgl0, hgd, hoffG⟩ := R9
  refine HH _ _ _ _ ?_
  clear HH GG
  intro F3 N3
  refine hide0 ?_
  intro GG HH
  obtain ⟨R2, N4, hgl, hgd2, hsub, hRJ2⟩ := pack4 hRJ hgl0 hgd hoffG N3
  refine HH ?_
  clear HH GG
  clear N3 hgd hoffG
  repeat (rename (_, _) ∈ _ => mm9; replace mm9 := hsub _ mm9)
  ktr_unf
  k_dflt (refine' rets_use2 (jn_spec _ R2 _ C gl _ _ ng _ _ _ _ cv gvs ms _ (List.forall_mem_cons.mpr ⟨hJC.symm, hRJ2⟩) hms hm1 hm40 ?ya1 ?ya2 ?yb hgl hgd2 ?yw ?yf ?yg rfl) ?k1 ?k2 ?k3 ?k4 ?k5 ?k6 ?k7 ?k8 ?_; (case k1 => k_asm); (case k2 => k_asm); (case k3 => k_asm); (case k4 => k_asm); (case k5 => k_asm); (case k6 => exact rfl); (case k7 => ktr_room); (case k8 => ktr_units))
  case ya1 => assumption
  case ya2 => assumption
  case yb => omega
  case yw => exact fun g hg x hx => (grps_ok (digF _ (by assumption)) (digF _ (by assumption)) g hg x hx).2
  case yf => exact Nat.le_of_ble_eq_true rfl
  case yg => exact Nat.le_of_ble_eq_true rfl
  intro GG HH
  refine JnR.out ?_
  intro h4 tk4 tu spa n1 n2 T tt spv sps ws a2 b2 t1 t2 hJn hTl hsp ha2 hb2 hb3 hne1 hne2
  refine HH _ _ _ _ ?_
  clear HH GG
  intro F4 N4
  ktr_unf
  (rename News _ _ _ _ => N5); (rename Fr _ _ _ _ => F5)
  (rename DatIn _ _ (digV _) => fdB); revert fdB; (rename DatIn _ _ (digV _) => fdA); intro fdB
  (rename (_, ({ cls := .type "tuple", data := .seq #[.str _ _, _] _ } : Obj)) ∈ _ => fmB); revert fmB; (rename (_, ({ cls := .type "tuple", data := .seq #[.str _ _, _] _ } : Obj)) ∈ _ => fmA); intro fmB
  refine' with_dat ?w1 ?w2
  case w1 => exact fdA
  intro x1 ex1
  refine' with_dat ?w3 ?w4
  case w3 => exact fdB
  intro x2 ex2
  refine' Lt.eval (LF := DLf (digV x1) (digV x2)) (base := R2) (d := .list (due (digV x1) (digV x2))) ?leaf ?lt ?F ?N ?hb ?_
  case F => exact F5
  case N => exact N5
  case hb => exact fun p hp => List.mem_append_right _ (.tail _ (.tail _ (.tail _ (.tail _ hp))))
  case lt => simp only [due]; exact (.list (.cons (.tuple (.cons .int (.cons .str (.cons (.tuple (.cons .int (.cons .int (.cons .int .nil))) (Nat.le_of_ble_eq_true rfl)) .nil))) (Nat.le_of_ble_eq_true rfl)) (.cons (.tuple (.cons .int (.cons .str (.cons (.leaf .a) .nil))) (Nat.le_of_ble_eq_true rfl)) (.cons (.tuple (.cons .int (.cons .str (.cons (.tuple (.cons .int (.cons .int (.cons .int .nil))) (Nat.le_of_ble_eq_true rfl)) .nil))) (Nat.le_of_ble_eq_true rfl)) (.cons (.tuple (.cons .int (.cons .str (.cons (.leaf .b) .nil))) (Nat.le_of_ble_eq_true rfl)) (.cons (.tuple (.cons .int (.cons .str (.cons (.tuple (.cons .int (.cons .int (.cons .int .nil))) (Nat.le_of_ble_eq_true rfl)) .nil))) (Nat.le_of_ble_eq_true rfl)) .nil))))) (Nat.le_of_ble_eq_true rfl))
  case leaf =>
    intro e d hl
    clear N5 F5
    cases hl with
    | a =>
      refine ⟨fun _ => rfl, ?_⟩
      intro s2 news2 Q2 F2 N2 hb2 h2
      have m2 := hb2 _ (hsub _ fmA)
      ktr_unf
      exact h2 _ _ (by rw [ex1]; exact fdA.mono hsub)
    | b =>
      refine ⟨fun _ => rfl, ?_⟩
      intro s2 news2 Q2 F2 N2 hb2 h2
      have m2 := hb2 _ (hsub _ fmB)
      ktr_unf
      exact h2 _ _ (by rw [ex2]; exact fdB.mono hsub)
  clear N5 F5
  intro vD tlD hD' tkD FD ND DD lD
  rw [ex1, ex2] at DD
  clear ex1 ex2
  obtain ⟨dgD, nD, vsD, eD, mD, dD⟩ := DatIn.list_inv DD
  subst eD
  clear mD dD lD
  ktr_unf
  (rename News _ _ _ _ => N5); (rename DatIn _ _ (.list [varA, varB]) => dN)
  refine hide0 ?_
  intro GG HH
  obtain ⟨NS, N6, hNS, dDue, dNam⟩ := pack2 N5 dN DD
  refine HH ?_
  clear HH GG dN DD
  clear N5
  repeat (with_reducible rename _ ∧ _ => zz9; clear zz9)
  have h13 : gvs.length = 13 := hgd2.length
  have hck := hJn.ck
  have hlw : ws.length = 34 := hJn.len.1
  have hst := hJn.strm (fun g hg x hx => (grps_ok (digF _ (by assumption)) (digF _ (by assumption)) g hg x hx).1)
  have hpl := rp_good (T := T) (digF _ (by assumption)) (digF _ (by assumption)) (by omega) hck
  k_dflt (refine' retsL_use2 (lr_ok hst (by omega) (by omega) hpl) ?k1 ?k2 ?k3 ?k4 ?k5 ?k6 ?k7 ?k8 ?_; (case k1 => k_asm); (case k2 => k_asm); (case k3 => k_asm); (case k4 => k_asm); (case k5 => k_asm); (case k6 => exact rfl); (case k7 => ktr_room); (case k8 => ktr_units))
  intro GG HH
  refine lr_out ?_
  intro nX h6 tk6 ra rn rvs hs9 hrm hra
  refine HH _ _ _ _ ?_
  clear HH GG
  intro F6 N7
  clear hst hpl hck N6
  ktr_unf
  (rename News _ _ _ _ => N8)
  k_dflt (refine' dat_ne (d := .tuple [.str (s_ "1 ns"), .list [varA, varB], .list (due (digV _) (digV _))]) N8 (.tuple (List.mem_cons_of_mem _ hrm) (hra.mono fun p hp => List.mem_cons_of_mem _ hp)) (.tuple (.head _) (.cons (.str _ _) (.cons (dNam.mono fun p hp => List.mem_cons_of_mem _ (hs9 p hp)) (.cons (dDue.mono fun p hp => List.mem_cons_of_mem _ (hs9 p hp)) .nil)))) ?yk ?yu ?_)
  case yk => kernel_rfl
  case yu => ke_room
  replace N8 := cb_drop (news := (_, _) :: (C, _) :: R2) N8 (fun p hp => .tail _ (hs9 p (hNS p hp)))
  clear dDue dNam hrm hra hs9 hNS
  kwd_rel
  rw [if_neg (by decide)]
  kwd_rel
  split
  · (rename (_ == (22 : Int)) = true => hp9)
    replace hp9 := eq_of_beq hp9
    kwd_rel
    (rename News _ _ _ _ => NA); (rename Fr _ _ _ _ => FA)
    k_dflt (refine' slice_up FA NA (.tail _ (.tail _ hgl)) ?ya ?yz ?_ ?ys ?yt)
    case ya => omega
    case yz => omega
    case ys => with_unfolding_all rfl
    case yt => intro _; rfl
    clear NA FA
    intro D hA FA NA lA
    refine hide0 ?_
    intro GG HH
    obtain ⟨R3, NB, hgl3, hsub3, hRJ3⟩ := pack3 hRJ2 lA NA
    refine HH ?_
    clear HH GG
    have hgd3 := fun k => take_dat hgd2 hsub3 k
    clear NA lA
    ktr_unf
    k_dflt (refine' rets_use2 (jn_spec _ R3 _ C D _ _ _ _ _ _ _ cv _ ms _ (List.forall_mem_cons.mpr ⟨hJC.symm, hRJ3⟩) hms hm1 hm40 ?ya1 ?ya2 ?yb hgl3 (hgd3 _) ?yw ?yf ?yg rfl) ?k1 ?k2 ?k3 ?k4 ?k5 ?k6 ?k7 ?k8 ?_; (case k1 => k_asm); (case k2 => k_asm); (case k3 => k_asm); (case k4 => k_asm); (case k5 => k_asm); (case k6 => exact rfl); (case k7 => ktr_room); (case k8 => ktr_units))
    case ya1 => assumption
    case ya2 => assumption
    case yb => omega
    case yw => exact fun g hg x hx => (grps_ok (digF _ (by assumption)) (digF _ (by assumption)) g (List.mem_of_mem_take hg) x hx).2
    case yf => exact Nat.le_trans (take_len _) (Nat.le_of_ble_eq_true rfl)
    case yg => exact Nat.le_trans (List.length_take_le' _ _) (Nat.le_of_ble_eq_true rfl)
    intro GG HH
    refine JnR.out ?_
    intro h7 tk7 tu7 spa7 _ _ T7 _ _ sps7 ws7 a7 b7 _ _ hJn7 hTl7 hsp7 ha7 hb7 hc7 _ _
    refine HH _ _ _ _ ?_
    clear HH GG
    intro F7 N9
    ktr_unf
    have hck7 := hJn7.ck
    have hlw7 : ws7.length ≤ 100 := (by rw [hJn7.len.1]; exact Nat.le_trans (take_len _) (Nat.le_of_ble_eq_true rfl))
    have hst7 := hJn7.strm (fun g hg x hx => (grps_ok (digF _ (by assumption)) (digF _ (by assumption)) g (List.mem_of_mem_take hg) x hx).1)
    have hpl7 := rp_miss (T := T7) (by omega) hck7
    k_dflt (refine' retsL_use2 (lr_err hst7 (by omega) (by omega) hpl7) ?k1 ?k2 ?k3 ?k4 ?k5 ?k6 ?k7 ?k8 ?_; (case k1 => k_asm); (case k2 => k_asm); (case k3 => k_asm); (case k4 => k_asm); (case k5 => k_asm); (case k6 => exact rfl); (case k7 => ktr_room); (case k8 => ktr_units))
    intro GG HH
    refine lr_out ?_
    intro nX h8 tk8 ra7 rn7 rvs7 _ hrm7 hra7
    refine HH _ _ _ _ ?_
    clear HH GG
    intro F8 N8
    clear hst7 hpl7 hck7
    ktr_unf
    (rename News _ _ _ _ => N8)
    k_dflt (refine' dat_eq (d := .tuple [.str (s_ "definitions_missing"), .int (T7.length : Int), .str eS]) N8 (.tuple (List.mem_cons_of_mem _ hrm7) (hra7.mono fun p hp => List.mem_cons_of_mem _ hp)) (.tuple (.head _) (.cons (.str _ _) (.cons (.int _ _) (.cons (.str _ _) .nil)))) ?yk ?yu ?_)
    case yk => kernel_rfl
    case yu => ke_room
    k_steps
  · (rename ¬ ((_ == (22 : Int)) = true) => hp9)
    replace hp9 := ne_of_bnot hp9
    kwd_rel
    k_dflt (refine' rets_use2 (wrg_spec _ _ rfl) ?k1 ?k2 ?k3 ?k4 ?k5 ?k6 ?k7 ?k8 ?_; (case k1 => k_asm); (case k2 => k_asm); (case k3 => k_asm); (case k4 => k_asm); (case k5 => k_asm); (case k6 => exact rfl); (case k7 => ktr_room); (case k8 => ktr_units))
    intro GG HH r9 n9 h7 tk7 R9
    obtain ⟨wl, wn, wvs, tlW, rfl, rfl, hwl, hwd, hoffW⟩ := R9
    refine HH _ _ _ _ ?_
    clear HH GG
    intro F7 N7
    refine hide0 ?_
    intro GG HH
    obtain ⟨R3, NB, hwl3, hwd3, hsub3, hRJ3⟩ := pack4 hRJ2 hwl hwd hoffW N7
    refine HH ?_
    clear HH GG
    clear N7 hwl hwd hoffW
    ktr_rel
    k_dflt (refine kba_turn (value' := PySem.Expr.Name (PySem.Str.ofString "_") ⟨0, 0, 0, 0⟩) (fun _ => rfl) ?_)
    k_dflt (refine' row_item NB (.tail _ (.tail _ hwl3)) hwd3 ?ya ?yb ?_)
    case ya => assumption
    case yb => omega
    intro r va vn pa pn pvs u1 u2 u3 u4 u5 hr hvm hpm hpd
    clear hwd3 hwl3
    refine hide0 ?_
    intro GG HH
    obtain ⟨hp10, hrg, hlo1, hlo2, hbe1, hbe2, hk1, hk2⟩ := rows_range r hr
    refine HH ?_
    clear HH GG
    replace NB := cb_drop (news := (va, _) :: (_, _) :: (C, _) :: R3) NB (fun p hp => by
      rcases List.mem_cons.mp hp with rfl | hp
      · exact .tail _ (.tail _ hvm)
      · exact hp)
    repeat' ((fail_if_success (with_reducible show wpAny _ _ (execs (Stmt.If _ _ _ _ :: _) _) _ _ _)); first | (k_unfold; (try dsimp only)) | (k_end; wrow_close) | walk1 | (dsimp only; walk1) | (leave1; walk_say "STEP leave1"; try dsimp only) | fail "no step")
    (rename News _ _ _ _ => NB)
    refine' ex_joinL r NB ?jA ?jB
    case jA =>
      intro Q1 hX
      kwd_rel
      split
      · (rename News _ _ _ _ => NB); (rename decide _ = true => hlow)
        replace hlow := of_decide_eq_true hlow
        replace NB := cb_drop (news := (_, _) :: (C, _) :: R3) NB (fun p hp => .tail _ hp)
        kwd_rel
        (rename News _ _ _ _ => NA); (rename Fr _ _ _ _ => FA)
        k_dflt (refine' slice_up FA NA (.tail _ (.tail _ (hsub3 _ hgl))) ?ya ?yz ?_ ?ys ?yt)
        case ya => omega
        case yz => omega
        case ys => with_unfolding_all rfl
        case yt => intro _; rfl
        clear NA FA
        intro D1 hA FA NA lA
        kwd_rel
        (rename News _ _ _ _ => NA); (with_reducible rename ∀ p ∈ _, _ < _ => lD)
        refine hide0 ?_
        intro GG HH
        obtain ⟨R4, NB4, hw4, hs4, hRJ4⟩ := pack5 (l := [(_, _), (_, _)]) hRJ3 (Nat.ne_of_gt (lD _ (.tail _ (.tail _ (.head _))))) NA
        refine HH ?_
        clear HH GG
        have hgd3 := hgd2.mono hsub3
        have hgd4 := fun k => worse1 hgd3 hs4 hpm hpd k
        clear NA lD lA
        kwd_rel
        exact hX _ (.mk _ _ _ _ _ _ _ _ R4 _ _ _ _ _ _ _ _ _ (by assumption) NB4 hRJ4 (by assumption) (by assumption) (by omega) hw4 (hgd4 _) (by repeat (first | assumption | rfl | refine (if_neg (by decide)).trans ?_)) (by repeat (first | assumption | rfl | refine (if_neg (by decide)).trans ?_)) (by repeat (first | assumption | rfl | refine (if_neg (by decide)).trans ?_)) (by repeat (first | assumption | rfl | refine (if_neg (by decide)).trans ?_)) (by repeat (first | assumption | rfl | refine (if_neg (by decide)).trans ?_)) (by repeat (first | assumption | rfl | refine (if_neg (by decide)).trans ?_)) (by omega) (by rw [wlen1]; omega) (by rw [wlen1]; omega) (worse_len hr _).1
          (worse_words (l := []) (digF _ (by assumption)) (digF _ (by assumption)) hr _ (fun g hg => nomatch hg)) (fun T sps ws hl hc => (rows_ok (digF _ (by assumption)) (digF _ (by assumption)) r hr).1 hlow _ (by omega) T sps ws hl hc))
      · (rename News _ _ _ _ => NB); (rename ¬ (decide _ = true) => hlow)
        replace hlow := Int.not_lt.mp (fun h => hlow (decide_eq_true h))
        replace NB := cb_drop (news := (_, _) :: (C, _) :: R3) NB (fun p hp => .tail _ hp)
        refine hide0 ?_
        intro GG HH
        obtain ⟨hrg1, hrg2⟩ := hrg hlow
        refine HH ?_
        clear HH GG
        kwd_rel
        (rename News _ _ _ _ => NA); (rename Fr _ _ _ _ => FA)
        k_dflt (refine' slice_up FA NA (.tail _ (.tail _ (hsub3 _ hgl))) ?ya ?yz ?_ ?ys ?yt)
        case ya => omega
        case yz => omega
        case ys => with_unfolding_all rfl
        case yt => intro _; rfl
        clear NA FA
        intro D1 hA FA NA lA
        kwd_rel
        (rename News _ _ _ _ => NA); (rename Fr _ _ _ _ => FA)
        k_dflt (refine' slice_down FA NA (.tail _ (.tail _ (.tail _ (.tail _ (.tail _ (hsub3 _ hgl)))))) ?ya ?yz ?_ ?ys ?yt)
        case ya => omega
        case yz => omega
        case ys => with_unfolding_all rfl
        case yt => intro _; rfl
        clear NA FA
        intro D1 hA FA NA lA
        kwd_rel
        (rename News _ _ _ _ => NA); (with_reducible rename ∀ p ∈ _, _ < _ => lD)
        refine hide0 ?_
        intro GG HH
        obtain ⟨R4, NB4, hw4, hs4, hRJ4⟩ := pack5 (l := [(_, _), (_, _), (_, _), (_, _)]) hRJ3 (Nat.ne_of_gt (lD _ (.tail _ (.tail _ (.tail _ (.tail _ (.head _))))))) NA
        refine HH ?_
        clear HH GG
        have hgd3 := hgd2.mono hsub3
        have hgd4 := fun k => worse2 hgd3 hs4 hpm hpd k
        clear NA lD lA
        kwd_rel
        exact hX _ (.mk _ _ _ _ _ _ _ _ R4 _ _ _ _ _ _ _ _ _ (by assumption) NB4 hRJ4 (by assumption) (by assumption) (by omega) hw4 (hgd4 _) (by repeat (first | assumption | rfl | refine (if_neg (by decide)).trans ?_)) (by repeat (first | assumption | rfl | refine (if_neg (by decide)).trans ?_)) (by repeat (first | assumption | rfl | refine (if_neg (by decide)).trans ?_)) (by repeat (first | assumption | rfl | refine (if_neg (by decide)).trans ?_)) (by repeat (first | assumption | rfl | refine (if_neg (by decide)).trans ?_)) (by repeat (first | assumption | rfl | refine (if_neg (by decide)).trans ?_)) (by omega) (by rw [wlen2]; omega) (by rw [wlen2]; omega) (worse_len hr _).2
          (worse_words (l := (grps _ _).drop _) (digF _ (by assumption)) (digF _ (by assumption)) hr _ (fun g hg => List.mem_of_mem_drop hg)) (fun T sps ws hl hc => (rows_ok (digF _ (by assumption)) (digF _ (by assumption)) r hr).2 hlow _ (by omega) (by omega) T sps ws hl hc))
    case jB =>
      clear NB
      intro GG HH
      refine LawX.out ?_
      intro hh4 tk4 m4 a4 b4 ta4 tb4 n4 R4 wl4 wn4 wvs4 worse turn4 tt1 tt2 tt3 tt4 F4 N4 hRJ4 ha4 hb4 hb5 hw4 hgd4 e1 e2 e3 e4 e5 e6 ht0 ht1 hwl4 hfl4 hwk4 hpl4
      refine HH _ ?_
      clear HH GG
      ktr_unf
      k_dflt (refine' rets_use2 (jn_spec _ R4 _ C _ _ _ _ _ _ _ _ cv _ ms worse (List.forall_mem_cons.mpr ⟨hJC.symm, hRJ4⟩) hms hm1 hm40 ?ya1 ?ya2 ?yb hw4 hgd4 ?yw ?yf ?yg rfl) ?k1 ?k2 ?k3 ?k4 ?k5 ?k6 ?k7 ?k8 ?_; (case k1 => k_asm); (case k2 => k_asm); (case k3 => k_asm); (case k4 => k_asm); (case k5 => k_asm); (case k6 => exact rfl); (case k7 => ktr_room); (case k8 => ktr_units))
      case ya1 => exact ha4
      case ya2 => exact hb4
      case yb => omega
      case yw => exact fun g hg x hx => (hwk4 g hg x hx).2
      case yf => exact hfl4
      case yg => exact hwl4
      intro GG HH
      refine JnR.out ?_
      intro h7 tk7 tu7 spa7 _ _ T7 _ _ sps7 ws7 a7 b7 _ _ hJn7 hTl7 hsp7 ha7 hb7 hc7 _ _
      refine HH _ _ _ _ ?_
      clear HH GG
      intro F7 N9
      ktr_unf
      have hck7 := hJn7.ck
      have hl7 := hJn7.len
      have hlw7 : ws7.length ≤ 1000 := (by rw [hl7.1]; exact Nat.le_trans hfl4 (by decide))
      have hst7 := hJn7.strm (fun g hg x hx => (hwk4 g hg x hx).1)
      have hpl7 := hpl4 T7 sps7 ws7 hlw7 hck7
      k_dflt (refine' retsL_use2 (lr_err hst7 (by omega) hlw7 hpl7) ?k1 ?k2 ?k3 ?k4 ?k5 ?k6 ?k7 ?k8 ?_; (case k1 => k_asm); (case k2 => k_asm); (case k3 => k_asm); (case k4 => k_asm); (case k5 => k_asm); (case k6 => exact rfl); (case k7 => ktr_room); (case k8 => ktr_units))
      intro GG HH
      refine lr_out ?_
      intro nX h8 tk8 ra7 rn7 rvs7 hs8 hrm7 hra7
      refine HH _ _ _ _ ?_
      clear HH GG
      intro F8 N8
      clear hst7 hpl7 hck7
      have hm8 := hs8 (spa7, _) (.tail _ (.head _))
      clear hs8
      ktr_rel
      (rename News _ _ _ _ => N8)
      k_dflt (refine' ksa_sub N8 hm8 hsp7 ?ya ?yb ?yc ?_)
      case ya => omega
      case yb => (rw [hl7.2]; exact ht1)
      case yc => omega
      intro t8
      ktr_rel
      (rename News _ _ _ _ => N8)
      k_dflt (refine' dat_eq (d := .tuple [.str r.kind, .int (sps7.getD _ 0 + r.beside), .str r.detail]) N8 (.tuple (List.mem_cons_of_mem _ hrm7) (hra7.mono fun p hp => List.mem_cons_of_mem _ hp)) (.tuple (.head _) (.cons (.str _ _) (.cons (.int _ _) (.cons (.str _ _) .nil)))) ?yk ?yu ?_)
      case yk => (simp only [kqdOk, List.all_cons, List.all_nil, hk1, hk2, Bool.and_true])
      case yu => ke_room
      k_steps


end Mine
end
end
theorem PySem.Challenge.cw_on0102_01_holds : PySem.Challenge.rw_on0102_01.Holds :=
  Mine.law_holds
