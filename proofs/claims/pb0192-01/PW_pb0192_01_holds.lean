import PyProof.Rows.All
import Wide.All
import OpenK.AllK
import Wide.FinOn
import PyProof.IsiH_list
import PySem.Challenge.RW_pb0192_01
open PySem PySem.W PyProof.Rows
set_option Elab.async false
set_option linter.unusedVariables false
set_option rowWalk.seconds 0
namespace Mine
set_option maxRecDepth 100000
set_option maxHeartbeats 8000000
def topAt (i : Nat) : Stmt := PySem.Challenge.pw_pb0192_01.main.body.getD i (.Pass default)
def inCls (s : Stmt) : List Stmt := match s with | .ClassDef _ _ _ body _ _ _ _ _ _ _ => body | _ => []
def fnTop (s : Stmt) : Arguments × List Stmt × Scope := match s with | .FunctionDef _ ps body _ _ _ scope _ _ _ => (ps, body, scope) | _ => default
def fnAt (l : List Stmt) (j : Nat) : Arguments × List Stmt × Scope := fnTop (l.getD j (.Pass default))
noncomputable def HK : Params → Frag := by
  refine fun P =>
    (nat_lit 2, Obj.mk Value.none none (Data.dict #[]) #[]) ::
    (nat_lit 3, Obj.mk (Value.type "dict") none (Data.dict #[DictEntry.mk (PyData.keyHash P (Str.ofString "__name__")) (Value.str (Str.ofString "__name__") 165) (Value.str (Str.ofString "law_pb0192_01") 733), DictEntry.mk (PyData.keyHash P (Str.ofString "__doc__")) (Value.str (Str.ofString "__doc__") 166) Value.none, DictEntry.mk (PyData.keyHash P (Str.ofString "__package__")) (Value.str (Str.ofString "__package__") 167) Value.none, DictEntry.mk (PyData.keyHash P (Str.ofString "__loader__")) (Value.str (Str.ofString "__loader__") 168) (Value.builtin "__main__.__loader__#opaque"), DictEntry.mk (PyData.keyHash P (Str.ofString "__spec__")) (Value.str (Str.ofString "__spec__") 169) Value.none, DictEntry.mk (PyData.keyHash P (Str.ofString "__annotations__")) (Value.str (Str.ofString "__annotations__") 170) (Value.ref 6), DictEntry.mk (PyData.keyHash P (Str.ofString "__builtins__")) (Value.str (Str.ofString "__builtins__") 171) (Value.ref 4), DictEntry.mk (PyData.keyHash P (Str.ofString "__file__")) (Value.str (Str.ofString "__file__") 173) (Value.str (Str.ofString "/claim/cut.py") 172), DictEntry.mk (PyData.keyHash P (Str.ofString "__cached__")) (Value.str (Str.ofString "__cached__") 174) Value.none, DictEntry.mk (PyData.keyHash P (Str.ofString "_wall")) (Value.str (Str.ofString "_wall") 193) (Value.ref 21), DictEntry.mk (PyData.keyHash P (Str.ofString "IGNORE_BASES")) (Value.str (Str.ofString "IGNORE_BASES") 197) (Value.int 2 196), DictEntry.mk (PyData.keyHash P (Str.ofString "IGNORE_LIGATURES")) (Value.str (Str.ofString "IGNORE_LIGATURES") 199) (Value.int 4 198), DictEntry.mk (PyData.keyHash P (Str.ofString "IGNORE_MARKS")) (Value.str (Str.ofString "IGNORE_MARKS") 201) (Value.int 8 200), DictEntry.mk (PyData.keyHash P (Str.ofString "USE_SET")) (Value.str (Str.ofString "USE_SET") 203) (Value.int 16 202), DictEntry.mk (PyData.keyHash P (Str.ofString "Lookup")) (Value.str (Str.ofString "Lookup") 244) (Value.ref 43), DictEntry.mk (PyData.keyHash P (Str.ofString "Scene")) (Value.str (Str.ofString "Scene") 285) (Value.ref 65), DictEntry.mk (PyData.keyHash P (Str.ofString "attach_wanted")) (Value.str (Str.ofString "attach_wanted") 292) (Value.ref 76), DictEntry.mk (PyData.keyHash P (Str.ofString "class_bit")) (Value.str (Str.ofString "class_bit") 299) (Value.ref 83), DictEntry.mk (PyData.keyHash P (Str.ofString "is_ignored")) (Value.str (Str.ofString "is_ignored") 310) (Value.ref 90), DictEntry.mk (PyData.keyHash P (Str.ofString "passes")) (Value.str (Str.ofString "passes") 318) (Value.ref 97), DictEntry.mk (PyData.keyHash P (Str.ofString "KINDS_IN_INPUT")) (Value.str (Str.ofString "KINDS_IN_INPUT") 323) (Value.ref 98), DictEntry.mk (PyData.keyHash P (Str.ofString "KINDS_AROUND")) (Value.str (Str.ofString "KINDS_AROUND") 327) (Value.ref 99), DictEntry.mk (PyData.keyHash P (Str.ofString "fits")) (Value.str (Str.ofString "fits") 335) (Value.ref 106), DictEntry.mk (PyData.keyHash P (Str.ofString "is_borne")) (Value.str (Str.ofString "is_borne") 343) (Value.ref 113), DictEntry.mk (PyData.keyHash P (Str.ofString "found_at")) (Value.str (Str.ofString "found_at") 357) (Value.ref 120), DictEntry.mk (PyData.keyHash P (Str.ofString "input_at")) (Value.str (Str.ofString "input_at") 369) (Value.ref 127), DictEntry.mk (PyData.keyHash P (Str.ofString "last_at")) (Value.str (Str.ofString "last_at") 381) (Value.ref 134), DictEntry.mk (PyData.keyHash P (Str.ofString "ahead_at")) (Value.str (Str.ofString "ahead_at") 390) (Value.ref 141), DictEntry.mk (PyData.keyHash P (Str.ofString "back_at")) (Value.str (Str.ofString "back_at") 399) (Value.ref 148), DictEntry.mk (PyData.keyHash P (Str.ofString "Info")) (Value.str (Str.ofString "Info") 461) (Value.ref 179), DictEntry.mk (PyData.keyHash P (Str.ofString "Buffer")) (Value.str (Str.ofString "Buffer") 527) (Value.ref 232), DictEntry.mk (PyData.keyHash P (Str.ofString "ClassDef")) (Value.str (Str.ofString "ClassDef") 589) (Value.ref 279), DictEntry.mk (PyData.keyHash P (Str.ofString "Coverage")) (Value.str (Str.ofString "Coverage") 646) (Value.ref 321), DictEntry.mk (PyData.keyHash P (Str.ofString "coverage_of")) (Value.str (Str.ofString "coverage_of") 655) (Value.ref 332), DictEntry.mk (PyData.keyHash P (Str.ofString "NO_CLASS")) (Value.str (Str.ofString "NO_CLASS") 659) (Value.int 0 658), DictEntry.mk (PyData.keyHash P (Str.ofString "BASE")) (Value.str (Str.ofString "BASE") 661) (Value.int 1 660), DictEntry.mk (PyData.keyHash P (Str.ofString "COMPONENT")) (Value.str (Str.ofString "COMPONENT") 663) (Value.int 4 662), DictEntry.mk (PyData.keyHash P (Str.ofString "Gdef")) (Value.str (Str.ofString "Gdef") 732) (Value.ref 376), DictEntry.mk (PyData.keyHash P (Str.ofString "_law_take")) (Value.str (Str.ofString "_law_take") 743) (Value.ref 387), DictEntry.mk (PyData.keyHash P (Str.ofString "_law_spelled")) (Value.str (Str.ofString "_law_spelled") 749) (Value.ref 392), DictEntry.mk (PyData.keyHash P (Str.ofString "law")) (Value.str (Str.ofString "law") 755) (Value.ref 397)] 41) #[]) ::
    (nat_lit 15, Obj.mk (Value.type "tuple") none (Data.seq #[]) #[]) ::
    (nat_lit 17, Obj.mk (Value.type "tuple") none (Data.seq #[Value.str (Str.ofString "k") 190]) #[]) ::
    (nat_lit 18, Obj.mk (Value.type "tuple") none (Data.seq #[]) #[]) ::
    (nat_lit 20, Obj.mk (Value.type "code") none (Data.fields #[Value.str (Str.ofString "_wall") 187, Value.str (Str.ofString "_wall") 188, Value.str (Str.ofString "/claim/cut.py") 189, Value.int 1 0, Value.int 1 0, Value.int 0 0, Value.int 0 0, Value.int 3 0, Value.ref 15, Value.bool true, Value.int 181 0, Value.ref 16, Value.none, Value.ref 17, Value.ref 18, Value.ref 19, Value.int 191 0, Value.int 1 0, Value.str (Str.ofString "/claim/cut.py") 192]) #[]) ::
    (nat_lit 21, (fun (o : Obj) (_ : o = Obj.mk (Value.type "function") none (Data.func (FuncData.mk (Str.ofString "_wall") (Str.ofString "_wall") (fnTop (topAt 0)).1 (FuncBody.stmts (fnTop (topAt 0)).2.1) (fnTop (topAt 0)).2.2 3 [] Value.none Value.none Value.none (Value.str (Str.ofString "__main__") 164) none (Value.ref 20) Value.none 0)) #[]) => o) ?o21 ?h21) ::
    (nat_lit 29, Obj.mk (Value.type "tuple") none (Data.seq #[]) #[]) ::
    (nat_lit 31, Obj.mk (Value.type "tuple") none (Data.seq #[Value.str (Str.ofString "self") 219, Value.str (Str.ofString "kind") 220, Value.str (Str.ofString "flag") 221, Value.str (Str.ofString "mark_set") 222, Value.str (Str.ofString "tables") 223]) #[]) ::
    (nat_lit 32, Obj.mk (Value.type "tuple") none (Data.seq #[]) #[]) ::
    (nat_lit 34, Obj.mk (Value.type "code") none (Data.fields #[Value.str (Str.ofString "__init__") 216, Value.str (Str.ofString "Lookup.__init__") 217, Value.str (Str.ofString "/claim/cut.py") 218, Value.int 11 0, Value.int 5 0, Value.int 0 0, Value.int 0 0, Value.int 3 0, Value.ref 29, Value.bool true, Value.int 181 0, Value.ref 30, Value.none, Value.ref 31, Value.ref 32, Value.ref 33, Value.int 224 0, Value.int 11 0, Value.str (Str.ofString "/claim/cut.py") 225]) #[]) ::
    (nat_lit 35, (fun (o : Obj) (_ : o = Obj.mk (Value.type "function") none (Data.func (FuncData.mk (Str.ofString "__init__") (Str.ofString "Lookup.__init__") (fnAt (inCls (topAt 6)) 0).1 (FuncBody.stmts (fnAt (inCls (topAt 6)) 0).2.1) (fnAt (inCls (topAt 6)) 0).2.2 3 [] Value.none Value.none Value.none (Value.str (Str.ofString "joinedhand.flags") 194) none (Value.ref 34) Value.none 0)) #[]) => o) ?o35 ?h35) ::
    (nat_lit 36, Obj.mk (Value.type "tuple") none (Data.seq #[]) #[]) ::
    (nat_lit 39, Obj.mk (Value.type "code") none (Data.fields #[Value.str (Str.ofString "told") 227, Value.str (Str.ofString "Lookup.told") 228, Value.str (Str.ofString "/claim/cut.py") 229, Value.int 17 0, Value.int 1 0, Value.int 0 0, Value.int 0 0, Value.int 3 0, Value.ref 36, Value.bool true, Value.int 181 0, Value.ref 37, Value.none, Value.none, Value.none, Value.ref 38, Value.int 230 0, Value.int 17 0, Value.str (Str.ofString "/claim/cut.py") 231]) #[]) ::
    (nat_lit 40, (fun (o : Obj) (_ : o = Obj.mk (Value.type "function") none (Data.func (FuncData.mk (Str.ofString "told") (Str.ofString "Lookup.told") (fnAt (inCls (topAt 6)) 1).1 (FuncBody.stmts (fnAt (inCls (topAt 6)) 1).2.1) (fnAt (inCls (topAt 6)) 1).2.2 3 [] Value.none Value.none Value.none (Value.str (Str.ofString "joinedhand.flags") 194) none (Value.ref 39) Value.none 0)) #[]) => o) ?o40 ?h40) ::
    (nat_lit 41, Obj.mk (Value.type "tuple") none (Data.seq #[Value.str (Str.ofString "flag") 233, Value.str (Str.ofString "kind") 234, Value.str (Str.ofString "mark_set") 235, Value.str (Str.ofString "tables") 236]) #[]) ::
    (nat_lit 42, Obj.mk (Value.type "dict") none (Data.dict #[DictEntry.mk (PyData.keyHash P (Str.ofString "__module__")) (Value.str (Str.ofString "__module__") 211) (Value.str (Str.ofString "joinedhand.flags") 194), DictEntry.mk (PyData.keyHash P (Str.ofString "__firstlineno__")) (Value.str (Str.ofString "__firstlineno__") 215) (Value.int 9 214), DictEntry.mk (PyData.keyHash P (Str.ofString "__init__")) (Value.str (Str.ofString "__init__") 226) (Value.ref 35), DictEntry.mk (PyData.keyHash P (Str.ofString "told")) (Value.str (Str.ofString "told") 232) (Value.ref 40), DictEntry.mk (PyData.keyHash P (Str.ofString "__static_attributes__")) (Value.str (Str.ofString "__static_attributes__") 237) (Value.ref 41), DictEntry.mk (PyData.keyHash P (Str.ofString "__dict__")) (Value.str (Str.ofString "__dict__") 239) (Value.ref 44), DictEntry.mk (PyData.keyHash P (Str.ofString "__weakref__")) (Value.str (Str.ofString "__weakref__") 241) (Value.ref 45), DictEntry.mk (PyData.keyHash P (Str.ofString "__doc__")) (Value.str (Str.ofString "__doc__") 242) Value.none] 4) #[]) ::
    (nat_lit 43, Obj.mk (Value.type "type") none (Data.cls (ClassData.mk (Str.ofString "Lookup") [Value.type "object"] [Value.ref 43, Value.type "object"] 42 (Str.ofString "Lookup") true [] [] false none false)) #[none, none, some (Value.str (Str.ofString "Lookup") 204), some (Value.str (Str.ofString "Lookup") 212), some (Value.builtin "object.__new__"), some (Value.bool true)]) ::
    (nat_lit 44, Obj.mk (Value.type "getset_descriptor") none (Data.fields #[Value.str (Str.ofString "__dict__") 238, Value.ref 43, Value.builtin "function.__dict__", Value.builtin "function.__dict__#set"]) #[]) ::
    (nat_lit 45, Obj.mk (Value.type "getset_descriptor") none (Data.fields #[Value.str (Str.ofString "__weakref__") 240, Value.ref 43, Value.builtin "ExceptionGroup.__weakref__", Value.none]) #[]) ::
    (nat_lit 55, Obj.mk (Value.type "tuple") none (Data.seq #[Value.int 0 257]) #[]) ::
    (nat_lit 56, Obj.mk (Value.type "tuple") none (Data.seq #[]) #[]) ::
    (nat_lit 58, Obj.mk (Value.type "tuple") none (Data.seq #[Value.str (Str.ofString "self") 261, Value.str (Str.ofString "buffer") 262, Value.str (Str.ofString "gdef") 263, Value.str (Str.ofString "lookups") 264, Value.str (Str.ofString "lookup") 265, Value.str (Str.ofString "mask") 266, Value.str (Str.ofString "depth") 267]) #[]) ::
    (nat_lit 59, Obj.mk (Value.type "tuple") none (Data.seq #[]) #[]) ::
    (nat_lit 61, Obj.mk (Value.type "code") none (Data.fields #[Value.str (Str.ofString "__init__") 258, Value.str (Str.ofString "Scene.__init__") 259, Value.str (Str.ofString "/claim/cut.py") 260, Value.int 22 0, Value.int 7 0, Value.int 0 0, Value.int 0 0, Value.int 3 0, Value.ref 56, Value.bool true, Value.int 181 0, Value.ref 57, Value.none, Value.ref 58, Value.ref 59, Value.ref 60, Value.int 268 0, Value.int 22 0, Value.str (Str.ofString "/claim/cut.py") 269]) #[]) ::
    (nat_lit 62, (fun (o : Obj) (_ : o = Obj.mk (Value.type "function") none (Data.func (FuncData.mk (Str.ofString "__init__") (Str.ofString "Scene.__init__") (fnAt (inCls (topAt 7)) 0).1 (FuncBody.stmts (fnAt (inCls (topAt 7)) 0).2.1) (fnAt (inCls (topAt 7)) 0).2.2 3 [] (Value.ref 55) Value.none Value.none (Value.str (Str.ofString "joinedhand.flags") 194) none (Value.ref 61) Value.none 0)) #[]) => o) ?o62 ?h62) ::
    (nat_lit 63, Obj.mk (Value.type "tuple") none (Data.seq #[Value.str (Str.ofString "buffer") 271, Value.str (Str.ofString "depth") 272, Value.str (Str.ofString "gdef") 273, Value.str (Str.ofString "lookup") 274, Value.str (Str.ofString "lookups") 275, Value.str (Str.ofString "mask") 276, Value.str (Str.ofString "steps") 277]) #[]) ::
    (nat_lit 64, Obj.mk (Value.type "dict") none (Data.dict #[DictEntry.mk (PyData.keyHash P (Str.ofString "__module__")) (Value.str (Str.ofString "__module__") 252) (Value.str (Str.ofString "joinedhand.flags") 194), DictEntry.mk (PyData.keyHash P (Str.ofString "__firstlineno__")) (Value.str (Str.ofString "__firstlineno__") 256) (Value.int 20 255), DictEntry.mk (PyData.keyHash P (Str.ofString "__init__")) (Value.str (Str.ofString "__init__") 270) (Value.ref 62), DictEntry.mk (PyData.keyHash P (Str.ofString "__static_attributes__")) (Value.str (Str.ofString "__static_attributes__") 278) (Value.ref 63), DictEntry.mk (PyData.keyHash P (Str.ofString "__dict__")) (Value.str (Str.ofString "__dict__") 280) (Value.ref 66), DictEntry.mk (PyData.keyHash P (Str.ofString "__weakref__")) (Value.str (Str.ofString "__weakref__") 282) (Value.ref 67), DictEntry.mk (PyData.keyHash P (Str.ofString "__doc__")) (Value.str (Str.ofString "__doc__") 283) Value.none] 4) #[]) ::
    (nat_lit 65, Obj.mk (Value.type "type") none (Data.cls (ClassData.mk (Str.ofString "Scene") [Value.type "object"] [Value.ref 65, Value.type "object"] 64 (Str.ofString "Scene") true [] [] false none false)) #[none, none, some (Value.str (Str.ofString "Scene") 245), some (Value.str (Str.ofString "Scene") 253), some (Value.builtin "object.__new__"), some (Value.bool true)]) ::
    (nat_lit 66, Obj.mk (Value.type "getset_descriptor") none (Data.fields #[Value.str (Str.ofString "__dict__") 279, Value.ref 65, Value.builtin "function.__dict__", Value.builtin "function.__dict__#set"]) #[]) ::
    (nat_lit 67, Obj.mk (Value.type "getset_descriptor") none (Data.fields #[Value.str (Str.ofString "__weakref__") 281, Value.ref 65, Value.builtin "ExceptionGroup.__weakref__", Value.none]) #[]) ::
    (nat_lit 70, Obj.mk (Value.type "tuple") none (Data.seq #[]) #[]) ::
    (nat_lit 72, Obj.mk (Value.type "tuple") none (Data.seq #[Value.str (Str.ofString "flag") 289]) #[]) ::
    (nat_lit 73, Obj.mk (Value.type "tuple") none (Data.seq #[]) #[]) ::
    (nat_lit 75, Obj.mk (Value.type "code") none (Data.fields #[Value.str (Str.ofString "attach_wanted") 286, Value.str (Str.ofString "attach_wanted") 287, Value.str (Str.ofString "/claim/cut.py") 288, Value.int 30 0, Value.int 1 0, Value.int 0 0, Value.int 0 0, Value.int 3 0, Value.ref 70, Value.bool true, Value.int 181 0, Value.ref 71, Value.none, Value.ref 72, Value.ref 73, Value.ref 74, Value.int 290 0, Value.int 30 0, Value.str (Str.ofString "/claim/cut.py") 291]) #[]) ::
    (nat_lit 76, (fun (o : Obj) (_ : o = Obj.mk (Value.type "function") none (Data.func (FuncData.mk (Str.ofString "attach_wanted") (Str.ofString "attach_wanted") (fnTop (topAt 8)).1 (FuncBody.stmts (fnTop (topAt 8)).2.1) (fnTop (topAt 8)).2.2 3 [] Value.none Value.none Value.none (Value.str (Str.ofString "joinedhand.flags") 194) none (Value.ref 75) Value.none 0)) #[]) => o) ?o76 ?h76) ::
    (nat_lit 77, Obj.mk (Value.type "tuple") none (Data.seq #[]) #[]) ::
    (nat_lit 79, Obj.mk (Value.type "tuple") none (Data.seq #[Value.str (Str.ofString "number") 296]) #[]) ::
    (nat_lit 80, Obj.mk (Value.type "tuple") none (Data.seq #[]) #[]) ::
    (nat_lit 82, Obj.mk (Value.type "code") none (Data.fields #[Value.str (Str.ofString "class_bit") 293, Value.str (Str.ofString "class_bit") 294, Value.str (Str.ofString "/claim/cut.py") 295, Value.int 32 0, Value.int 1 0, Value.int 0 0, Value.int 0 0, Value.int 3 0, Value.ref 77, Value.bool true, Value.int 181 0, Value.ref 78, Value.none, Value.ref 79, Value.ref 80, Value.ref 81, Value.int 297 0, Value.int 32 0, Value.str (Str.ofString "/claim/cut.py") 298]) #[]) ::
    (nat_lit 83, (fun (o : Obj) (_ : o = Obj.mk (Value.type "function") none (Data.func (FuncData.mk (Str.ofString "class_bit") (Str.ofString "class_bit") (fnTop (topAt 9)).1 (FuncBody.stmts (fnTop (topAt 9)).2.1) (fnTop (topAt 9)).2.2 3 [] Value.none Value.none Value.none (Value.str (Str.ofString "joinedhand.flags") 194) none (Value.ref 82) Value.none 0)) #[]) => o) ?o83 ?h83) ::
    (nat_lit 84, Obj.mk (Value.type "tuple") none (Data.seq #[]) #[]) ::
    (nat_lit 86, Obj.mk (Value.type "tuple") none (Data.seq #[Value.str (Str.ofString "gdef") 303, Value.str (Str.ofString "lookup") 304, Value.str (Str.ofString "glyph") 305, Value.str (Str.ofString "number") 306, Value.str (Str.ofString "wanted") 307]) #[]) ::
    (nat_lit 87, Obj.mk (Value.type "tuple") none (Data.seq #[]) #[]) ::
    (nat_lit 89, Obj.mk (Value.type "code") none (Data.fields #[Value.str (Str.ofString "is_ignored") 300, Value.str (Str.ofString "is_ignored") 301, Value.str (Str.ofString "/claim/cut.py") 302, Value.int 34 0, Value.int 3 0, Value.int 0 0, Value.int 0 0, Value.int 3 0, Value.ref 84, Value.bool true, Value.int 181 0, Value.ref 85, Value.none, Value.ref 86, Value.ref 87, Value.ref 88, Value.int 308 0, Value.int 34 0, Value.str (Str.ofString "/claim/cut.py") 309]) #[]) ::
    (nat_lit 90, (fun (o : Obj) (_ : o = Obj.mk (Value.type "function") none (Data.func (FuncData.mk (Str.ofString "is_ignored") (Str.ofString "is_ignored") (fnTop (topAt 10)).1 (FuncBody.stmts (fnTop (topAt 10)).2.1) (fnTop (topAt 10)).2.2 3 [] Value.none Value.none Value.none (Value.str (Str.ofString "joinedhand.flags") 194) none (Value.ref 89) Value.none 0)) #[]) => o) ?o90 ?h90) ::
    (nat_lit 91, Obj.mk (Value.type "tuple") none (Data.seq #[]) #[]) ::
    (nat_lit 93, Obj.mk (Value.type "tuple") none (Data.seq #[Value.str (Str.ofString "scene") 314, Value.str (Str.ofString "at") 315]) #[]) ::
    (nat_lit 94, Obj.mk (Value.type "tuple") none (Data.seq #[]) #[]) ::
    (nat_lit 96, Obj.mk (Value.type "code") none (Data.fields #[Value.str (Str.ofString "passes") 311, Value.str (Str.ofString "passes") 312, Value.str (Str.ofString "/claim/cut.py") 313, Value.int 44 0, Value.int 2 0, Value.int 0 0, Value.int 0 0, Value.int 3 0, Value.ref 91, Value.bool true, Value.int 181 0, Value.ref 92, Value.none, Value.ref 93, Value.ref 94, Value.ref 95, Value.int 316 0, Value.int 44 0, Value.str (Str.ofString "/claim/cut.py") 317]) #[]) ::
    (nat_lit 97, (fun (o : Obj) (_ : o = Obj.mk (Value.type "function") none (Data.func (FuncData.mk (Str.ofString "passes") (Str.ofString "passes") (fnTop (topAt 11)).1 (FuncBody.stmts (fnTop (topAt 11)).2.1) (fnTop (topAt 11)).2.2 3 [] Value.none Value.none Value.none (Value.str (Str.ofString "joinedhand.flags") 194) none (Value.ref 96) Value.none 0)) #[]) => o) ?o97 ?h97) ::
    (nat_lit 98, Obj.mk (Value.type "tuple") none (Data.seq #[Value.str (Str.ofString "zwj") 321, Value.str (Str.ofString "hidden") 322]) #[]) ::
    (nat_lit 99, Obj.mk (Value.type "tuple") none (Data.seq #[Value.str (Str.ofString "zwj") 324, Value.str (Str.ofString "zwnj") 325, Value.str (Str.ofString "hidden") 326]) #[]) ::
    (nat_lit 100, Obj.mk (Value.type "tuple") none (Data.seq #[]) #[]) ::
    (nat_lit 102, Obj.mk (Value.type "tuple") none (Data.seq #[Value.str (Str.ofString "test") 331, Value.str (Str.ofString "glyph") 332]) #[]) ::
    (nat_lit 103, Obj.mk (Value.type "tuple") none (Data.seq #[]) #[]) ::
    (nat_lit 105, Obj.mk (Value.type "code") none (Data.fields #[Value.str (Str.ofString "fits") 328, Value.str (Str.ofString "fits") 329, Value.str (Str.ofString "/claim/cut.py") 330, Value.int 49 0, Value.int 2 0, Value.int 0 0, Value.int 0 0, Value.int 3 0, Value.ref 100, Value.bool true, Value.int 181 0, Value.ref 101, Value.none, Value.ref 102, Value.ref 103, Value.ref 104, Value.int 333 0, Value.int 49 0, Value.str (Str.ofString "/claim/cut.py") 334]) #[]) ::
    (nat_lit 106, (fun (o : Obj) (_ : o = Obj.mk (Value.type "function") none (Data.func (FuncData.mk (Str.ofString "fits") (Str.ofString "fits") (fnTop (topAt 15)).1 (FuncBody.stmts (fnTop (topAt 15)).2.1) (fnTop (topAt 15)).2.2 3 [] Value.none Value.none Value.none (Value.str (Str.ofString "joinedhand.matching") 319) none (Value.ref 105) Value.none 0)) #[]) => o) ?o106 ?h106) ::
    (nat_lit 107, Obj.mk (Value.type "tuple") none (Data.seq #[]) #[]) ::
    (nat_lit 109, Obj.mk (Value.type "tuple") none (Data.seq #[Value.str (Str.ofString "scene") 339, Value.str (Str.ofString "info") 340]) #[]) ::
    (nat_lit 110, Obj.mk (Value.type "tuple") none (Data.seq #[]) #[]) ::
    (nat_lit 112, Obj.mk (Value.type "code") none (Data.fields #[Value.str (Str.ofString "is_borne") 336, Value.str (Str.ofString "is_borne") 337, Value.str (Str.ofString "/claim/cut.py") 338, Value.int 55 0, Value.int 2 0, Value.int 0 0, Value.int 0 0, Value.int 3 0, Value.ref 107, Value.bool true, Value.int 181 0, Value.ref 108, Value.none, Value.ref 109, Value.ref 110, Value.ref 111, Value.int 341 0, Value.int 55 0, Value.str (Str.ofString "/claim/cut.py") 342]) #[]) ::
    (nat_lit 113, (fun (o : Obj) (_ : o = Obj.mk (Value.type "function") none (Data.func (FuncData.mk (Str.ofString "is_borne") (Str.ofString "is_borne") (fnTop (topAt 16)).1 (FuncBody.stmts (fnTop (topAt 16)).2.1) (fnTop (topAt 16)).2.2 3 [] Value.none Value.none Value.none (Value.str (Str.ofString "joinedhand.matching") 319) none (Value.ref 112) Value.none 0)) #[]) => o) ?o113 ?h113) ::
    (nat_lit 114, Obj.mk (Value.type "tuple") none (Data.seq #[]) #[]) ::
    (nat_lit 116, Obj.mk (Value.type "tuple") none (Data.seq #[Value.str (Str.ofString "scene") 347, Value.str (Str.ofString "at") 348, Value.str (Str.ofString "step") 349, Value.str (Str.ofString "test") 350, Value.str (Str.ofString "kinds") 351, Value.str (Str.ofString "is_input") 352, Value.str (Str.ofString "here") 353, Value.str (Str.ofString "info") 354]) #[]) ::
    (nat_lit 117, Obj.mk (Value.type "tuple") none (Data.seq #[]) #[]) ::
    (nat_lit 119, Obj.mk (Value.type "code") none (Data.fields #[Value.str (Str.ofString "found_at") 344, Value.str (Str.ofString "found_at") 345, Value.str (Str.ofString "/claim/cut.py") 346, Value.int 57 0, Value.int 6 0, Value.int 0 0, Value.int 0 0, Value.int 3 0, Value.ref 114, Value.bool true, Value.int 181 0, Value.ref 115, Value.none, Value.ref 116, Value.ref 117, Value.ref 118, Value.int 355 0, Value.int 57 0, Value.str (Str.ofString "/claim/cut.py") 356]) #[]) ::
    (nat_lit 120, (fun (o : Obj) (_ : o = Obj.mk (Value.type "function") none (Data.func (FuncData.mk (Str.ofString "found_at") (Str.ofString "found_at") (fnTop (topAt 17)).1 (FuncBody.stmts (fnTop (topAt 17)).2.1) (fnTop (topAt 17)).2.2 3 [] Value.none Value.none Value.none (Value.str (Str.ofString "joinedhand.matching") 319) none (Value.ref 119) Value.none 0)) #[]) => o) ?o120 ?h120) ::
    (nat_lit 121, Obj.mk (Value.type "tuple") none (Data.seq #[]) #[]) ::
    (nat_lit 123, Obj.mk (Value.type "tuple") none (Data.seq #[Value.str (Str.ofString "scene") 361, Value.str (Str.ofString "at") 362, Value.str (Str.ofString "tests") 363, Value.str (Str.ofString "found") 364, Value.str (Str.ofString "test") 365, Value.str (Str.ofString "here") 366]) #[]) ::
    (nat_lit 124, Obj.mk (Value.type "tuple") none (Data.seq #[]) #[]) ::
    (nat_lit 126, Obj.mk (Value.type "code") none (Data.fields #[Value.str (Str.ofString "input_at") 358, Value.str (Str.ofString "input_at") 359, Value.str (Str.ofString "/claim/cut.py") 360, Value.int 68 0, Value.int 3 0, Value.int 0 0, Value.int 0 0, Value.int 3 0, Value.ref 121, Value.bool true, Value.int 181 0, Value.ref 122, Value.none, Value.ref 123, Value.ref 124, Value.ref 125, Value.int 367 0, Value.int 68 0, Value.str (Str.ofString "/claim/cut.py") 368]) #[]) ::
    (nat_lit 127, (fun (o : Obj) (_ : o = Obj.mk (Value.type "function") none (Data.func (FuncData.mk (Str.ofString "input_at") (Str.ofString "input_at") (fnTop (topAt 18)).1 (FuncBody.stmts (fnTop (topAt 18)).2.1) (fnTop (topAt 18)).2.2 3 [] Value.none Value.none Value.none (Value.str (Str.ofString "joinedhand.matching") 319) none (Value.ref 126) Value.none 0)) #[]) => o) ?o127 ?h127) ::
    (nat_lit 128, Obj.mk (Value.type "tuple") none (Data.seq #[]) #[]) ::
    (nat_lit 130, Obj.mk (Value.type "tuple") none (Data.seq #[Value.str (Str.ofString "scene") 373, Value.str (Str.ofString "at") 374, Value.str (Str.ofString "step") 375, Value.str (Str.ofString "tests") 376, Value.str (Str.ofString "here") 377, Value.str (Str.ofString "test") 378]) #[]) ::
    (nat_lit 131, Obj.mk (Value.type "tuple") none (Data.seq #[]) #[]) ::
    (nat_lit 133, Obj.mk (Value.type "code") none (Data.fields #[Value.str (Str.ofString "last_at") 370, Value.str (Str.ofString "last_at") 371, Value.str (Str.ofString "/claim/cut.py") 372, Value.int 78 0, Value.int 4 0, Value.int 0 0, Value.int 0 0, Value.int 3 0, Value.ref 128, Value.bool true, Value.int 181 0, Value.ref 129, Value.none, Value.ref 130, Value.ref 131, Value.ref 132, Value.int 379 0, Value.int 78 0, Value.str (Str.ofString "/claim/cut.py") 380]) #[]) ::
    (nat_lit 134, (fun (o : Obj) (_ : o = Obj.mk (Value.type "function") none (Data.func (FuncData.mk (Str.ofString "last_at") (Str.ofString "last_at") (fnTop (topAt 19)).1 (FuncBody.stmts (fnTop (topAt 19)).2.1) (fnTop (topAt 19)).2.2 3 [] Value.none Value.none Value.none (Value.str (Str.ofString "joinedhand.matching") 319) none (Value.ref 133) Value.none 0)) #[]) => o) ?o134 ?h134) ::
    (nat_lit 135, Obj.mk (Value.type "tuple") none (Data.seq #[]) #[]) ::
    (nat_lit 137, Obj.mk (Value.type "tuple") none (Data.seq #[Value.str (Str.ofString "scene") 385, Value.str (Str.ofString "at") 386, Value.str (Str.ofString "tests") 387]) #[]) ::
    (nat_lit 138, Obj.mk (Value.type "tuple") none (Data.seq #[]) #[]) ::
    (nat_lit 140, Obj.mk (Value.type "code") none (Data.fields #[Value.str (Str.ofString "ahead_at") 382, Value.str (Str.ofString "ahead_at") 383, Value.str (Str.ofString "/claim/cut.py") 384, Value.int 85 0, Value.int 3 0, Value.int 0 0, Value.int 0 0, Value.int 3 0, Value.ref 135, Value.bool true, Value.int 181 0, Value.ref 136, Value.none, Value.ref 137, Value.ref 138, Value.ref 139, Value.int 388 0, Value.int 85 0, Value.str (Str.ofString "/claim/cut.py") 389]) #[]) ::
    (nat_lit 141, (fun (o : Obj) (_ : o = Obj.mk (Value.type "function") none (Data.func (FuncData.mk (Str.ofString "ahead_at") (Str.ofString "ahead_at") (fnTop (topAt 20)).1 (FuncBody.stmts (fnTop (topAt 20)).2.1) (fnTop (topAt 20)).2.2 3 [] Value.none Value.none Value.none (Value.str (Str.ofString "joinedhand.matching") 319) none (Value.ref 140) Value.none 0)) #[]) => o) ?o141 ?h141) ::
    (nat_lit 142, Obj.mk (Value.type "tuple") none (Data.seq #[]) #[]) ::
    (nat_lit 144, Obj.mk (Value.type "tuple") none (Data.seq #[Value.str (Str.ofString "scene") 394, Value.str (Str.ofString "at") 395, Value.str (Str.ofString "tests") 396]) #[]) ::
    (nat_lit 145, Obj.mk (Value.type "tuple") none (Data.seq #[]) #[]) ::
    (nat_lit 147, Obj.mk (Value.type "code") none (Data.fields #[Value.str (Str.ofString "back_at") 391, Value.str (Str.ofString "back_at") 392, Value.str (Str.ofString "/claim/cut.py") 393, Value.int 87 0, Value.int 3 0, Value.int 0 0, Value.int 0 0, Value.int 3 0, Value.ref 142, Value.bool true, Value.int 181 0, Value.ref 143, Value.none, Value.ref 144, Value.ref 145, Value.ref 146, Value.int 397 0, Value.int 87 0, Value.str (Str.ofString "/claim/cut.py") 398]) #[]) ::
    (nat_lit 148, (fun (o : Obj) (_ : o = Obj.mk (Value.type "function") none (Data.func (FuncData.mk (Str.ofString "back_at") (Str.ofString "back_at") (fnTop (topAt 21)).1 (FuncBody.stmts (fnTop (topAt 21)).2.1) (fnTop (topAt 21)).2.2 3 [] Value.none Value.none Value.none (Value.str (Str.ofString "joinedhand.matching") 319) none (Value.ref 147) Value.none 0)) #[]) => o) ?o148 ?h148) ::
    (nat_lit 156, Obj.mk (Value.type "tuple") none (Data.seq #[]) #[]) ::
    (nat_lit 158, Obj.mk (Value.type "tuple") none (Data.seq #[Value.str (Str.ofString "self") 417, Value.str (Str.ofString "code") 418, Value.str (Str.ofString "glyph") 419, Value.str (Str.ofString "cluster") 420]) #[]) ::
    (nat_lit 159, Obj.mk (Value.type "tuple") none (Data.seq #[]) #[]) ::
    (nat_lit 161, Obj.mk (Value.type "code") none (Data.fields #[Value.str (Str.ofString "__init__") 414, Value.str (Str.ofString "Info.__init__") 415, Value.str (Str.ofString "/claim/cut.py") 416, Value.int 92 0, Value.int 4 0, Value.int 0 0, Value.int 0 0, Value.int 3 0, Value.ref 156, Value.bool true, Value.int 181 0, Value.ref 157, Value.none, Value.ref 158, Value.ref 159, Value.ref 160, Value.int 421 0, Value.int 92 0, Value.str (Str.ofString "/claim/cut.py") 422]) #[]) ::
    (nat_lit 162, (fun (o : Obj) (_ : o = Obj.mk (Value.type "function") none (Data.func (FuncData.mk (Str.ofString "__init__") (Str.ofString "Info.__init__") (fnAt (inCls (topAt 23)) 0).1 (FuncBody.stmts (fnAt (inCls (topAt 23)) 0).2.1) (fnAt (inCls (topAt 23)) 0).2.2 3 [] Value.none Value.none Value.none (Value.str (Str.ofString "joinedhand.buffer") 400) none (Value.ref 161) Value.none 0)) #[]) => o) ?o162 ?h162) ::
    (nat_lit 163, Obj.mk (Value.type "tuple") none (Data.seq #[]) #[]) ::
    (nat_lit 165, Obj.mk (Value.type "tuple") none (Data.seq #[Value.str (Str.ofString "self") 427]) #[]) ::
    (nat_lit 166, Obj.mk (Value.type "tuple") none (Data.seq #[]) #[]) ::
    (nat_lit 168, Obj.mk (Value.type "code") none (Data.fields #[Value.str (Str.ofString "copied") 424, Value.str (Str.ofString "Info.copied") 425, Value.str (Str.ofString "/claim/cut.py") 426, Value.int 110 0, Value.int 1 0, Value.int 0 0, Value.int 0 0, Value.int 3 0, Value.ref 163, Value.bool true, Value.int 181 0, Value.ref 164, Value.none, Value.ref 165, Value.ref 166, Value.ref 167, Value.int 428 0, Value.int 110 0, Value.str (Str.ofString "/claim/cut.py") 429]) #[]) ::
    (nat_lit 169, (fun (o : Obj) (_ : o = Obj.mk (Value.type "function") none (Data.func (FuncData.mk (Str.ofString "copied") (Str.ofString "Info.copied") (fnAt (inCls (topAt 23)) 1).1 (FuncBody.stmts (fnAt (inCls (topAt 23)) 1).2.1) (fnAt (inCls (topAt 23)) 1).2.2 3 [] Value.none Value.none Value.none (Value.str (Str.ofString "joinedhand.buffer") 400) none (Value.ref 168) Value.none 0)) #[]) => o) ?o169 ?h169) ::
    (nat_lit 170, Obj.mk (Value.type "tuple") none (Data.seq #[]) #[]) ::
    (nat_lit 172, Obj.mk (Value.type "tuple") none (Data.seq #[Value.str (Str.ofString "self") 434]) #[]) ::
    (nat_lit 173, Obj.mk (Value.type "tuple") none (Data.seq #[]) #[]) ::
    (nat_lit 175, Obj.mk (Value.type "code") none (Data.fields #[Value.str (Str.ofString "told") 431, Value.str (Str.ofString "Info.told") 432, Value.str (Str.ofString "/claim/cut.py") 433, Value.int 113 0, Value.int 1 0, Value.int 0 0, Value.int 0 0, Value.int 3 0, Value.ref 170, Value.bool true, Value.int 181 0, Value.ref 171, Value.none, Value.ref 172, Value.ref 173, Value.ref 174, Value.int 435 0, Value.int 113 0, Value.str (Str.ofString "/claim/cut.py") 436]) #[]) ::
    (nat_lit 176, (fun (o : Obj) (_ : o = Obj.mk (Value.type "function") none (Data.func (FuncData.mk (Str.ofString "told") (Str.ofString "Info.told") (fnAt (inCls (topAt 23)) 2).1 (FuncBody.stmts (fnAt (inCls (topAt 23)) 2).2.1) (fnAt (inCls (topAt 23)) 2).2.2 3 [] Value.none Value.none Value.none (Value.str (Str.ofString "joinedhand.buffer") 400) none (Value.ref 175) Value.none 0)) #[]) => o) ?o176 ?h176) ::
    (nat_lit 177, Obj.mk (Value.type "tuple") none (Data.seq #[Value.str (Str.ofString "bond") 438, Value.str (Str.ofString "cluster") 439, Value.str (Str.ofString "code") 440, Value.str (Str.ofString "glyph") 441, Value.str (Str.ofString "is_unsafe") 442, Value.str (Str.ofString "kind") 443, Value.str (Str.ofString "lig_count") 444, Value.str (Str.ofString "lig_id") 445, Value.str (Str.ofString "lig_part") 446, Value.str (Str.ofString "mask") 447, Value.str (Str.ofString "parent") 448, Value.str (Str.ofString "split_id") 449, Value.str (Str.ofString "x_advance") 450, Value.str (Str.ofString "x_offset") 451, Value.str (Str.ofString "y_advance") 452, Value.str (Str.ofString "y_offset") 453]) #[]) ::
    (nat_lit 178, Obj.mk (Value.type "dict") none (Data.dict #[DictEntry.mk (PyData.keyHash P (Str.ofString "__module__")) (Value.str (Str.ofString "__module__") 409) (Value.str (Str.ofString "joinedhand.buffer") 400), DictEntry.mk (PyData.keyHash P (Str.ofString "__firstlineno__")) (Value.str (Str.ofString "__firstlineno__") 413) (Value.int 90 412), DictEntry.mk (PyData.keyHash P (Str.ofString "__init__")) (Value.str (Str.ofString "__init__") 423) (Value.ref 162), DictEntry.mk (PyData.keyHash P (Str.ofString "copied")) (Value.str (Str.ofString "copied") 430) (Value.ref 169), DictEntry.mk (PyData.keyHash P (Str.ofString "told")) (Value.str (Str.ofString "told") 437) (Value.ref 176), DictEntry.mk (PyData.keyHash P (Str.ofString "__static_attributes__")) (Value.str (Str.ofString "__static_attributes__") 454) (Value.ref 177), DictEntry.mk (PyData.keyHash P (Str.ofString "__dict__")) (Value.str (Str.ofString "__dict__") 456) (Value.ref 180), DictEntry.mk (PyData.keyHash P (Str.ofString "__weakref__")) (Value.str (Str.ofString "__weakref__") 458) (Value.ref 181), DictEntry.mk (PyData.keyHash P (Str.ofString "__doc__")) (Value.str (Str.ofString "__doc__") 459) Value.none] 4) #[]) ::
    (nat_lit 179, Obj.mk (Value.type "type") none (Data.cls (ClassData.mk (Str.ofString "Info") [Value.type "object"] [Value.ref 179, Value.type "object"] 178 (Str.ofString "Info") true [] [] false none false)) #[none, none, some (Value.str (Str.ofString "Info") 402), some (Value.str (Str.ofString "Info") 410), some (Value.builtin "object.__new__"), some (Value.bool true)]) ::
    (nat_lit 180, Obj.mk (Value.type "getset_descriptor") none (Data.fields #[Value.str (Str.ofString "__dict__") 455, Value.ref 179, Value.builtin "function.__dict__", Value.builtin "function.__dict__#set"]) #[]) ::
    (nat_lit 181, Obj.mk (Value.type "getset_descriptor") none (Data.fields #[Value.str (Str.ofString "__weakref__") 457, Value.ref 179, Value.builtin "ExceptionGroup.__weakref__", Value.none]) #[]) ::
    (nat_lit 191, Obj.mk (Value.type "tuple") none (Data.seq #[Value.bool false]) #[]) ::
    (nat_lit 192, Obj.mk (Value.type "tuple") none (Data.seq #[]) #[]) ::
    (nat_lit 194, Obj.mk (Value.type "tuple") none (Data.seq #[Value.str (Str.ofString "self") 477, Value.str (Str.ofString "infos") 478, Value.str (Str.ofString "is_backward") 479]) #[]) ::
    (nat_lit 195, Obj.mk (Value.type "tuple") none (Data.seq #[]) #[]) ::
    (nat_lit 197, Obj.mk (Value.type "code") none (Data.fields #[Value.str (Str.ofString "__init__") 474, Value.str (Str.ofString "Buffer.__init__") 475, Value.str (Str.ofString "/claim/cut.py") 476, Value.int 117 0, Value.int 3 0, Value.int 0 0, Value.int 0 0, Value.int 3 0, Value.ref 192, Value.bool true, Value.int 181 0, Value.ref 193, Value.none, Value.ref 194, Value.ref 195, Value.ref 196, Value.int 480 0, Value.int 117 0, Value.str (Str.ofString "/claim/cut.py") 481]) #[]) ::
    (nat_lit 198, (fun (o : Obj) (_ : o = Obj.mk (Value.type "function") none (Data.func (FuncData.mk (Str.ofString "__init__") (Str.ofString "Buffer.__init__") (fnAt (inCls (topAt 24)) 0).1 (FuncBody.stmts (fnAt (inCls (topAt 24)) 0).2.1) (fnAt (inCls (topAt 24)) 0).2.2 3 [] (Value.ref 191) Value.none Value.none (Value.str (Str.ofString "joinedhand.buffer") 400) none (Value.ref 197) Value.none 0)) #[]) => o) ?o198 ?h198) ::
    (nat_lit 199, Obj.mk (Value.type "tuple") none (Data.seq #[]) #[]) ::
    (nat_lit 202, Obj.mk (Value.type "code") none (Data.fields #[Value.str (Str.ofString "glyphs") 483, Value.str (Str.ofString "Buffer.glyphs") 484, Value.str (Str.ofString "/claim/cut.py") 485, Value.int 123 0, Value.int 1 0, Value.int 0 0, Value.int 0 0, Value.int 3 0, Value.ref 199, Value.bool true, Value.int 181 0, Value.ref 200, Value.none, Value.none, Value.none, Value.ref 201, Value.int 486 0, Value.int 123 0, Value.str (Str.ofString "/claim/cut.py") 487]) #[]) ::
    (nat_lit 203, (fun (o : Obj) (_ : o = Obj.mk (Value.type "function") none (Data.func (FuncData.mk (Str.ofString "glyphs") (Str.ofString "Buffer.glyphs") (fnAt (inCls (topAt 24)) 1).1 (FuncBody.stmts (fnAt (inCls (topAt 24)) 1).2.1) (fnAt (inCls (topAt 24)) 1).2.2 3 [] Value.none Value.none Value.none (Value.str (Str.ofString "joinedhand.buffer") 400) none (Value.ref 202) Value.none 0)) #[]) => o) ?o203 ?h203) ::
    (nat_lit 204, Obj.mk (Value.type "tuple") none (Data.seq #[]) #[]) ::
    (nat_lit 206, Obj.mk (Value.type "tuple") none (Data.seq #[Value.str (Str.ofString "self") 492]) #[]) ::
    (nat_lit 207, Obj.mk (Value.type "tuple") none (Data.seq #[]) #[]) ::
    (nat_lit 209, Obj.mk (Value.type "code") none (Data.fields #[Value.str (Str.ofString "clusters") 489, Value.str (Str.ofString "Buffer.clusters") 490, Value.str (Str.ofString "/claim/cut.py") 491, Value.int 126 0, Value.int 1 0, Value.int 0 0, Value.int 0 0, Value.int 3 0, Value.ref 204, Value.bool true, Value.int 181 0, Value.ref 205, Value.none, Value.ref 206, Value.ref 207, Value.ref 208, Value.int 493 0, Value.int 126 0, Value.str (Str.ofString "/claim/cut.py") 494]) #[]) ::
    (nat_lit 210, (fun (o : Obj) (_ : o = Obj.mk (Value.type "function") none (Data.func (FuncData.mk (Str.ofString "clusters") (Str.ofString "Buffer.clusters") (fnAt (inCls (topAt 24)) 2).1 (FuncBody.stmts (fnAt (inCls (topAt 24)) 2).2.1) (fnAt (inCls (topAt 24)) 2).2.2 3 [] Value.none Value.none Value.none (Value.str (Str.ofString "joinedhand.buffer") 400) none (Value.ref 209) Value.none 0)) #[]) => o) ?o210 ?h210) ::
    (nat_lit 211, Obj.mk (Value.type "tuple") none (Data.seq #[]) #[]) ::
    (nat_lit 214, Obj.mk (Value.type "code") none (Data.fields #[Value.str (Str.ofString "told") 496, Value.str (Str.ofString "Buffer.told") 497, Value.str (Str.ofString "/claim/cut.py") 498, Value.int 129 0, Value.int 1 0, Value.int 0 0, Value.int 0 0, Value.int 3 0, Value.ref 211, Value.bool true, Value.int 181 0, Value.ref 212, Value.none, Value.none, Value.none, Value.ref 213, Value.int 499 0, Value.int 129 0, Value.str (Str.ofString "/claim/cut.py") 500]) #[]) ::
    (nat_lit 215, (fun (o : Obj) (_ : o = Obj.mk (Value.type "function") none (Data.func (FuncData.mk (Str.ofString "told") (Str.ofString "Buffer.told") (fnAt (inCls (topAt 24)) 3).1 (FuncBody.stmts (fnAt (inCls (topAt 24)) 3).2.1) (fnAt (inCls (topAt 24)) 3).2.2 3 [] Value.none Value.none Value.none (Value.str (Str.ofString "joinedhand.buffer") 400) none (Value.ref 214) Value.none 0)) #[]) => o) ?o215 ?h215) ::
    (nat_lit 216, Obj.mk (Value.type "tuple") none (Data.seq #[]) #[]) ::
    (nat_lit 218, Obj.mk (Value.type "tuple") none (Data.seq #[Value.str (Str.ofString "self") 505]) #[]) ::
    (nat_lit 219, Obj.mk (Value.type "tuple") none (Data.seq #[]) #[]) ::
    (nat_lit 221, Obj.mk (Value.type "code") none (Data.fields #[Value.str (Str.ofString "next_lig") 502, Value.str (Str.ofString "Buffer.next_lig") 503, Value.str (Str.ofString "/claim/cut.py") 504, Value.int 132 0, Value.int 1 0, Value.int 0 0, Value.int 0 0, Value.int 3 0, Value.ref 216, Value.bool true, Value.int 181 0, Value.ref 217, Value.none, Value.ref 218, Value.ref 219, Value.ref 220, Value.int 506 0, Value.int 132 0, Value.str (Str.ofString "/claim/cut.py") 507]) #[]) ::
    (nat_lit 222, (fun (o : Obj) (_ : o = Obj.mk (Value.type "function") none (Data.func (FuncData.mk (Str.ofString "next_lig") (Str.ofString "Buffer.next_lig") (fnAt (inCls (topAt 24)) 4).1 (FuncBody.stmts (fnAt (inCls (topAt 24)) 4).2.1) (fnAt (inCls (topAt 24)) 4).2.2 3 [] Value.none Value.none Value.none (Value.str (Str.ofString "joinedhand.buffer") 400) none (Value.ref 221) Value.none 0)) #[]) => o) ?o222 ?h222) ::
    (nat_lit 223, Obj.mk (Value.type "tuple") none (Data.seq #[]) #[]) ::
    (nat_lit 225, Obj.mk (Value.type "tuple") none (Data.seq #[Value.str (Str.ofString "self") 512]) #[]) ::
    (nat_lit 226, Obj.mk (Value.type "tuple") none (Data.seq #[]) #[]) ::
    (nat_lit 228, Obj.mk (Value.type "code") none (Data.fields #[Value.str (Str.ofString "next_split") 509, Value.str (Str.ofString "Buffer.next_split") 510, Value.str (Str.ofString "/claim/cut.py") 511, Value.int 135 0, Value.int 1 0, Value.int 0 0, Value.int 0 0, Value.int 3 0, Value.ref 223, Value.bool true, Value.int 181 0, Value.ref 224, Value.none, Value.ref 225, Value.ref 226, Value.ref 227, Value.int 513 0, Value.int 135 0, Value.str (Str.ofString "/claim/cut.py") 514]) #[]) ::
    (nat_lit 229, (fun (o : Obj) (_ : o = Obj.mk (Value.type "function") none (Data.func (FuncData.mk (Str.ofString "next_split") (Str.ofString "Buffer.next_split") (fnAt (inCls (topAt 24)) 5).1 (FuncBody.stmts (fnAt (inCls (topAt 24)) 5).2.1) (fnAt (inCls (topAt 24)) 5).2.2 3 [] Value.none Value.none Value.none (Value.str (Str.ofString "joinedhand.buffer") 400) none (Value.ref 228) Value.none 0)) #[]) => o) ?o229 ?h229) ::
    (nat_lit 230, Obj.mk (Value.type "tuple") none (Data.seq #[Value.str (Str.ofString "is_backward") 516, Value.str (Str.ofString "last_lig") 517, Value.str (Str.ofString "last_split") 518, Value.str (Str.ofString "row") 519]) #[]) ::
    (nat_lit 231, Obj.mk (Value.type "dict") none (Data.dict #[DictEntry.mk (PyData.keyHash P (Str.ofString "__module__")) (Value.str (Str.ofString "__module__") 469) (Value.str (Str.ofString "joinedhand.buffer") 400), DictEntry.mk (PyData.keyHash P (Str.ofString "__firstlineno__")) (Value.str (Str.ofString "__firstlineno__") 473) (Value.int 115 472), DictEntry.mk (PyData.keyHash P (Str.ofString "__init__")) (Value.str (Str.ofString "__init__") 482) (Value.ref 198), DictEntry.mk (PyData.keyHash P (Str.ofString "glyphs")) (Value.str (Str.ofString "glyphs") 488) (Value.ref 203), DictEntry.mk (PyData.keyHash P (Str.ofString "clusters")) (Value.str (Str.ofString "clusters") 495) (Value.ref 210), DictEntry.mk (PyData.keyHash P (Str.ofString "told")) (Value.str (Str.ofString "told") 501) (Value.ref 215), DictEntry.mk (PyData.keyHash P (Str.ofString "next_lig")) (Value.str (Str.ofString "next_lig") 508) (Value.ref 222), DictEntry.mk (PyData.keyHash P (Str.ofString "next_split")) (Value.str (Str.ofString "next_split") 515) (Value.ref 229), DictEntry.mk (PyData.keyHash P (Str.ofString "__static_attributes__")) (Value.str (Str.ofString "__static_attributes__") 520) (Value.ref 230), DictEntry.mk (PyData.keyHash P (Str.ofString "__dict__")) (Value.str (Str.ofString "__dict__") 522) (Value.ref 233), DictEntry.mk (PyData.keyHash P (Str.ofString "__weakref__")) (Value.str (Str.ofString "__weakref__") 524) (Value.ref 234), DictEntry.mk (PyData.keyHash P (Str.ofString "__doc__")) (Value.str (Str.ofString "__doc__") 525) Value.none] 4) #[]) ::
    (nat_lit 232, Obj.mk (Value.type "type") none (Data.cls (ClassData.mk (Str.ofString "Buffer") [Value.type "object"] [Value.ref 232, Value.type "object"] 231 (Str.ofString "Buffer") true [] [] false none false)) #[none, none, some (Value.str (Str.ofString "Buffer") 462), some (Value.str (Str.ofString "Buffer") 470), some (Value.builtin "object.__new__"), some (Value.bool true)]) ::
    (nat_lit 233, Obj.mk (Value.type "getset_descriptor") none (Data.fields #[Value.str (Str.ofString "__dict__") 521, Value.ref 232, Value.builtin "function.__dict__", Value.builtin "function.__dict__#set"]) #[]) ::
    (nat_lit 234, Obj.mk (Value.type "getset_descriptor") none (Data.fields #[Value.str (Str.ofString "__weakref__") 523, Value.ref 232, Value.builtin "ExceptionGroup.__weakref__", Value.none]) #[]) ::
    (nat_lit 244, Obj.mk (Value.type "tuple") none (Data.seq #[]) #[]) ::
    (nat_lit 246, Obj.mk (Value.type "tuple") none (Data.seq #[Value.str (Str.ofString "self") 545, Value.str (Str.ofString "classes") 546]) #[]) ::
    (nat_lit 247, Obj.mk (Value.type "tuple") none (Data.seq #[]) #[]) ::
    (nat_lit 249, Obj.mk (Value.type "code") none (Data.fields #[Value.str (Str.ofString "__init__") 542, Value.str (Str.ofString "ClassDef.__init__") 543, Value.str (Str.ofString "/claim/cut.py") 544, Value.int 140 0, Value.int 2 0, Value.int 0 0, Value.int 0 0, Value.int 3 0, Value.ref 244, Value.bool true, Value.int 181 0, Value.ref 245, Value.none, Value.ref 246, Value.ref 247, Value.ref 248, Value.int 547 0, Value.int 140 0, Value.str (Str.ofString "/claim/cut.py") 548]) #[]) ::
    (nat_lit 250, (fun (o : Obj) (_ : o = Obj.mk (Value.type "function") none (Data.func (FuncData.mk (Str.ofString "__init__") (Str.ofString "ClassDef.__init__") (fnAt (inCls (topAt 26)) 0).1 (FuncBody.stmts (fnAt (inCls (topAt 26)) 0).2.1) (fnAt (inCls (topAt 26)) 0).2.2 3 [] Value.none Value.none Value.none (Value.str (Str.ofString "joinedhand.classdefs") 528) none (Value.ref 249) Value.none 0)) #[]) => o) ?o250 ?h250) ::
    (nat_lit 251, Obj.mk (Value.type "tuple") none (Data.seq #[]) #[]) ::
    (nat_lit 253, Obj.mk (Value.type "tuple") none (Data.seq #[Value.str (Str.ofString "self") 553, Value.str (Str.ofString "glyph") 554]) #[]) ::
    (nat_lit 254, Obj.mk (Value.type "tuple") none (Data.seq #[]) #[]) ::
    (nat_lit 256, Obj.mk (Value.type "code") none (Data.fields #[Value.str (Str.ofString "class_of") 550, Value.str (Str.ofString "ClassDef.class_of") 551, Value.str (Str.ofString "/claim/cut.py") 552, Value.int 143 0, Value.int 2 0, Value.int 0 0, Value.int 0 0, Value.int 3 0, Value.ref 251, Value.bool true, Value.int 181 0, Value.ref 252, Value.none, Value.ref 253, Value.ref 254, Value.ref 255, Value.int 555 0, Value.int 143 0, Value.str (Str.ofString "/claim/cut.py") 556]) #[]) ::
    (nat_lit 257, (fun (o : Obj) (_ : o = Obj.mk (Value.type "function") none (Data.func (FuncData.mk (Str.ofString "class_of") (Str.ofString "ClassDef.class_of") (fnAt (inCls (topAt 26)) 1).1 (FuncBody.stmts (fnAt (inCls (topAt 26)) 1).2.1) (fnAt (inCls (topAt 26)) 1).2.2 3 [] Value.none Value.none Value.none (Value.str (Str.ofString "joinedhand.classdefs") 528) none (Value.ref 256) Value.none 0)) #[]) => o) ?o257 ?h257) ::
    (nat_lit 258, Obj.mk (Value.type "tuple") none (Data.seq #[]) #[]) ::
    (nat_lit 260, Obj.mk (Value.type "tuple") none (Data.seq #[Value.str (Str.ofString "self") 561, Value.str (Str.ofString "number") 562]) #[]) ::
    (nat_lit 261, Obj.mk (Value.type "tuple") none (Data.seq #[]) #[]) ::
    (nat_lit 263, Obj.mk (Value.type "code") none (Data.fields #[Value.str (Str.ofString "glyphs_of") 558, Value.str (Str.ofString "ClassDef.glyphs_of") 559, Value.str (Str.ofString "/claim/cut.py") 560, Value.int 146 0, Value.int 2 0, Value.int 0 0, Value.int 0 0, Value.int 3 0, Value.ref 258, Value.bool true, Value.int 181 0, Value.ref 259, Value.none, Value.ref 260, Value.ref 261, Value.ref 262, Value.int 563 0, Value.int 146 0, Value.str (Str.ofString "/claim/cut.py") 564]) #[]) ::
    (nat_lit 264, (fun (o : Obj) (_ : o = Obj.mk (Value.type "function") none (Data.func (FuncData.mk (Str.ofString "glyphs_of") (Str.ofString "ClassDef.glyphs_of") (fnAt (inCls (topAt 26)) 2).1 (FuncBody.stmts (fnAt (inCls (topAt 26)) 2).2.1) (fnAt (inCls (topAt 26)) 2).2.2 3 [] Value.none Value.none Value.none (Value.str (Str.ofString "joinedhand.classdefs") 528) none (Value.ref 263) Value.none 0)) #[]) => o) ?o264 ?h264) ::
    (nat_lit 265, Obj.mk (Value.type "tuple") none (Data.seq #[]) #[]) ::
    (nat_lit 267, Obj.mk (Value.type "tuple") none (Data.seq #[Value.str (Str.ofString "self") 569, Value.str (Str.ofString "most") 570, Value.str (Str.ofString "glyph") 571]) #[]) ::
    (nat_lit 268, Obj.mk (Value.type "tuple") none (Data.seq #[]) #[]) ::
    (nat_lit 270, Obj.mk (Value.type "code") none (Data.fields #[Value.str (Str.ofString "count") 566, Value.str (Str.ofString "ClassDef.count") 567, Value.str (Str.ofString "/claim/cut.py") 568, Value.int 149 0, Value.int 1 0, Value.int 0 0, Value.int 0 0, Value.int 3 0, Value.ref 265, Value.bool true, Value.int 181 0, Value.ref 266, Value.none, Value.ref 267, Value.ref 268, Value.ref 269, Value.int 572 0, Value.int 149 0, Value.str (Str.ofString "/claim/cut.py") 573]) #[]) ::
    (nat_lit 271, (fun (o : Obj) (_ : o = Obj.mk (Value.type "function") none (Data.func (FuncData.mk (Str.ofString "count") (Str.ofString "ClassDef.count") (fnAt (inCls (topAt 26)) 3).1 (FuncBody.stmts (fnAt (inCls (topAt 26)) 3).2.1) (fnAt (inCls (topAt 26)) 3).2.2 3 [] Value.none Value.none Value.none (Value.str (Str.ofString "joinedhand.classdefs") 528) none (Value.ref 270) Value.none 0)) #[]) => o) ?o271 ?h271) ::
    (nat_lit 272, Obj.mk (Value.type "tuple") none (Data.seq #[]) #[]) ::
    (nat_lit 275, Obj.mk (Value.type "code") none (Data.fields #[Value.str (Str.ofString "told") 575, Value.str (Str.ofString "ClassDef.told") 576, Value.str (Str.ofString "/claim/cut.py") 577, Value.int 155 0, Value.int 1 0, Value.int 0 0, Value.int 0 0, Value.int 3 0, Value.ref 272, Value.bool true, Value.int 181 0, Value.ref 273, Value.none, Value.none, Value.none, Value.ref 274, Value.int 578 0, Value.int 155 0, Value.str (Str.ofString "/claim/cut.py") 579]) #[]) ::
    (nat_lit 276, (fun (o : Obj) (_ : o = Obj.mk (Value.type "function") none (Data.func (FuncData.mk (Str.ofString "told") (Str.ofString "ClassDef.told") (fnAt (inCls (topAt 26)) 4).1 (FuncBody.stmts (fnAt (inCls (topAt 26)) 4).2.1) (fnAt (inCls (topAt 26)) 4).2.2 3 [] Value.none Value.none Value.none (Value.str (Str.ofString "joinedhand.classdefs") 528) none (Value.ref 275) Value.none 0)) #[]) => o) ?o276 ?h276) ::
    (nat_lit 277, Obj.mk (Value.type "tuple") none (Data.seq #[Value.str (Str.ofString "classes") 581]) #[]) ::
    (nat_lit 278, Obj.mk (Value.type "dict") none (Data.dict #[DictEntry.mk (PyData.keyHash P (Str.ofString "__module__")) (Value.str (Str.ofString "__module__") 537) (Value.str (Str.ofString "joinedhand.classdefs") 528), DictEntry.mk (PyData.keyHash P (Str.ofString "__firstlineno__")) (Value.str (Str.ofString "__firstlineno__") 541) (Value.int 138 540), DictEntry.mk (PyData.keyHash P (Str.ofString "__init__")) (Value.str (Str.ofString "__init__") 549) (Value.ref 250), DictEntry.mk (PyData.keyHash P (Str.ofString "class_of")) (Value.str (Str.ofString "class_of") 557) (Value.ref 257), DictEntry.mk (PyData.keyHash P (Str.ofString "glyphs_of")) (Value.str (Str.ofString "glyphs_of") 565) (Value.ref 264), DictEntry.mk (PyData.keyHash P (Str.ofString "count")) (Value.str (Str.ofString "count") 574) (Value.ref 271), DictEntry.mk (PyData.keyHash P (Str.ofString "told")) (Value.str (Str.ofString "told") 580) (Value.ref 276), DictEntry.mk (PyData.keyHash P (Str.ofString "__static_attributes__")) (Value.str (Str.ofString "__static_attributes__") 582) (Value.ref 277), DictEntry.mk (PyData.keyHash P (Str.ofString "__dict__")) (Value.str (Str.ofString "__dict__") 584) (Value.ref 280), DictEntry.mk (PyData.keyHash P (Str.ofString "__weakref__")) (Value.str (Str.ofString "__weakref__") 586) (Value.ref 281), DictEntry.mk (PyData.keyHash P (Str.ofString "__doc__")) (Value.str (Str.ofString "__doc__") 587) Value.none] 4) #[]) ::
    (nat_lit 279, Obj.mk (Value.type "type") none (Data.cls (ClassData.mk (Str.ofString "ClassDef") [Value.type "object"] [Value.ref 279, Value.type "object"] 278 (Str.ofString "ClassDef") true [] [] false none false)) #[none, none, some (Value.str (Str.ofString "ClassDef") 530), some (Value.str (Str.ofString "ClassDef") 538), some (Value.builtin "object.__new__"), some (Value.bool true)]) ::
    (nat_lit 280, Obj.mk (Value.type "getset_descriptor") none (Data.fields #[Value.str (Str.ofString "__dict__") 583, Value.ref 279, Value.builtin "function.__dict__", Value.builtin "function.__dict__#set"]) #[]) ::
    (nat_lit 281, Obj.mk (Value.type "getset_descriptor") none (Data.fields #[Value.str (Str.ofString "__weakref__") 585, Value.ref 279, Value.builtin "ExceptionGroup.__weakref__", Value.none]) #[]) ::
    (nat_lit 291, Obj.mk (Value.type "tuple") none (Data.seq #[]) #[]) ::
    (nat_lit 293, Obj.mk (Value.type "tuple") none (Data.seq #[Value.str (Str.ofString "self") 607, Value.str (Str.ofString "glyphs") 608]) #[]) ::
    (nat_lit 294, Obj.mk (Value.type "tuple") none (Data.seq #[]) #[]) ::
    (nat_lit 296, Obj.mk (Value.type "code") none (Data.fields #[Value.str (Str.ofString "__init__") 604, Value.str (Str.ofString "Coverage.__init__") 605, Value.str (Str.ofString "/claim/cut.py") 606, Value.int 160 0, Value.int 2 0, Value.int 0 0, Value.int 0 0, Value.int 3 0, Value.ref 291, Value.bool true, Value.int 181 0, Value.ref 292, Value.none, Value.ref 293, Value.ref 294, Value.ref 295, Value.int 609 0, Value.int 160 0, Value.str (Str.ofString "/claim/cut.py") 610]) #[]) ::
    (nat_lit 297, (fun (o : Obj) (_ : o = Obj.mk (Value.type "function") none (Data.func (FuncData.mk (Str.ofString "__init__") (Str.ofString "Coverage.__init__") (fnAt (inCls (topAt 28)) 0).1 (FuncBody.stmts (fnAt (inCls (topAt 28)) 0).2.1) (fnAt (inCls (topAt 28)) 0).2.2 3 [] Value.none Value.none Value.none (Value.str (Str.ofString "joinedhand.coverage") 590) none (Value.ref 296) Value.none 0)) #[]) => o) ?o297 ?h297) ::
    (nat_lit 298, Obj.mk (Value.type "tuple") none (Data.seq #[]) #[]) ::
    (nat_lit 300, Obj.mk (Value.type "tuple") none (Data.seq #[Value.str (Str.ofString "self") 615, Value.str (Str.ofString "glyph") 616, Value.str (Str.ofString "low") 617, Value.str (Str.ofString "high") 618, Value.str (Str.ofString "middle") 619]) #[]) ::
    (nat_lit 301, Obj.mk (Value.type "tuple") none (Data.seq #[]) #[]) ::
    (nat_lit 303, Obj.mk (Value.type "code") none (Data.fields #[Value.str (Str.ofString "index") 612, Value.str (Str.ofString "Coverage.index") 613, Value.str (Str.ofString "/claim/cut.py") 614, Value.int 163 0, Value.int 2 0, Value.int 0 0, Value.int 0 0, Value.int 3 0, Value.ref 298, Value.bool true, Value.int 181 0, Value.ref 299, Value.none, Value.ref 300, Value.ref 301, Value.ref 302, Value.int 620 0, Value.int 163 0, Value.str (Str.ofString "/claim/cut.py") 621]) #[]) ::
    (nat_lit 304, (fun (o : Obj) (_ : o = Obj.mk (Value.type "function") none (Data.func (FuncData.mk (Str.ofString "index") (Str.ofString "Coverage.index") (fnAt (inCls (topAt 28)) 1).1 (FuncBody.stmts (fnAt (inCls (topAt 28)) 1).2.1) (fnAt (inCls (topAt 28)) 1).2.2 3 [] Value.none Value.none Value.none (Value.str (Str.ofString "joinedhand.coverage") 590) none (Value.ref 303) Value.none 0)) #[]) => o) ?o304 ?h304) ::
    (nat_lit 305, Obj.mk (Value.type "tuple") none (Data.seq #[]) #[]) ::
    (nat_lit 307, Obj.mk (Value.type "tuple") none (Data.seq #[Value.str (Str.ofString "self") 626, Value.str (Str.ofString "glyph") 627]) #[]) ::
    (nat_lit 308, Obj.mk (Value.type "tuple") none (Data.seq #[]) #[]) ::
    (nat_lit 310, Obj.mk (Value.type "code") none (Data.fields #[Value.str (Str.ofString "has") 623, Value.str (Str.ofString "Coverage.has") 624, Value.str (Str.ofString "/claim/cut.py") 625, Value.int 176 0, Value.int 2 0, Value.int 0 0, Value.int 0 0, Value.int 3 0, Value.ref 305, Value.bool true, Value.int 181 0, Value.ref 306, Value.none, Value.ref 307, Value.ref 308, Value.ref 309, Value.int 628 0, Value.int 176 0, Value.str (Str.ofString "/claim/cut.py") 629]) #[]) ::
    (nat_lit 311, (fun (o : Obj) (_ : o = Obj.mk (Value.type "function") none (Data.func (FuncData.mk (Str.ofString "has") (Str.ofString "Coverage.has") (fnAt (inCls (topAt 28)) 2).1 (FuncBody.stmts (fnAt (inCls (topAt 28)) 2).2.1) (fnAt (inCls (topAt 28)) 2).2.2 3 [] Value.none Value.none Value.none (Value.str (Str.ofString "joinedhand.coverage") 590) none (Value.ref 310) Value.none 0)) #[]) => o) ?o311 ?h311) ::
    (nat_lit 312, Obj.mk (Value.type "tuple") none (Data.seq #[]) #[]) ::
    (nat_lit 314, Obj.mk (Value.type "tuple") none (Data.seq #[Value.str (Str.ofString "self") 634]) #[]) ::
    (nat_lit 315, Obj.mk (Value.type "tuple") none (Data.seq #[]) #[]) ::
    (nat_lit 317, Obj.mk (Value.type "code") none (Data.fields #[Value.str (Str.ofString "told") 631, Value.str (Str.ofString "Coverage.told") 632, Value.str (Str.ofString "/claim/cut.py") 633, Value.int 179 0, Value.int 1 0, Value.int 0 0, Value.int 0 0, Value.int 3 0, Value.ref 312, Value.bool true, Value.int 181 0, Value.ref 313, Value.none, Value.ref 314, Value.ref 315, Value.ref 316, Value.int 635 0, Value.int 179 0, Value.str (Str.ofString "/claim/cut.py") 636]) #[]) ::
    (nat_lit 318, (fun (o : Obj) (_ : o = Obj.mk (Value.type "function") none (Data.func (FuncData.mk (Str.ofString "told") (Str.ofString "Coverage.told") (fnAt (inCls (topAt 28)) 3).1 (FuncBody.stmts (fnAt (inCls (topAt 28)) 3).2.1) (fnAt (inCls (topAt 28)) 3).2.2 3 [] Value.none Value.none Value.none (Value.str (Str.ofString "joinedhand.coverage") 590) none (Value.ref 317) Value.none 0)) #[]) => o) ?o318 ?h318) ::
    (nat_lit 319, Obj.mk (Value.type "tuple") none (Data.seq #[Value.str (Str.ofString "glyphs") 638]) #[]) ::
    (nat_lit 320, Obj.mk (Value.type "dict") none (Data.dict #[DictEntry.mk (PyData.keyHash P (Str.ofString "__module__")) (Value.str (Str.ofString "__module__") 599) (Value.str (Str.ofString "joinedhand.coverage") 590), DictEntry.mk (PyData.keyHash P (Str.ofString "__firstlineno__")) (Value.str (Str.ofString "__firstlineno__") 603) (Value.int 158 602), DictEntry.mk (PyData.keyHash P (Str.ofString "__init__")) (Value.str (Str.ofString "__init__") 611) (Value.ref 297), DictEntry.mk (PyData.keyHash P (Str.ofString "index")) (Value.str (Str.ofString "index") 622) (Value.ref 304), DictEntry.mk (PyData.keyHash P (Str.ofString "has")) (Value.str (Str.ofString "has") 630) (Value.ref 311), DictEntry.mk (PyData.keyHash P (Str.ofString "told")) (Value.str (Str.ofString "told") 637) (Value.ref 318), DictEntry.mk (PyData.keyHash P (Str.ofString "__static_attributes__")) (Value.str (Str.ofString "__static_attributes__") 639) (Value.ref 319), DictEntry.mk (PyData.keyHash P (Str.ofString "__dict__")) (Value.str (Str.ofString "__dict__") 641) (Value.ref 322), DictEntry.mk (PyData.keyHash P (Str.ofString "__weakref__")) (Value.str (Str.ofString "__weakref__") 643) (Value.ref 323), DictEntry.mk (PyData.keyHash P (Str.ofString "__doc__")) (Value.str (Str.ofString "__doc__") 644) Value.none] 4) #[]) ::
    (nat_lit 321, Obj.mk (Value.type "type") none (Data.cls (ClassData.mk (Str.ofString "Coverage") [Value.type "object"] [Value.ref 321, Value.type "object"] 320 (Str.ofString "Coverage") true [] [] false none false)) #[none, none, some (Value.str (Str.ofString "Coverage") 592), some (Value.str (Str.ofString "Coverage") 600), some (Value.builtin "object.__new__"), some (Value.bool true)]) ::
    (nat_lit 322, Obj.mk (Value.type "getset_descriptor") none (Data.fields #[Value.str (Str.ofString "__dict__") 640, Value.ref 321, Value.builtin "function.__dict__", Value.builtin "function.__dict__#set"]) #[]) ::
    (nat_lit 323, Obj.mk (Value.type "getset_descriptor") none (Data.fields #[Value.str (Str.ofString "__weakref__") 642, Value.ref 321, Value.builtin "ExceptionGroup.__weakref__", Value.none]) #[]) ::
    (nat_lit 326, Obj.mk (Value.type "tuple") none (Data.seq #[]) #[]) ::
    (nat_lit 328, Obj.mk (Value.type "tuple") none (Data.seq #[Value.str (Str.ofString "glyphs") 650, Value.str (Str.ofString "found") 651, Value.str (Str.ofString "glyph") 652]) #[]) ::
    (nat_lit 329, Obj.mk (Value.type "tuple") none (Data.seq #[]) #[]) ::
    (nat_lit 331, Obj.mk (Value.type "code") none (Data.fields #[Value.str (Str.ofString "coverage_of") 647, Value.str (Str.ofString "coverage_of") 648, Value.str (Str.ofString "/claim/cut.py") 649, Value.int 181 0, Value.int 1 0, Value.int 0 0, Value.int 0 0, Value.int 3 0, Value.ref 326, Value.bool true, Value.int 181 0, Value.ref 327, Value.none, Value.ref 328, Value.ref 329, Value.ref 330, Value.int 653 0, Value.int 181 0, Value.str (Str.ofString "/claim/cut.py") 654]) #[]) ::
    (nat_lit 332, (fun (o : Obj) (_ : o = Obj.mk (Value.type "function") none (Data.func (FuncData.mk (Str.ofString "coverage_of") (Str.ofString "coverage_of") (fnTop (topAt 29)).1 (FuncBody.stmts (fnTop (topAt 29)).2.1) (fnTop (topAt 29)).2.2 3 [] Value.none Value.none Value.none (Value.str (Str.ofString "joinedhand.coverage") 590) none (Value.ref 331) Value.none 0)) #[]) => o) ?o332 ?h332) ::
    (nat_lit 340, Obj.mk (Value.type "tuple") none (Data.seq #[Value.none, Value.none]) #[]) ::
    (nat_lit 341, Obj.mk (Value.type "tuple") none (Data.seq #[]) #[]) ::
    (nat_lit 343, Obj.mk (Value.type "tuple") none (Data.seq #[Value.str (Str.ofString "self") 679, Value.str (Str.ofString "classes") 680, Value.str (Str.ofString "attach") 681, Value.str (Str.ofString "sets") 682, Value.str (Str.ofString "points") 683, Value.str (Str.ofString "carets") 684]) #[]) ::
    (nat_lit 344, Obj.mk (Value.type "tuple") none (Data.seq #[]) #[]) ::
    (nat_lit 346, Obj.mk (Value.type "code") none (Data.fields #[Value.str (Str.ofString "__init__") 676, Value.str (Str.ofString "Gdef.__init__") 677, Value.str (Str.ofString "/claim/cut.py") 678, Value.int 192 0, Value.int 6 0, Value.int 0 0, Value.int 0 0, Value.int 3 0, Value.ref 341, Value.bool true, Value.int 181 0, Value.ref 342, Value.none, Value.ref 343, Value.ref 344, Value.ref 345, Value.int 685 0, Value.int 192 0, Value.str (Str.ofString "/claim/cut.py") 686]) #[]) ::
    (nat_lit 347, (fun (o : Obj) (_ : o = Obj.mk (Value.type "function") none (Data.func (FuncData.mk (Str.ofString "__init__") (Str.ofString "Gdef.__init__") (fnAt (inCls (topAt 34)) 0).1 (FuncBody.stmts (fnAt (inCls (topAt 34)) 0).2.1) (fnAt (inCls (topAt 34)) 0).2.2 3 [] (Value.ref 340) Value.none Value.none (Value.str (Str.ofString "joinedhand.gdef") 656) none (Value.ref 346) Value.none 0)) #[]) => o) ?o347 ?h347) ::
    (nat_lit 348, Obj.mk (Value.type "tuple") none (Data.seq #[]) #[]) ::
    (nat_lit 350, Obj.mk (Value.type "tuple") none (Data.seq #[Value.str (Str.ofString "self") 691, Value.str (Str.ofString "glyph") 692, Value.str (Str.ofString "number") 693]) #[]) ::
    (nat_lit 351, Obj.mk (Value.type "tuple") none (Data.seq #[]) #[]) ::
    (nat_lit 353, Obj.mk (Value.type "code") none (Data.fields #[Value.str (Str.ofString "glyph_class") 688, Value.str (Str.ofString "Gdef.glyph_class") 689, Value.str (Str.ofString "/claim/cut.py") 690, Value.int 199 0, Value.int 2 0, Value.int 0 0, Value.int 0 0, Value.int 3 0, Value.ref 348, Value.bool true, Value.int 181 0, Value.ref 349, Value.none, Value.ref 350, Value.ref 351, Value.ref 352, Value.int 694 0, Value.int 199 0, Value.str (Str.ofString "/claim/cut.py") 695]) #[]) ::
    (nat_lit 354, (fun (o : Obj) (_ : o = Obj.mk (Value.type "function") none (Data.func (FuncData.mk (Str.ofString "glyph_class") (Str.ofString "Gdef.glyph_class") (fnAt (inCls (topAt 34)) 1).1 (FuncBody.stmts (fnAt (inCls (topAt 34)) 1).2.1) (fnAt (inCls (topAt 34)) 1).2.2 3 [] Value.none Value.none Value.none (Value.str (Str.ofString "joinedhand.gdef") 656) none (Value.ref 353) Value.none 0)) #[]) => o) ?o354 ?h354) ::
    (nat_lit 355, Obj.mk (Value.type "tuple") none (Data.seq #[]) #[]) ::
    (nat_lit 357, Obj.mk (Value.type "tuple") none (Data.seq #[Value.str (Str.ofString "self") 700, Value.str (Str.ofString "glyph") 701]) #[]) ::
    (nat_lit 358, Obj.mk (Value.type "tuple") none (Data.seq #[]) #[]) ::
    (nat_lit 360, Obj.mk (Value.type "code") none (Data.fields #[Value.str (Str.ofString "attach_class") 697, Value.str (Str.ofString "Gdef.attach_class") 698, Value.str (Str.ofString "/claim/cut.py") 699, Value.int 203 0, Value.int 2 0, Value.int 0 0, Value.int 0 0, Value.int 3 0, Value.ref 355, Value.bool true, Value.int 181 0, Value.ref 356, Value.none, Value.ref 357, Value.ref 358, Value.ref 359, Value.int 702 0, Value.int 203 0, Value.str (Str.ofString "/claim/cut.py") 703]) #[]) ::
    (nat_lit 361, (fun (o : Obj) (_ : o = Obj.mk (Value.type "function") none (Data.func (FuncData.mk (Str.ofString "attach_class") (Str.ofString "Gdef.attach_class") (fnAt (inCls (topAt 34)) 2).1 (FuncBody.stmts (fnAt (inCls (topAt 34)) 2).2.1) (fnAt (inCls (topAt 34)) 2).2.2 3 [] Value.none Value.none Value.none (Value.str (Str.ofString "joinedhand.gdef") 656) none (Value.ref 360) Value.none 0)) #[]) => o) ?o361 ?h361) ::
    (nat_lit 362, Obj.mk (Value.type "tuple") none (Data.seq #[]) #[]) ::
    (nat_lit 364, Obj.mk (Value.type "tuple") none (Data.seq #[Value.str (Str.ofString "self") 708, Value.str (Str.ofString "number") 709, Value.str (Str.ofString "glyph") 710]) #[]) ::
    (nat_lit 365, Obj.mk (Value.type "tuple") none (Data.seq #[]) #[]) ::
    (nat_lit 367, Obj.mk (Value.type "code") none (Data.fields #[Value.str (Str.ofString "is_in_set") 705, Value.str (Str.ofString "Gdef.is_in_set") 706, Value.str (Str.ofString "/claim/cut.py") 707, Value.int 206 0, Value.int 3 0, Value.int 0 0, Value.int 0 0, Value.int 3 0, Value.ref 362, Value.bool true, Value.int 181 0, Value.ref 363, Value.none, Value.ref 364, Value.ref 365, Value.ref 366, Value.int 711 0, Value.int 206 0, Value.str (Str.ofString "/claim/cut.py") 712]) #[]) ::
    (nat_lit 368, (fun (o : Obj) (_ : o = Obj.mk (Value.type "function") none (Data.func (FuncData.mk (Str.ofString "is_in_set") (Str.ofString "Gdef.is_in_set") (fnAt (inCls (topAt 34)) 3).1 (FuncBody.stmts (fnAt (inCls (topAt 34)) 3).2.1) (fnAt (inCls (topAt 34)) 3).2.2 3 [] Value.none Value.none Value.none (Value.str (Str.ofString "joinedhand.gdef") 656) none (Value.ref 367) Value.none 0)) #[]) => o) ?o368 ?h368) ::
    (nat_lit 369, Obj.mk (Value.type "tuple") none (Data.seq #[]) #[]) ::
    (nat_lit 372, Obj.mk (Value.type "code") none (Data.fields #[Value.str (Str.ofString "told") 714, Value.str (Str.ofString "Gdef.told") 715, Value.str (Str.ofString "/claim/cut.py") 716, Value.int 209 0, Value.int 1 0, Value.int 0 0, Value.int 0 0, Value.int 3 0, Value.ref 369, Value.bool true, Value.int 181 0, Value.ref 370, Value.none, Value.none, Value.none, Value.ref 371, Value.int 717 0, Value.int 209 0, Value.str (Str.ofString "/claim/cut.py") 718]) #[]) ::
    (nat_lit 373, (fun (o : Obj) (_ : o = Obj.mk (Value.type "function") none (Data.func (FuncData.mk (Str.ofString "told") (Str.ofString "Gdef.told") (fnAt (inCls (topAt 34)) 4).1 (FuncBody.stmts (fnAt (inCls (topAt 34)) 4).2.1) (fnAt (inCls (topAt 34)) 4).2.2 3 [] Value.none Value.none Value.none (Value.str (Str.ofString "joinedhand.gdef") 656) none (Value.ref 372) Value.none 0)) #[]) => o) ?o373 ?h373) ::
    (nat_lit 374, Obj.mk (Value.type "tuple") none (Data.seq #[Value.str (Str.ofString "attach") 720, Value.str (Str.ofString "carets") 721, Value.str (Str.ofString "classes") 722, Value.str (Str.ofString "points") 723, Value.str (Str.ofString "sets") 724]) #[]) ::
    (nat_lit 375, Obj.mk (Value.type "dict") none (Data.dict #[DictEntry.mk (PyData.keyHash P (Str.ofString "__module__")) (Value.str (Str.ofString "__module__") 671) (Value.str (Str.ofString "joinedhand.gdef") 656), DictEntry.mk (PyData.keyHash P (Str.ofString "__firstlineno__")) (Value.str (Str.ofString "__firstlineno__") 675) (Value.int 190 674), DictEntry.mk (PyData.keyHash P (Str.ofString "__init__")) (Value.str (Str.ofString "__init__") 687) (Value.ref 347), DictEntry.mk (PyData.keyHash P (Str.ofString "glyph_class")) (Value.str (Str.ofString "glyph_class") 696) (Value.ref 354), DictEntry.mk (PyData.keyHash P (Str.ofString "attach_class")) (Value.str (Str.ofString "attach_class") 704) (Value.ref 361), DictEntry.mk (PyData.keyHash P (Str.ofString "is_in_set")) (Value.str (Str.ofString "is_in_set") 713) (Value.ref 368), DictEntry.mk (PyData.keyHash P (Str.ofString "told")) (Value.str (Str.ofString "told") 719) (Value.ref 373), DictEntry.mk (PyData.keyHash P (Str.ofString "__static_attributes__")) (Value.str (Str.ofString "__static_attributes__") 725) (Value.ref 374), DictEntry.mk (PyData.keyHash P (Str.ofString "__dict__")) (Value.str (Str.ofString "__dict__") 727) (Value.ref 377), DictEntry.mk (PyData.keyHash P (Str.ofString "__weakref__")) (Value.str (Str.ofString "__weakref__") 729) (Value.ref 378), DictEntry.mk (PyData.keyHash P (Str.ofString "__doc__")) (Value.str (Str.ofString "__doc__") 730) Value.none] 4) #[]) ::
    (nat_lit 376, Obj.mk (Value.type "type") none (Data.cls (ClassData.mk (Str.ofString "Gdef") [Value.type "object"] [Value.ref 376, Value.type "object"] 375 (Str.ofString "Gdef") true [] [] false none false)) #[none, none, some (Value.str (Str.ofString "Gdef") 664), some (Value.str (Str.ofString "Gdef") 672), some (Value.builtin "object.__new__"), some (Value.bool true)]) ::
    (nat_lit 377, Obj.mk (Value.type "getset_descriptor") none (Data.fields #[Value.str (Str.ofString "__dict__") 726, Value.ref 376, Value.builtin "function.__dict__", Value.builtin "function.__dict__#set"]) #[]) ::
    (nat_lit 378, Obj.mk (Value.type "getset_descriptor") none (Data.fields #[Value.str (Str.ofString "__weakref__") 728, Value.ref 376, Value.builtin "ExceptionGroup.__weakref__", Value.none]) #[]) ::
    (nat_lit 381, Obj.mk (Value.type "tuple") none (Data.seq #[]) #[]) ::
    (nat_lit 383, Obj.mk (Value.type "tuple") none (Data.seq #[Value.str (Str.ofString "pool") 738, Value.str (Str.ofString "many") 739, Value.str (Str.ofString "digit") 740]) #[]) ::
    (nat_lit 384, Obj.mk (Value.type "tuple") none (Data.seq #[]) #[]) ::
    (nat_lit 386, Obj.mk (Value.type "code") none (Data.fields #[Value.str (Str.ofString "_law_take") 735, Value.str (Str.ofString "_law_take") 736, Value.str (Str.ofString "/claim/cut.py") 737, Value.int 214 0, Value.int 2 0, Value.int 0 0, Value.int 0 0, Value.int 3 0, Value.ref 381, Value.bool true, Value.int 181 0, Value.ref 382, Value.none, Value.ref 383, Value.ref 384, Value.ref 385, Value.int 741 0, Value.int 214 0, Value.str (Str.ofString "/claim/cut.py") 742]) #[]) ::
    (nat_lit 387, (fun (o : Obj) (_ : o = Obj.mk (Value.type "function") none (Data.func (FuncData.mk (Str.ofString "_law_take") (Str.ofString "_law_take") (fnTop (topAt 36)).1 (FuncBody.stmts (fnTop (topAt 36)).2.1) (fnTop (topAt 36)).2.2 3 [] Value.none Value.none Value.none (Value.str (Str.ofString "law_pb0192_01") 733) none (Value.ref 386) Value.none 0)) #[]) => o) ?o387 ?h387) ::
    (nat_lit 388, Obj.mk (Value.type "tuple") none (Data.seq #[]) #[]) ::
    (nat_lit 391, Obj.mk (Value.type "code") none (Data.fields #[Value.str (Str.ofString "_law_spelled") 744, Value.str (Str.ofString "_law_spelled") 745, Value.str (Str.ofString "/claim/cut.py") 746, Value.int 222 0, Value.int 1 0, Value.int 0 0, Value.int 0 0, Value.int 3 0, Value.ref 388, Value.bool true, Value.int 181 0, Value.ref 389, Value.none, Value.none, Value.none, Value.ref 390, Value.int 747 0, Value.int 222 0, Value.str (Str.ofString "/claim/cut.py") 748]) #[]) ::
    (nat_lit 392, (fun (o : Obj) (_ : o = Obj.mk (Value.type "function") none (Data.func (FuncData.mk (Str.ofString "_law_spelled") (Str.ofString "_law_spelled") (fnTop (topAt 37)).1 (FuncBody.stmts (fnTop (topAt 37)).2.1) (fnTop (topAt 37)).2.2 3 [] Value.none Value.none Value.none (Value.str (Str.ofString "law_pb0192_01") 733) none (Value.ref 391) Value.none 0)) #[]) => o) ?o392 ?h392) ::
    (nat_lit 393, Obj.mk (Value.type "tuple") none (Data.seq #[]) #[]) ::
    (nat_lit 396, Obj.mk (Value.type "code") none (Data.fields #[Value.str (Str.ofString "law") 750, Value.str (Str.ofString "law") 751, Value.str (Str.ofString "/claim/cut.py") 752, Value.int 226 0, Value.int 1 0, Value.int 0 0, Value.int 0 0, Value.int 3 0, Value.ref 393, Value.bool true, Value.int 181 0, Value.ref 394, Value.none, Value.none, Value.none, Value.ref 395, Value.int 753 0, Value.int 226 0, Value.str (Str.ofString "/claim/cut.py") 754]) #[]) :: []
  case h21 =>
    dsimp only [fnAt, fnTop, inCls, topAt, PySem.Challenge.pw_pb0192_01, List.getD, List.getElem?_cons_succ, List.getElem?_cons_zero, Option.getD_some]
    first | done | exact rfl
  case h35 =>
    dsimp only [fnAt, fnTop, inCls, topAt, PySem.Challenge.pw_pb0192_01, List.getD, List.getElem?_cons_succ, List.getElem?_cons_zero, Option.getD_some]
    first | done | exact rfl
  case h40 =>
    dsimp only [fnAt, fnTop, inCls, topAt, PySem.Challenge.pw_pb0192_01, List.getD, List.getElem?_cons_succ, List.getElem?_cons_zero, Option.getD_some]
    first | done | exact rfl
  case h62 =>
    dsimp only [fnAt, fnTop, inCls, topAt, PySem.Challenge.pw_pb0192_01, List.getD, List.getElem?_cons_succ, List.getElem?_cons_zero, Option.getD_some]
    first | done | exact rfl
  case h76 =>
    dsimp only [fnAt, fnTop, inCls, topAt, PySem.Challenge.pw_pb0192_01, List.getD, List.getElem?_cons_succ, List.getElem?_cons_zero, Option.getD_some]
    first | done | exact rfl
  case h83 =>
    dsimp only [fnAt, fnTop, inCls, topAt, PySem.Challenge.pw_pb0192_01, List.getD, List.getElem?_cons_succ, List.getElem?_cons_zero, Option.getD_some]
    first | done | exact rfl
  case h90 =>
    dsimp only [fnAt, fnTop, inCls, topAt, PySem.Challenge.pw_pb0192_01, List.getD, List.getElem?_cons_succ, List.getElem?_cons_zero, Option.getD_some]
    first | done | exact rfl
  case h97 =>
    dsimp only [fnAt, fnTop, inCls, topAt, PySem.Challenge.pw_pb0192_01, List.getD, List.getElem?_cons_succ, List.getElem?_cons_zero, Option.getD_some]
    first | done | exact rfl
  case h106 =>
    dsimp only [fnAt, fnTop, inCls, topAt, PySem.Challenge.pw_pb0192_01, List.getD, List.getElem?_cons_succ, List.getElem?_cons_zero, Option.getD_some]
    first | done | exact rfl
  case h113 =>
    dsimp only [fnAt, fnTop, inCls, topAt, PySem.Challenge.pw_pb0192_01, List.getD, List.getElem?_cons_succ, List.getElem?_cons_zero, Option.getD_some]
    first | done | exact rfl
  case h120 =>
    dsimp only [fnAt, fnTop, inCls, topAt, PySem.Challenge.pw_pb0192_01, List.getD, List.getElem?_cons_succ, List.getElem?_cons_zero, Option.getD_some]
    first | done | exact rfl
  case h127 =>
    dsimp only [fnAt, fnTop, inCls, topAt, PySem.Challenge.pw_pb0192_01, List.getD, List.getElem?_cons_succ, List.getElem?_cons_zero, Option.getD_some]
    first | done | exact rfl
  case h134 =>
    dsimp only [fnAt, fnTop, inCls, topAt, PySem.Challenge.pw_pb0192_01, List.getD, List.getElem?_cons_succ, List.getElem?_cons_zero, Option.getD_some]
    first | done | exact rfl
  case h141 =>
    dsimp only [fnAt, fnTop, inCls, topAt, PySem.Challenge.pw_pb0192_01, List.getD, List.getElem?_cons_succ, List.getElem?_cons_zero, Option.getD_some]
    first | done | exact rfl
  case h148 =>
    dsimp only [fnAt, fnTop, inCls, topAt, PySem.Challenge.pw_pb0192_01, List.getD, List.getElem?_cons_succ, List.getElem?_cons_zero, Option.getD_some]
    first | done | exact rfl
  case h162 =>
    dsimp only [fnAt, fnTop, inCls, topAt, PySem.Challenge.pw_pb0192_01, List.getD, List.getElem?_cons_succ, List.getElem?_cons_zero, Option.getD_some]
    first | done | exact rfl
  case h169 =>
    dsimp only [fnAt, fnTop, inCls, topAt, PySem.Challenge.pw_pb0192_01, List.getD, List.getElem?_cons_succ, List.getElem?_cons_zero, Option.getD_some]
    first | done | exact rfl
  case h176 =>
    dsimp only [fnAt, fnTop, inCls, topAt, PySem.Challenge.pw_pb0192_01, List.getD, List.getElem?_cons_succ, List.getElem?_cons_zero, Option.getD_some]
    first | done | exact rfl
  case h198 =>
    dsimp only [fnAt, fnTop, inCls, topAt, PySem.Challenge.pw_pb0192_01, List.getD, List.getElem?_cons_succ, List.getElem?_cons_zero, Option.getD_some]
    first | done | exact rfl
  case h203 =>
    dsimp only [fnAt, fnTop, inCls, topAt, PySem.Challenge.pw_pb0192_01, List.getD, List.getElem?_cons_succ, List.getElem?_cons_zero, Option.getD_some]
    first | done | exact rfl
  case h210 =>
    dsimp only [fnAt, fnTop, inCls, topAt, PySem.Challenge.pw_pb0192_01, List.getD, List.getElem?_cons_succ, List.getElem?_cons_zero, Option.getD_some]
    first | done | exact rfl
  case h215 =>
    dsimp only [fnAt, fnTop, inCls, topAt, PySem.Challenge.pw_pb0192_01, List.getD, List.getElem?_cons_succ, List.getElem?_cons_zero, Option.getD_some]
    first | done | exact rfl
  case h222 =>
    dsimp only [fnAt, fnTop, inCls, topAt, PySem.Challenge.pw_pb0192_01, List.getD, List.getElem?_cons_succ, List.getElem?_cons_zero, Option.getD_some]
    first | done | exact rfl
  case h229 =>
    dsimp only [fnAt, fnTop, inCls, topAt, PySem.Challenge.pw_pb0192_01, List.getD, List.getElem?_cons_succ, List.getElem?_cons_zero, Option.getD_some]
    first | done | exact rfl
  case h250 =>
    dsimp only [fnAt, fnTop, inCls, topAt, PySem.Challenge.pw_pb0192_01, List.getD, List.getElem?_cons_succ, List.getElem?_cons_zero, Option.getD_some]
    first | done | exact rfl
  case h257 =>
    dsimp only [fnAt, fnTop, inCls, topAt, PySem.Challenge.pw_pb0192_01, List.getD, List.getElem?_cons_succ, List.getElem?_cons_zero, Option.getD_some]
    first | done | exact rfl
  case h264 =>
    dsimp only [fnAt, fnTop, inCls, topAt, PySem.Challenge.pw_pb0192_01, List.getD, List.getElem?_cons_succ, List.getElem?_cons_zero, Option.getD_some]
    first | done | exact rfl
  case h271 =>
    dsimp only [fnAt, fnTop, inCls, topAt, PySem.Challenge.pw_pb0192_01, List.getD, List.getElem?_cons_succ, List.getElem?_cons_zero, Option.getD_some]
    first | done | exact rfl
  case h276 =>
    dsimp only [fnAt, fnTop, inCls, topAt, PySem.Challenge.pw_pb0192_01, List.getD, List.getElem?_cons_succ, List.getElem?_cons_zero, Option.getD_some]
    first | done | exact rfl
  case h297 =>
    dsimp only [fnAt, fnTop, inCls, topAt, PySem.Challenge.pw_pb0192_01, List.getD, List.getElem?_cons_succ, List.getElem?_cons_zero, Option.getD_some]
    first | done | exact rfl
  case h304 =>
    dsimp only [fnAt, fnTop, inCls, topAt, PySem.Challenge.pw_pb0192_01, List.getD, List.getElem?_cons_succ, List.getElem?_cons_zero, Option.getD_some]
    first | done | exact rfl
  case h311 =>
    dsimp only [fnAt, fnTop, inCls, topAt, PySem.Challenge.pw_pb0192_01, List.getD, List.getElem?_cons_succ, List.getElem?_cons_zero, Option.getD_some]
    first | done | exact rfl
  case h318 =>
    dsimp only [fnAt, fnTop, inCls, topAt, PySem.Challenge.pw_pb0192_01, List.getD, List.getElem?_cons_succ, List.getElem?_cons_zero, Option.getD_some]
    first | done | exact rfl
  case h332 =>
    dsimp only [fnAt, fnTop, inCls, topAt, PySem.Challenge.pw_pb0192_01, List.getD, List.getElem?_cons_succ, List.getElem?_cons_zero, Option.getD_some]
    first | done | exact rfl
  case h347 =>
    dsimp only [fnAt, fnTop, inCls, topAt, PySem.Challenge.pw_pb0192_01, List.getD, List.getElem?_cons_succ, List.getElem?_cons_zero, Option.getD_some]
    first | done | exact rfl
  case h354 =>
    dsimp only [fnAt, fnTop, inCls, topAt, PySem.Challenge.pw_pb0192_01, List.getD, List.getElem?_cons_succ, List.getElem?_cons_zero, Option.getD_some]
    first | done | exact rfl
  case h361 =>
    dsimp only [fnAt, fnTop, inCls, topAt, PySem.Challenge.pw_pb0192_01, List.getD, List.getElem?_cons_succ, List.getElem?_cons_zero, Option.getD_some]
    first | done | exact rfl
  case h368 =>
    dsimp only [fnAt, fnTop, inCls, topAt, PySem.Challenge.pw_pb0192_01, List.getD, List.getElem?_cons_succ, List.getElem?_cons_zero, Option.getD_some]
    first | done | exact rfl
  case h373 =>
    dsimp only [fnAt, fnTop, inCls, topAt, PySem.Challenge.pw_pb0192_01, List.getD, List.getElem?_cons_succ, List.getElem?_cons_zero, Option.getD_some]
    first | done | exact rfl
  case h387 =>
    dsimp only [fnAt, fnTop, inCls, topAt, PySem.Challenge.pw_pb0192_01, List.getD, List.getElem?_cons_succ, List.getElem?_cons_zero, Option.getD_some]
    first | done | exact rfl
  case h392 =>
    dsimp only [fnAt, fnTop, inCls, topAt, PySem.Challenge.pw_pb0192_01, List.getD, List.getElem?_cons_succ, List.getElem?_cons_zero, Option.getD_some]
    first | done | exact rfl
open PySem.Calls
section
/-- all that stood stands -/
abbrev Ext (h h' : Heap) : Prop := ∀ b o, h.get? b = some o → h'.get? b = some o

section
variable {prog : Program} {w : World} {A₀ A : Around} {s : Shared} {base h₀ : Heap} {outer : List Env} {L : Addr} {m mg mb : Str → Option Value} {env : Env} {K : Frag}
  {R : Result → Shared → Prop} {name qual : Str} {params : Arguments} {body : List Stmt} {scope : Scope} {dV kV doc pm cdv ct oc : Value} {an od : Option Addr} {osl : Array (Option Value)} {f : Addr} {args : Args} {binds : List (Str × Value)}
  {p : Program} {loose : List Str} {mean : ExcName → Option Value}

/-- entering a def with the whole heap held fast -/
theorem code_reader (B : Below A₀ base outer h₀) (F : Fr h₀ L s.heap m) (X₀ : K.In h₀) (T : Top p loose mean mg mb h₀) (hA : A.frames = some (env :: outer)) (hf : env.frame = some L) (hke : env.scope.kind = .function)
    (ho : K.lookup f = some ⟨oc, od, .func (fnOf name qual params body scope dV kV doc pm an cdv ct), osl⟩) (hcd : codeIn K cdv qual = true) (hroom : A.depth < recursionLimit)
    (hbind : BindsTo s (fnOf name qual params body scope dV kV doc pm an cdv ct) args binds) (hloc : ∀ y ∈ binds, scope.names.lookup y.1 = some .local)
    (h : ∀ L' h₁, Fr s.heap L' h₁ (fun y => binds.reverse.lookup y) → News s.heap L' h₁ [] → Below A base (env :: outer) s.heap → K.In s.heap → Top p loose mean mg mb s.heap →
      wpAny (model prog w) (A.deeper (envOf qual scope L' f cdv)) (execs body (envOf qual scope L' f cdv))
        (fun fl s' => R (.ok (.ret (match fl with | .ret v => v | _ => .none))) s') (fun _ _ => False)
        { s with heap := h₁, toks := s.toks + binds.length })
    (hco : scope.isCoroutine = false) (hgen : scope.isGenerator = false) (hk : scope.kind = .function)
    (hcell : ∀ x ∈ scope.names, x.2 ≠ .cell) : codeAny (model prog w) A (.call (.ref f) args) R s := by
  obtain ⟨FG, BG, st, lv⟩ := groundX (R := R) B F (News.nil (h₀ := h₀) (L := L) (h := s.heap)) hA hf hke
  have X := X₀.keeps F.keep
  have BG' : Below A base (env :: outer) s.heap := ⟨BG.stack, fun b o e => F.keep b o (B.stays b o e), (pushX B F hf hke).frames⟩
  refine codeAny_call_def (fd := fnOf name qual params body scope dV kV doc pm an cdv ct) (body := body) (binds := binds) hroom (X _ _ ho) rfl (T.nolimit.keeps F.keep) (codeRec_of X hcd) rfl hbind hcell hloc (fun h₁ hns hk₁ => ?_) hco hgen hk
  exact wpAny_mono (h s.heap.objs.size h₁ ⟨hns, hk₁, Nat.le_refl _⟩ News.nil BG' X (T.keeps F.keep)) (fun fl s' hl => hl) fun _ _ y => y.elim
end

/-- what a reader's call promises: the heap grows, the answer is as told -/
def Reads1 (prog : Program) (w : World) (K : Frag) (f : Addr) (d u : Nat) (vs : List Value) (s : Shared) (P : Heap → Value → Prop) : Prop :=
  ∀ (p : Program) (loose : List Str) (mean : ExcName → Option Value) (mg mb : Str → Option Value) (dp un : Nat) (gd : Option (List Code)) (cn : Str) (cs : Scope) (a : Addr) (ccd : Value) (cl : List (Str × Addr)) (outer : List Env) (A₀ : Around) (base h₀ : Heap) (L : Addr) (m : Str → Option Value)
    (Q E : Value → Shared → Prop),
    Below A₀ base outer h₀ → Fr h₀ L s.heap m → K.In h₀ → Top p loose mean mg mb h₀ → cs.kind = .function → dp + d < recursionLimit → un + u < cLine →
    (∀ v h' tk', Ext s.heap h' → P h' v → Q v { s with heap := h', toks := tk' }) →
    wpAny (model prog w) (ktrTop dp un gd cn cs L a ccd cl outer) (call (.ref f) vs) Q E s

/-- a dict of ints by ints, as a total function (0 where it has none) -/
def TabI (prog : Program) (w : World) (h : Heap) (d : Addr) (f : Int → Int) : Prop :=
  (d == sysModules) = false ∧ ∃ mp : Int → Option Value, h.MapOf (intKind prog w) d mp ∧ ∀ g, match mp g with | none => f g = 0 | some v => ∃ t, v = .int (f g) t
theorem TabI.ext {prog : Program} {w : World} {h h' : Heap} {d : Addr} {f : Int → Int} (t : TabI prog w h d f) (k : Ext h h') : TabI prog w h' d f :=
  let ⟨lo, mp, ⟨o, es, ep, ho, r⟩, hf⟩ := t
  ⟨lo, mp, ⟨o, es, ep, k _ _ ho, r⟩, hf⟩
theorem inst_ext {h h' : Heap} {x C : Addr} {ox : Obj} {od : Option Obj} (I : PySem.W.InstAt h x ox C od) (k : Ext h h') : PySem.W.InstAt h' x ox C od := by
  obtain ⟨a, b, c, d⟩ := I
  refine ⟨k _ _ a, b, c, ?_⟩
  revert d
  cases ox.dict <;> cases od <;> intro d
  · exact d
  · exact d
  · exact d
  · exact k _ _ d
theorem get_tabI {prog : Program} {w : World} {A : Around} {E : Value → Shared → Prop} {s : Shared} {d : Addr} {f : Int → Int} {i : Int} {t z : Tok} {Q : Value → Shared → Prop} (T : TabI prog w s.heap d f)
    (h : ∀ u, Q (.int (f i) u) { s with toks := s.toks + 1 }) : wpAny (model prog w) A (call (.builtin "dict.get") [.ref d, .int i t, .int 0 z]) Q E s := by
  obtain ⟨lo, mp, hm, hf⟩ := T
  refine call_meetsIn PySem.F.slot_dict_get hm.typeIs PySem.F.entry_dict_get (PySem.F.args_dict_get_3 _ _ _) (meets_dict_get_default (intKind prog w) d (intKind_is prog w i t) lo (.int 0 z)) ⟨_, hm, ?_⟩
  have := hf i
  cases e : mp i with
  | none => rw [e] at this; simp only [Option.getD_none]; have q := h z; rw [this] at q; exact q
  | some v => rw [e] at this; obtain ⟨u, rfl⟩ := this; exact h u
theorem method_tabI {prog : Program} {w : World} {A : Around} {E : Value → Shared → Prop} {s : Shared} {d : Addr} {f : Int → Int} {pl : Sem Bool} {Q : Value × List Value → Shared → Prop} (T : TabI prog w s.heap d f)
    (h : Q (.builtin "dict.get", [.ref d]) s) : wpAny (model prog w) A (getMethod (.ref d) "get" pl) Q E s := by
  obtain ⟨lo, mp, hm, hf⟩ := T
  exact getMethod_builtin hm.typeIs PySem.F.plainAttrs_dict PySem.F.slot_dict_get (by rfl) hm.noDict h

/-- a ClassDef over such a dict -/
def ClsDef (prog : Program) (w : World) (h : Heap) (c : Addr) (f : Int → Int) : Prop :=
  ∃ ox es n d, PySem.W.InstAt h c ox 279 (some (dictOf es n)) ∧ getL "classes" es = some (some (.ref d)) ∧ getL "class_of" es = some none ∧ TabI prog w h d f
theorem ClsDef.ext {prog : Program} {w : World} {h h' : Heap} {c : Addr} {f : Int → Int} (t : ClsDef prog w h c f) (k : Ext h h') : ClsDef prog w h' c f :=
  let ⟨ox, es, n, d, I, a, b, T⟩ := t; ⟨ox, es, n, d, inst_ext I k, a, b, T.ext k⟩
theorem len_tupI {prog : Program} {w : World} {A : Around} {E : Value → Shared → Prop} {s : Shared} {t : Addr} {vs : List Value} {xs : List Int} {Q : Value → Shared → Prop} (ht : IsTup s.heap t vs.toArray) (hi : IntsAre vs xs) (hl : xs.length < 1000)
    (h : Q (.int xs.length (s.toks + 1)) { s with toks := s.toks + 1 + 1 }) : wpAny (model prog w) A (call (.builtin "len") [.ref t]) Q E s :=
  PyProof.Rows.len_tuple ht (by rw [List.size_toArray, hi.length]; omega) (by rw [List.size_toArray, hi.length]; exact h)
theorem item_tupI {prog : Program} {w : World} {A : Around} {E : Value → Shared → Prop} {s : Shared} {t : Addr} {vs : List Value} {xs : List Int} {k : Int} {u : Tok} {value slice : PySem.Expr} {Q : Value → Shared → Prop} (ht : IsTup s.heap t vs.toArray) (hi : IntsAre vs xs) (hl : xs.length < 1000)
    (h0 : 0 ≤ k) (h1 : k < xs.length) (h : ∀ v, Q (.int (xs.getD k.toNat 0) v) s)
    (hs : subscripted slice false (.ref t) (.int k u) = operate [.ref t, .int k u] (getItem (.ref t) (.int k u)) := by with_unfolding_all rfl) :
    wpAny (model prog w) A (subscriptTail value slice (.ref t) (.int k u)) Q E s := by
  have hn : k.toNat < xs.length := by omega
  obtain ⟨v, hv⟩ := hi.get k.toNat (xs[k.toNat]) (by simp [hn])
  have e : xs.getD k.toNat 0 = xs[k.toNat] := by simp [hn]
  refine item_tupleT (j := k.toNat) ht (by omega) (by omega) ?_ hv (by rw [← e]; exact h v) hs
  unfold seqIndex?
  rw [hi.length]
  have a : ¬ k < 0 := by omega
  simp [a, h0, h1]
end
section
theorem fresh1 : True := by
  w_top off
  trivial
local macro_rules | `(tactic| walk_at "r_enter") => `(tactic| (refine wpAny_call ?_; k_dflt (refine' code_reader ?k1 ?k2 ?k3 ?k5 ?kA ?kF ?kK ?k6 ?k7 ?k8 ?k9 ?kB ?_ ?c2 ?c3 ?c4 ?c5; (case kA => exact rfl); (case kF => exact rfl); (case kK => assumption); (case k1 => k_asm); (case k2 => k_asm); (case k3 => k_asm); (case k5 => k_asm); (case k6 => k_is); (case k7 => k_is); (case k8 => (show _ < recursionLimit; dsimp only [ktrTop]; omega)); (case k9 => exact BindsTo.of_eq rfl); (case c5 => decide); (case kB => exact locs rfl); (case c2 => exact rfl); (case c3 => exact rfl); (case c4 => exact rfl); k_whole); intro L' h' F' N' B' X' T'; (try dsimp only); (try k_fold)))
local macro_rules | `(tactic| k_inst) => `(tactic| exact inst_ext (by assumption) (Fr.keep (by k_asm)))
local macro_rules | `(tactic| k_get) => `(tactic| assumption)
local macro_rules | `(tactic| k_room) => `(tactic| ktr_room)
local macro_rules | `(tactic| k_units) => `(tactic| ktr_units)
local macro_rules | `(tactic| walk_at "eval Name") => `(tactic| (k_here; k_dflt (refine' ld ?k1 ?k2 ?_; (case k1 => k_asm); (case k2 => assumption); k_whole)))
local macro_rules | `(tactic| walk_at "lift_tup") => `(tactic| first | assumption | exact IsTup.keeps (by assumption) (Fr.keep (by k_asm)))
local macro_rules | `(tactic| walk_at "exec While Compare cons nil") => `(tactic| k_extra "my while")
theorem fill0 (P : Params) : (HK P) = (HK P) ∧ PySem.Challenge.rw_pb0192_01 = PySem.Challenge.rw_pb0192_01 := by
  k_fill
  exact ⟨rfl, rfl⟩

local macro_rules | `(tactic| walk_at "getMethod ref") => `(tactic| (k_here; k_dflt (refine' method_tabI ?T ?_; (case T => exact TabI.ext (by assumption) (Fr.keep (by k_asm))))))
local macro_rules | `(tactic| walk_at "call builtin:dict.get") => `(tactic| (k_here; k_dflt (refine' get_tabI ?T ?_; (case T => exact TabI.ext (by assumption) (Fr.keep (by k_asm)))); intro u'))


theorem class_of_reads {prog : Program} {w : World} {s : Shared} {c : Addr} {f : Int → Int} {g : Int} {t : Tok} (C : ClsDef prog w s.heap c f) :
    Reads1 prog w (HK w.params) 257 1 4 [.ref c, .int g t] s (fun _ v => ∃ u, v = .int (f g) u) := by
  obtain ⟨ox, es, n, d, I, hg, hc, Tb⟩ := C
  intro p loose mean mg mb dp un gd cn cs a ccd cl outer A₀ base h₀ L m Q E B F X T hk hd hu hret
  walk_at "r_enter"
  k_steps
  exact hret _ _ _ (Fr.keep (by assumption)) ⟨_, rfl⟩

/-- a Coverage over a rising tuple -/
def CovOf (h : Heap) (c : Addr) (xs : List Int) : Prop :=
  ∃ ox es n t vs, PySem.W.InstAt h c ox 321 (some (dictOf es n)) ∧ getL "glyphs" es = some (some (.ref t)) ∧ getL "has" es = some none ∧ getL "index" es = some none ∧ IsTup h t vs.toArray ∧ IntsAre vs xs ∧ xs.Pairwise (· < ·) ∧ xs.length < 1000
theorem CovOf.ext {h h' : Heap} {c : Addr} {xs : List Int} (t : CovOf h c xs) (k : Ext h h') : CovOf h' c xs :=
  let ⟨ox, es, n, d, vs, I, a, b, b', T, r⟩ := t; ⟨ox, es, n, d, vs, inst_ext I k, a, b, b', T.keeps k, r⟩


local macro_rules | `(tactic| walk_at "call builtin:len") => `(tactic| (k_here; k_dflt (refine' len_tupI ?t ?i ?l ?_; (case t => walk_at "lift_tup"); (case i => assumption); (case l => assumption))))
local macro_rules | `(tactic| walk_at "subscriptTail") => `(tactic| (k_here; k_dflt (refine' item_tupI ?t ?i ?l ?z ?b ?_ ?s; (case t => walk_at "lift_tup"); (case i => assumption); (case l => assumption); (case z => first | omega | (simp only [Int.fdiv_eq_ediv_of_nonneg _ (show (0:Int) ≤ 2 by decide)]; omega)); (case b => first | omega | (simp only [Int.fdiv_eq_ediv_of_nonneg _ (show (0:Int) ≤ 2 by decide)]; omega)); (case s => with_unfolding_all rfl)); intro u'))


theorem rising_le {xs : List Int} (hs : xs.Pairwise (· < ·)) {i j : Nat} (h : i ≤ j) (hj : j < xs.length) : xs.getD i 0 ≤ xs.getD j 0 := by
  rcases Nat.lt_or_eq_of_le h with h | rfl
  · have := List.pairwise_iff_getElem.mp hs i j (by omega) hj h
    have hi : i < xs.length := by omega
    simp [hi, hj]; omega
  · exact Int.le_refl _
theorem mem_at {xs : List Int} {g : Int} (h : g ∈ xs) : ∃ i, i < xs.length ∧ xs.getD i 0 = g := by
  obtain ⟨i, hi, e⟩ := List.getElem_of_mem h
  exact ⟨i, hi, by simp [hi, e]⟩
theorem fdiv2 (a : Int) : a.fdiv 2 = a / 2 := Int.fdiv_eq_ediv_of_nonneg _ (by decide)
theorem index_reads {prog : Program} {w : World} {s : Shared} {c : Addr} {xs : List Int} {g : Int} {t : Tok} (C : CovOf s.heap c xs) :
    Reads1 prog w (HK w.params) 304 1 4 [.ref c, .int g t] s (fun _ v => ∃ i u, v = .int i u ∧ (0 ≤ i ↔ g ∈ xs)) := by
  obtain ⟨ox, es, n, d, vs, I, hg, hc, hc', Tb, hi, hs, hlen⟩ := C
  intro p loose mean mg mb dp un gd cn cs a ccd cl outer A₀ base h₀ L m Q E B F X T hk hd hu hret
  walk_at "r_enter"
  k_with "my while" => (
    refine' While_inv2 (n₀ := xs.length) (fun k m₁ nx => nx = [] ∧ ∃ lo hi tl th, m₁ (Str.ofString "low") = some (.int lo tl) ∧ m₁ (Str.ofString "high") = some (.int hi th) ∧ m₁ (Str.ofString "self") = some (.ref c) ∧ m₁ (Str.ofString "glyph") = some (.int g t) ∧
      0 ≤ lo ∧ lo ≤ hi ∧ hi ≤ (xs.length : Int) ∧ (k : Int) = hi - lo ∧ (∀ i : Nat, (i : Int) < lo → xs.getD i 0 < g) ∧ (∀ i : Nat, hi ≤ (i : Int) → i < xs.length → ¬ xs.getD i 0 < g)) (by assumption) (by assumption) ⟨rfl, 0, xs.length, _, _, rfl, rfl, rfl, rfl, by omega, by omega, by omega, by omega, fun i hi => by omega, fun i h1 h2 => by omega⟩ ?_ (by exact PassesOwn.never);
    rintro k m₁ nx h₂ tk₂ F₂ N₂ ⟨rfl, lo, hi', tl, th, e1, e2, e3, e4, b1, b2, b3, b4, b5, b6⟩)
  k_steps
  all_goals (try dsimp only)
  all_goals (try simp only [fdiv2] at *)
  · rename Fr _ _ _ _ => Fz
    rename News _ _ _ _ => Nz
    refine ⟨_, _, _, [], (hi' - ((lo + hi') / 2 + 1)).toNat, rfl, Fz, Nz, by omega, rfl, (lo + hi') / 2 + 1, hi', _, _, rfl, e2, e3, e4, by omega, by omega, by omega, by omega, fun i h1 => ?_, b6⟩
    have := rising_le hs (i := i) (j := ((lo + hi') / 2).toNat) (by omega) (by omega)
    omega
  · rename Fr _ _ _ _ => Fz
    rename News _ _ _ _ => Nz
    refine ⟨_, _, _, [], ((lo + hi') / 2 - lo).toNat, rfl, Fz, Nz, by omega, rfl, lo, (lo + hi') / 2, _, _, e1, rfl, e3, e4, by omega, by omega, by omega, by omega, b5, fun i h1 h2 => ?_⟩
    have := rising_le hs (i := ((lo + hi') / 2).toNat) (j := i) (by omega) (by omega)
    omega
  · refine hret _ _ _ (Fr.keep (by assumption)) ⟨_, _, rfl, fun _ => ?_, fun _ => by omega⟩
    have hn : lo.toNat < xs.length := by omega
    have := List.getElem_mem (l := xs) hn
    have q : xs.getD lo.toNat 0 = g := by assumption
    simp [hn] at q
    rw [q] at this
    exact this
  all_goals (
    refine hret _ _ _ (Fr.keep (by assumption)) ⟨_, _, rfl, fun h => absurd h (by decide), fun h => ?_⟩
    obtain ⟨i, h1, h2⟩ := mem_at h
    have q1 := b5 i
    have q2 := b6 i
    rcases Int.lt_or_le (i : Int) lo with h3 | h3
    · have := q1 h3; omega
    · exfalso
      have q3 := q2 (by omega) h1
      rcases Int.lt_or_le lo (i : Int) with h4 | h4
      · have := List.pairwise_iff_getElem.mp hs lo.toNat i (by omega) h1 (by omega)
        have q4 := b6 lo.toNat (by omega) (by omega)
        have hl : lo.toNat < xs.length := by omega
        simp [hl, h1] at *
        omega
      · have e : lo.toNat = i := by omega
        first | omega | (rename_i q _ ; rw [e] at q; omega) | (rename_i q _ _ ; rw [e] at q; omega))
end
section
theorem reads_use {prog : Program} {w : World} {K : Frag} {f : Addr} {d u : Nat} {vs : List Value} {s : Shared} {P : Heap → Value → Prop} {p : Program} {loose : List Str} {mean : ExcName → Option Value} {mg mb : Str → Option Value} {dp un : Nat} {gd : Option (List Code)} {cn : Str} {cs : Scope} {a : Addr} {ccd : Value} {cl : List (Str × Addr)} {outer : List Env} {A₀ : Around} {base h₀ : Heap} {L : Addr} {m : Str → Option Value} {news : List (Addr × Obj)}
    {Q E : Value → Shared → Prop} (C : Reads1 prog w K f d u vs s P)
    (B : Below A₀ base outer h₀) (F : Fr h₀ L s.heap m) (X : K.In h₀) (N : News h₀ L s.heap news) (T : Top p loose mean mg mb h₀) (hk : cs.kind = .function) (hd : dp + d < recursionLimit) (hu : un + u < cLine)
    (ret : ∀ v h' tk', Fr h₀ L h' m → News h₀ L h' news → Ext s.heap h' → P h' v → Q v { s with heap := h', toks := tk' }) :
    wpAny (model prog w) (ktrTop dp un gd cn cs L a ccd cl outer) (call (.ref f) vs) Q E s :=
  C _ _ _ _ _ _ _ _ _ _ _ _ _ _ _ _ _ _ _ _ _ B F X T hk hd hu fun v h' tk' x q => ret v h' tk' (F.keeps x) (N.grown x) x q

/-- one test of a rule: what it tells of a glyph -/
inductive TestIs (prog : Program) (w : World) (h : Heap) (tv : Value) (S : Int → Bool) : Prop
  | glyph {a : Addr} {g : Int} {t u : Tok} (e : tv = .ref a) (i : IsTup h a #[.str (Str.ofString "glyph") t, .int g u]) (q : ∀ x, S x = decide (g = x))
  | cls {a c : Addr} {f : Int → Int} {n : Int} {t u : Tok} (e : tv = .ref a) (i : IsTup h a #[.str (Str.ofString "class") t, .ref c, .int n u]) (C : ClsDef prog w h c f) (q : ∀ x, S x = decide (f x = n))
  | cov {a c : Addr} {xs : List Int} {t : Tok} (e : tv = .ref a) (i : IsTup h a #[.str (Str.ofString "cover") t, .ref c]) (C : CovOf h c xs) (q : ∀ x, S x = decide (x ∈ xs))
theorem TestIs.ext {prog : Program} {w : World} {h h' : Heap} {tv : Value} {S : Int → Bool} (t : TestIs prog w h tv S) (k : Ext h h') : TestIs prog w h' tv S := by
  cases t with
  | glyph e i q => exact .glyph e (i.keeps k) q
  | cls e i C q => exact .cls e (i.keeps k) (C.ext k) q
  | cov e i C q => exact .cov e (i.keeps k) (C.ext k) q

/-- a field of an object of a class -/
def Fld (es : List DictEntry) (x : String) (v : Value) : Prop := getL x es = some (some v)

structure Cell where
  glyph : Int
  mask : Int
  kind : Str

def InfoAt (h : Heap) (v : Value) (c : Cell) : Prop :=
  ∃ x ox es n tg tm tk, v = .ref x ∧ PySem.W.InstAt h x ox 179 (some (dictOf es n)) ∧ getL "glyph" es = some (some (.int c.glyph tg)) ∧ getL "mask" es = some (some (.int c.mask tm)) ∧ getL "kind" es = some (some (.str c.kind tk))
theorem InfoAt.ext {h h' : Heap} {v : Value} {c : Cell} (t : InfoAt h v c) (k : Ext h h') : InfoAt h' v c :=
  let ⟨x, ox, es, n, a, b, d, e, I, r⟩ := t; ⟨x, ox, es, n, a, b, d, e, inst_ext I k, r⟩

/-- the row of a buffer -/
inductive RowAt (h : Heap) : List Value → List Cell → Prop
  | nil : RowAt h [] []
  | cons {v : Value} {c : Cell} {vs : List Value} {cs : List Cell} : InfoAt h v c → RowAt h vs cs → RowAt h (v :: vs) (c :: cs)
theorem RowAt.ext {h h' : Heap} {vs : List Value} {cs : List Cell} (t : RowAt h vs cs) (k : Ext h h') : RowAt h' vs cs := by
  induction t with
  | nil => exact .nil
  | cons a _ ih => exact .cons (a.ext k) ih
theorem RowAt.length {h : Heap} {vs : List Value} {cs : List Cell} (t : RowAt h vs cs) : vs.length = cs.length := by
  induction t with
  | nil => rfl
  | cons _ _ ih => simp [ih]
theorem RowAt.get {h : Heap} {vs : List Value} {cs : List Cell} (t : RowAt h vs cs) : ∀ {i : Nat}, i < cs.length → ∃ v c, vs[i]? = some v ∧ cs[i]? = some c ∧ InfoAt h v c := by
  induction t with
  | nil => intro i hi; exact absurd hi (Nat.not_lt_zero _)
  | cons a _ ih =>
    intro i hi
    cases i with
    | zero => exact ⟨_, _, rfl, rfl, a⟩
    | succ i => exact ih (by simpa using hi)

theorem isList_ext {h h' : Heap} {a : Addr} {vs : Array Value} (t : h.IsList a vs) (k : Ext h h') : h'.IsList a vs := let ⟨o, ho, r⟩ := t; ⟨o, k _ _ ho, r⟩
end
section
theorem lk_list_keys : typeLookup (.type "list") "keys" = pure none := by rw [typeLookup_type, builtinLookup_eq_fast]; kernel_rfl
section
variable {prog : Program} {w : World} {A : Around} {E : Value → Shared → Prop} {s : Shared} {a : Addr}
theorem keysMiss {xs : Array Value} {k : Nat} {Q : Option Value → Shared → Prop}
    (hx : s.heap.get? a = some (listOf xs k)) (hA : A.handled = none) (h : ∀ h' tk, (∀ b o, s.heap.get? b = some o → h'.get? b = some o) → Q none { s with heap := h', toks := tk }) :
    wpAny (model prog w) A (getAttr? (.ref a) "keys") Q E s := by
  obtain ⟨hp, g, d, tk, os⟩ := s
  have hT : ∀ tk', (⟨hp, g, d, tk', os⟩ : Shared).TypeIs (.ref a) "list" := fun _ => ⟨_, hx, rfl⟩
  have f1 := sub_AttributeError
  have f3 := F.slot_list_getattribute.lookup
  have f4 := F.slot_list_getattribute.bind (.ref a)
  have f5 := am_list_getattr_none
  unfold getAttr? getAttrBy? getAttrBy
  repeat (any_goals (first | assumption | exact hT _ | ((with_reducible show wpAny _ _ (call (Value.builtin "list.__getattribute__") _ _) _ _ _); refine call_meets F.slot_list_getattribute (hT _) am_entry_list_getattribute (F.args_list_getattribute_2 _ _) (meets_getattribute_miss_list a xs k #[] "keys" _ lk_list_keys (by decide +kernel) (by size_fits)) ⟨hx, hA, fun h' tk' e hx' => ?_⟩) | wp_step))
  obtain ⟨t', u', he⟩ := hx'.there
  show wpAny _ _ (getattributeRaised _ _ _ _ _ _ _) _ _ _
  unfold getattributeRaised
  repeat (any_goals (first | assumption | wp_step))
  exact h _ _ hx'.keeps
end
end
section
theorem entry_dict_update_loop : entryFor table "dict.update.loop" = some Builtin.«dict.update.loop» := entryFor_of_tree (by kernel_rfl)
theorem plain_dict_update_loop : plainId "dict.update.loop" = true := by decide +kernel
theorem valueAt_stored (kvs : List (Int × Value)) (k g : Int) (v : Value) : valueAt (stored kvs k v) g = if g = k then some v else valueAt kvs g := by
  unfold stored
  split
  · rename_i h
    unfold valueAt
    by_cases hg : g = k
    · subst hg
      rw [if_pos rfl]
      induction kvs with
      | nil => simp at h
      | cons p r ih =>
        simp only [List.map_cons, List.find?_cons]
        by_cases hp : p.1 = g
        · simp [hp]
        · simp only [hp, if_false, decide_false]
          exact ih (by simpa [hp] using h)
    · rw [if_neg hg]
      clear h
      induction kvs with
      | nil => rfl
      | cons p r ih =>
        simp only [List.map_cons, List.find?_cons]
        by_cases hp : p.1 = k
        · have hpg : ¬ p.1 = g := fun e => hg (e.symm.trans hp)
          simp only [hp, if_true]
          rw [hp] at hpg
          simp only [hpg, decide_false]
          exact ih
        · simp only [hp, if_false]
          by_cases hpg : p.1 = g
          · simp [hpg]
          · simp only [hpg, decide_false]; exact ih
  · rename_i h
    unfold valueAt
    rw [List.find?_append]
    by_cases hg : g = k
    · subst hg
      rw [if_pos rfl]
      have : kvs.find? (fun kv => decide (kv.1 = g)) = none := by
        rw [List.find?_eq_none]
        intro x hx q
        exact h (List.any_eq_true.mpr ⟨x, hx, q⟩)
      rw [this]; simp
    · rw [if_neg hg]
      have : ¬ k = g := fun e => hg e.symm
      cases kvs.find? (fun kv => decide (kv.1 = g)) <;> simp [this]

/-- the keys met so far, each with a value of one kind -/
def ConstV (V : Value → Prop) (keys : List Int) (kvs : List (Int × Value)) : Prop := kvs.length ≤ keys.length ∧ ∀ g, match valueAt kvs g with | none => g ∉ keys | some v => g ∈ keys ∧ V v
theorem ConstV.nil {V : Value → Prop} : ConstV V [] [] := ⟨Nat.le_refl _, fun g => by simp [valueAt]⟩
theorem ConstV.snoc {V : Value → Prop} {keys : List Int} {kvs : List (Int × Value)} {k : Int} {v : Value} (h : ConstV V keys kvs) (hv : V v) : ConstV V (keys ++ [k]) (stored kvs k v) := by
  refine ⟨?_, fun g => ?_⟩
  · have := stored_length_le kvs k v
    have := h.1
    simp; omega
  · rw [valueAt_stored]
    have q := h.2 g
    by_cases hg : g = k
    · subst hg; simpa using hv
    · rw [if_neg hg]
      cases e : valueAt kvs g with
      | none => rw [e] at q; simp only [List.mem_append, List.mem_singleton]; exact fun h => h.elim q hg
      | some v => rw [e] at q; exact ⟨List.mem_append_left _ q.1, q.2⟩
abbrev Const (c : Int) : List Int → List (Int × Value) → Prop := ConstV fun v => ∃ t, v = .int c t
theorem ConstV.mem {V : Value → Prop} {keys : List Int} {kvs : List (Int × Value)} (h : ConstV V keys kvs) (g : Int) : g ∈ kvs.map (·.1) ↔ g ∈ keys := by
  have q := h.2 g
  constructor
  · intro hm
    cases e : valueAt kvs g with
    | none =>
      unfold valueAt at e
      rw [Option.map_eq_none_iff, List.find?_eq_none] at e
      obtain ⟨x, hx, rfl⟩ := List.mem_map.mp hm
      exact absurd (e x hx) (by simp)
    | some v => rw [e] at q; exact q.1
  · intro hm
    cases e : valueAt kvs g with
    | none => rw [e] at q; exact absurd hm q
    | some v =>
      unfold valueAt at e
      rw [Option.map_eq_some_iff] at e
      obtain ⟨x, hx, _⟩ := e
      have := List.find?_some hx
      exact List.mem_map.mpr ⟨x, List.mem_of_find?_eq_some hx, by simpa using this⟩
/-- pairs of an int and one value -/
def PairsOf (h : Heap) (c : Int) (vs : List Value) (keys : List Int) : Prop := vs.length = keys.length ∧ ∀ (i : Nat) (v : Value), vs[i]? = some v → ∃ (a : Addr) (k : Int) (t u : Tok), v = Value.ref a ∧ IsTup h a #[.int k t, .int c u] ∧ keys[i]? = some k

section
variable {prog : Program} {w : World} {A : Around} {R : Result → Shared → Prop}
theorem codeAny_pairs (hh : A.in1.handled = none) {hb : Heap} {l I d : Addr} {vs : List Value} {keys : List Int} {c : Int} (hlb : ∃ n, hb.get? l = some (listOf vs.toArray n)) (hd : d = hb.objs.size) (hI : @LT.lt Nat _ hb.objs.size I) (hp : PairsOf hb c vs keys) (hz : keys.length ≤ 1000) :
    ∀ (k i : Nat) (j : Tok) (s : Shared) (kvs : List (Int × Value)), vs.length - i = k → i ≤ vs.length → (∀ b o, hb.get? b = some o → s.heap.get? b = some o) → s.heap.IsListIter I l i → s.heap.DictOf (intKind prog w) d kvs → Const c (keys.take i) kvs →
      (∀ h' tk kvs', (∀ b o, b ≠ I → b ≠ d → s.heap.get? b = some o → h'.get? b = some o) → h'.DictOf (intKind prog w) d kvs' → Const c keys kvs' → R (.ok (.ret .none)) { s with heap := h', toks := tk }) →
      codeAny (model prog w) A (.builtin "dict.update.loop" ⟨[.ref d, .ref I, .int i j, .none], []⟩) R s := by
  obtain ⟨ln, hlb⟩ := hlb
  have hdI : d ≠ I := by rw [hd]; exact Nat.ne_of_lt hI
  have hb_lt : ∀ b o, hb.get? b = some o → b ≠ d ∧ b ≠ I := fun b o e => by
    have := Heap.lt_size e
    exact ⟨by rw [hd]; exact Nat.ne_of_lt this, Nat.ne_of_lt (Nat.lt_trans this hI)⟩
  intro k
  induction k with
  | zero =>
    intro i j s kvs hk hi hkeep hit hm hc hR
    have hin : i = vs.length := by omega
    subst hin
    have hls : s.heap.IsList l vs.toArray := ⟨_, hkeep _ _ hlb, rfl, ln, rfl⟩
    refine codeAny_builtin entry_dict_update_loop ?_
    rw [Around.under_plainId plain_dict_update_loop _]
    show wpAny _ A.in1 (pyNext (.ref I) >>= _) _ _ s
    refine wpAny_bind (wpAny_pyNext_list_end hh hit hls (by simp) fun h' he' => ?_)
    show wpAny _ A.in1 (Builtin.Dict.addKeywords d [] >>= fun _ => ret Value.none) _ _ _
    refine wpAny_bind (wpAny_pure (wpAny_pure (hR h' s.toks kvs (fun b o hbI _ e => he' b o hbI e) ?_ ?_)))
    · obtain ⟨o, es, ep, ho, r⟩ := hm
      exact ⟨o, es, ep, he' _ _ hdI ho, r⟩
    · rw [hp.1, List.take_length] at hc; exact hc
  | succ k ih =>
    intro i j s kvs hk hi hkeep hit hm hc hR
    have hlt : i < vs.length := by omega
    have hls : s.heap.IsList l vs.toArray := ⟨_, hkeep _ _ hlb, rfl, ln, rfl⟩
    obtain ⟨a, q, t, u, hv, ht, hq⟩ := hp.2 i vs[i] (by simp [hlt])
    refine codeAny_builtin entry_dict_update_loop ?_
    rw [Around.under_plainId plain_dict_update_loop _]
    show wpAny _ A.in1 (pyNext (.ref I) >>= _) _ _ s
    refine wpAny_bind (wpAny_pyNext_list_item hit hls (x := .ref a) (by simp [hlt, hv]) fun h' hit' hs' => ?_)
    have hkeep' : ∀ b o, hb.get? b = some o → h'.get? b = some o := fun b o e => (hs'.2 b (hb_lt b o e).2).trans (hkeep b o e)
    obtain ⟨ot, hot, hct, nt, hdt⟩ := ht
    have hT : Shared.TypeIs { s with heap := h' } (.ref a) "tuple" := ⟨ot, hkeep' _ _ hot, hct⟩
    have hm' : h'.DictOf (intKind prog w) d kvs := by
      obtain ⟨o, es, ep, ho, r⟩ := hm
      exact ⟨o, es, ep, (hs'.2 d hdI).trans ho, r⟩
    show wpAny _ A.in1 (holding [Value.ref a] _ >>= _) _ _ _
    refine wpAny_bind (wpAny_holding (wpAny_bind (wpAny_tryCatch ?_)))
    unfold Builtin.Dict.pairItems
    refine wpAny_bind (wpAny_typeOf hT ?_)
    dsimp only
    rw [if_pos (by decide)]
    refine wpAny_bind (wpAny_seqItems (hkeep' _ _ hot) hdt (wpAny_pure ?_))
    show wpAny _ A.in1 (holding [Value.int q t, Value.int c u] (dictSet d (.int q t) (.int c u))) _ _ _
    have hkl : kvs.length ≤ sizeLine := by
      have h1 := hc.1
      rw [List.length_take] at h1
      rw [sizeLine_eq]; omega
    refine wpAny_holding (wpAny_dictSet_pairs (knd := intKind prog w) (k := q) (intKind_is _ _ _ _) hm' (fun h'' hm'' hs'' => ?_) hkl)
    show wpAny _ A.in1 (again _) _ _ _
    have hit'' : h''.IsListIter I l (i + 1) := hit'.extBut hs''.extBut (Ne.symm hdI)
    refine wpAny_pure ⟨plainId_quiet plain_dict_update_loop _, ?_⟩
    have hi' : rawInt ((i : Int) + 1) = .int ((i + 1 : Nat) : Int) 0 := by simp [rawInt]
    rw [hi']
    have htake : keys.take (i + 1) = keys.take i ++ [q] := by rw [List.take_add_one, hq]; rfl
    refine ih (i + 1) 0 { s with heap := h'', toks := s.toks + 1 } (stored kvs q (.int c u)) (by omega) hlt (fun b o e => (hs''.2 b (hb_lt b o e).1).trans (hkeep' b o e)) hit'' hm'' (by rw [htake]; exact ConstV.snoc hc ⟨u, rfl⟩) ?_
    intro h3 tk3 kvs3 hk3 hm3 hc3
    exact hR h3 tk3 kvs3 (fun b o hbI hbd e => hk3 b o hbI hbd ((hs''.2 b hbd).trans ((hs'.2 b hbI).trans e))) hm3 hc3
end

section
variable {prog : Program} {w : World} {A : Around} {E : Value → Shared → Prop} {s : Shared}
theorem call_dict_pairs {l : Addr} {ln : Nat} {vs : List Value} {keys : List Int} {c : Int} {Q : Value → Shared → Prop} (hh : A.handled = none) (hl : s.heap.get? l = some (listOf vs.toArray ln)) (hp : PairsOf s.heap c vs keys) (hz : keys.length ≤ 1000)
    (h : ∀ h' tk kvs, (∀ b o, s.heap.get? b = some o → h'.get? b = some o) → h'.DictOf (intKind prog w) s.heap.objs.size kvs → Const c keys kvs → Q (.ref s.heap.objs.size) { s with heap := h', toks := tk }) :
    wpAny (model prog w) A (call (.type "dict") [.ref l]) Q E s := by
  refine callType_codes (Q₁ := fun obj s₁ => obj = .ref s.heap.objs.size ∧ s₁ = { s with heap := s.heap.push { cls := .type "dict", data := .dict #[] } }) F.kt_called_dict (F.kt_typeCall_dict_1 _) F.entry_dict_init (kt_code_dict_new _ ⟨rfl, rfl⟩) ?_
  rintro obj s₁ ⟨rfl, rfl⟩
  have hnew : (s.heap.push { cls := .type "dict", data := .dict #[] }).DictOf (intKind prog w) s.heap.objs.size [] := Heap.DictOf.new s.heap
  have hl' : (s.heap.push { cls := .type "dict", data := .dict #[] }).get? l = some (listOf vs.toArray ln) := Heap.get?_push_of_some _ hl
  refine ⟨hnew.typeIs, F.args_dict_init_2 _ _, ?_⟩
  unfold Builtin.«dict.__init__»
  refine wpAny_bind ?_
  unfold Builtin.Dict.selfAndRest
  refine wpAny_bind (wpAny_notOrdered_dict hnew.typeIs ?_)
  show wpAny _ _ (pure (s.heap.objs.size, [Value.ref l])) _ _ _
  refine wpAny_pure ?_
  show wpAny _ _ (Builtin.Dict.updateFrom "dict.__init__" s.heap.objs.size (.ref l) [] .none) _ _ _
  unfold Builtin.Dict.updateFrom
  refine wpAny_bind (wpAny_typeOf (T := "list") ⟨_, hl', rfl⟩ ?_)
  rw [if_pos (by decide)]
  have hh2 : A.in1.in1.handled = none := hh
  refine wpAny_bind (keysMiss (s := { s with heap := s.heap.push { cls := .type "dict", data := .dict #[] } }) hl' hh2 fun h₁ tk₁ hk₁ => ?_)
  dsimp only [Option.isNone_none]
  rw [if_pos rfl]
  refine wpAny_bind (wpAny_rule ?_)
  have hk0 : ∀ b o, s.heap.get? b = some o → h₁.get? b = some o := fun b o e => hk₁ b o (Heap.get?_push_of_some _ e)
  have hl1 : h₁.IsList l vs.toArray := ⟨_, hk0 _ _ hl, rfl, ln, rfl⟩
  have hsz : s.heap.objs.size < h₁.objs.size := by
    obtain ⟨o, es, ep, ho, _⟩ := hnew
    exact Heap.lt_size (hk₁ _ _ ho)
  refine wpAny_bind (wpAny_pyIter_list (s := { s with heap := h₁, toks := tk₁ }) hl1 ?_)
  refine wpAny_pure ⟨plainId_quiet plain_dict_update_loop _, ?_⟩
  have hm1 : (h₁.push { cls := .type "list_iterator", data := .fields #[.ref l, .int 0 0] }).DictOf (intKind prog w) s.heap.objs.size [] := by
    obtain ⟨o, es, ep, ho, r⟩ := hnew
    exact ⟨o, es, ep, Heap.get?_push_of_some _ (hk₁ _ _ ho), r⟩
  refine codeAny_pairs (A := A.in1) (hb := s.heap) (I := h₁.objs.size) (vs := vs) (keys := keys) (c := c) (l := l) hh2 ⟨ln, hl⟩ rfl hsz hp hz (vs.length - 0) 0 0 { s with heap := h₁.push { cls := .type "list_iterator", data := .fields #[.ref l, .int 0 0] }, toks := tk₁ } [] rfl (Nat.zero_le _)
    (fun b o e => Heap.get?_push_of_some _ (hk0 b o e)) ⟨_, Heap.get?_push_size _ rfl, rfl, rfl⟩ hm1 ConstV.nil ?_
  intro h' tk' kvs hk hm hc
  refine ⟨rfl, h h' tk' kvs (fun b o e => hk b o ?_ ?_ (Heap.get?_push_of_some _ (hk0 b o e))) hm hc⟩
  · exact Nat.ne_of_lt (Nat.lt_trans (Heap.lt_size e) hsz)
  · exact Nat.ne_of_lt (Heap.lt_size e)
end
end
section
def tab (P : List Nat) (led : Bool) : SetTable := { mask := 7, place := P.toArray, dummies := #[], finger := 0, led := led, moves := 0, plain := true }
def idx (P : List Nat) (k : Nat) : Nat := SetTable.below P.toArray k
def ins (P : List Nat) (k : Nat) : List Nat := P.take (idx P k) ++ k :: P.drop (idx P k)
/-- rising lists of numbers below six, three at most -/
def subs : List (List Nat) :=
  [[]] ++ (List.range 6).map (fun a => [a]) ++ (List.range 6).flatMap (fun a => ((List.range 6).filter (a < ·)).map fun b => [a, b]) ++
    (List.range 6).flatMap (fun a => ((List.range 6).filter (a < ·)).flatMap fun b => ((List.range 6).filter (b < ·)).map fun c => [a, b, c])
def layOk (P : List Nat) (k : Nat) (led : Bool) : Bool :=
  P.contains k || (decide (idx P k ≤ P.length) && subs.contains (ins P k) && decide ((tab P led).freeSlot (k : Int) = some (k, false)) && decide ((tab P led).put k = (tab (ins P k) led, idx P k)) && (tab (ins P k) led).fits (P.length + 1) && !(tab (ins P k) led).tooFull)
theorem lay_all : (subs.all fun P => decide (2 < P.length) || (List.range 6).all fun k => layOk P k true && layOk P k false) = true := by decide +kernel
theorem lay_one {P : List Nat} {k : Nat} {led : Bool} (hP : P ∈ subs) (h2 : P.length ≤ 2) (hk : k < 6) (hn : k ∉ P) :
    idx P k ≤ P.length ∧ ins P k ∈ subs ∧ (tab P led).freeSlot (k : Int) = some (k, false) ∧ (tab P led).put k = (tab (ins P k) led, idx P k) ∧ (tab (ins P k) led).fits (P.length + 1) = true ∧ (tab (ins P k) led).tooFull = false := by
  have h := List.all_eq_true.mp lay_all P hP
  rw [Bool.or_eq_true] at h
  rcases h with h | h
  · exact absurd (of_decide_eq_true h) (by omega)
  · have h := List.all_eq_true.mp h k (List.mem_range.mpr hk)
    rw [Bool.and_eq_true] at h
    have h : layOk P k led = true := by cases led; exact h.2; exact h.1
    unfold layOk at h
    rw [Bool.or_eq_true] at h
    rcases h with h | h
    · exact absurd (by simpa using h) hn
    · simp only [Bool.and_eq_true, decide_eq_true_eq, Bool.not_eq_true'] at h
      obtain ⟨⟨⟨⟨⟨h1, h2⟩, h3⟩, h4⟩, h5⟩, h6⟩ := h
      exact ⟨h1, by simpa using h2, h3, h4, h5, h6⟩
theorem tab_fits {P : List Nat} {led : Bool} (hP : P ∈ subs) : (tab P led).fits P.length = true := by
  have h : (subs.all fun P => (tab P true).fits P.length && (tab P false).fits P.length) = true := by decide +kernel
  have h := List.all_eq_true.mp h P hP
  rw [Bool.and_eq_true] at h
  cases led; exact h.2; exact h.1
theorem tab_walk {P : List Nat} (hP : P ∈ subs) : SetTable.below P.toArray 0 = 0 ∧ ∀ i p, P[i]? = some p → SetTable.below P.toArray (p + 1) = i + 1 := by
  have h : (subs.all fun P => (SetTable.below P.toArray 0 == 0) && (List.range P.length).all fun i => SetTable.below P.toArray (P.getD i 0 + 1) == i + 1) = true := by decide +kernel
  have h := List.all_eq_true.mp h P hP
  rw [Bool.and_eq_true] at h
  refine ⟨by simpa using h.1, fun i p hp => ?_⟩
  obtain ⟨hi, e⟩ := List.getElem?_eq_some_iff.mp hp
  have := List.all_eq_true.mp h.2 i (List.mem_range.mpr hi)
  simp [hi, e] at this
  exact this
theorem subs_len {P : List Nat} (hP : P ∈ subs) : P.length ≤ 3 := by
  have h : (subs.all fun P => decide (P.length ≤ 3)) = true := by decide +kernel
  simpa using List.all_eq_true.mp h P hP
/-- what a set holds for them -/
inductive EsIs : List (Int × Value) → List Nat → Prop
  | nil : EsIs [] []
  | cons (p : Nat) (t : Tok) {es : List (Int × Value)} {P : List Nat} : EsIs es P → EsIs (((p : Int), .int (p : Int) t) :: es) (p :: P)
theorem EsIs.length {es : List (Int × Value)} {P : List Nat} (h : EsIs es P) : es.length = P.length := by
  induction h with
  | nil => rfl
  | cons _ _ _ ih => simp [ih]
theorem EsIs.get {es : List (Int × Value)} {P : List Nat} (h : EsIs es P) : ∀ {i : Nat} {e : Int × Value}, es[i]? = some e → ∃ p t, P[i]? = some p ∧ e = ((p : Int), .int (p : Int) t) := by
  induction h with
  | nil => intro i e h; cases h
  | cons p t _ ih =>
    intro i e h
    cases i with
    | zero => cases h; exact ⟨p, t, rfl, rfl⟩
    | succ i => exact ih (by simpa using h)
theorem EsIs.insert {es : List (Int × Value)} {P : List Nat} (h : EsIs es P) (k : Nat) (t : Tok) : ∀ n, EsIs (es.take n ++ ((k : Int), .int (k : Int) t) :: es.drop n) (P.take n ++ k :: P.drop n) := by
  induction h with
  | nil => intro n; simp; exact .cons k t .nil
  | cons p u r ih =>
    intro n
    cases n with
    | zero => exact .cons k t (.cons p u r)
    | succ n => simp only [List.take_succ_cons, List.drop_succ_cons, List.cons_append]; exact .cons p u (ih n)
theorem hash_small {k : Nat} (h : k < 6) : hashInt (k : Int) = k := by
  rcases k with _ | _ | _ | _ | _ | _ | k
  · decide +kernel
  · decide +kernel
  · decide +kernel
  · decide +kernel
  · decide +kernel
  · decide +kernel
  · omega
theorem subs_lt {P : List Nat} (hP : P ∈ subs) : ∀ p ∈ P, p < 6 := by
  have h : (subs.all fun P => P.all fun p => decide (p < 6)) = true := by decide +kernel
  have h := List.all_eq_true.mp h P hP
  intro p hp
  simpa using List.all_eq_true.mp h p hp
theorem EsIs.elems {prog : Program} {w : World} {es : List (Int × Value)} {P : List Nat} (h : EsIs es P) (hP : ∀ p ∈ P, p < 6) : ElemsOf (intKind prog w) es := by
  induction h with
  | nil => intro e he; cases he
  | cons p t _ ih =>
    intro e he
    rcases List.mem_cons.mp he with rfl | he
    · exact ⟨⟨(p : Int), intKind_is _ _ _ _, (hash_small (hP p (List.mem_cons_self ..))).symm⟩, rfl⟩
    · exact ih (fun q hq => hP q (List.mem_cons_of_mem _ hq)) e he
end
section
abbrev setObj (es : Array (Int × Value)) (ep : Nat) (t : SetTable) : Obj := { cls := .type "set", dict := none, data := .set es ep t, slots := #[] }
section
variable {prog : Program} {w : World} {A : Around} {E : Value → Shared → Prop} {s : Shared}
theorem setAdd_exact {a : Addr} {P : List Nat} {led : Bool} {es : Array (Int × Value)} {ep k : Nat} {tk : Tok} {Q : Bool → Shared → Prop} (hP : P ∈ subs) (h2 : P.length ≤ 2) (hk : k < 6)
    (ho : s.heap.get? a = some (setObj es ep (tab P led))) (hes : EsIs es.toList P)
    (h : ∀ b h' P' es' ep', P' ∈ subs → P'.length ≤ P.length + 1 → h'.get? a = some (setObj es' ep' (tab P' led)) → EsIs es'.toList P' → Heap.SameBut a s.heap h' → Q b { s with heap := h' }) :
    wpAny (model prog w) A (setAddHashed a (.int (k : Int) tk) ((intKind prog w).hash (k : Int))) Q E s := by
  have hel : ElemsOf (intKind prog w) es.toList := hes.elems (subs_lt hP)
  have hsz : es.size = P.length := by rw [← Array.length_toList]; exact hes.length
  have hf : (tab P led).fits es.size = true := by rw [hsz]; exact tab_fits hP
  have hb : es.size < scanBound := by rw [hsz]; have := subs_len hP; unfold scanBound; omega
  have hkey : (intKind prog w).is (k : Int) (.int (k : Int) tk) = true := intKind_is _ _ _ _
  unfold setAddHashed setAddHashedIn
  refine wpAny_holding (wpAny_bind (wpAny_setState_of ho rfl hf ?_))
  dsimp only
  rw [byScan_of (knd := intKind prog w) rfl hb hel]
  simp only [↓reduceIte]
  unfold setAddByScan
  refine wpAny_bind ?_
  refine wpAny_bind (wpAny_rule ?_)
  refine wpAny_bind (wpAny_setScan_of hkey ho rfl hf hel ?_)
  cases hr : List.findIdx? (fun e => (intKind prog w).is (k : Int) e.2) es.toList with
  | some j =>
    dsimp only
    refine wpAny_pure (wpAny_pure ?_)
    have e : s = { s with heap := s.heap } := by cases s; rfl
    rw [e]
    exact h _ _ P es ep hP (Nat.le_succ _) ho hes (Heap.SameBut.refl a s.heap)
  | none =>
    dsimp only
    have hn : k ∉ P := by
      intro hm
      obtain ⟨i, hi, e⟩ := List.getElem_of_mem hm
      have hlen := hes.length
      have hi' : i < es.toList.length := by omega
      obtain ⟨p, t, hp, ee⟩ := hes.get (i := i) (e := es.toList[i]) (by simp)
      have hpk : p = k := by rw [List.getElem?_eq_getElem hi, e] at hp; exact (Option.some.inj hp).symm
      have := List.findIdx?_eq_none_iff.mp hr es.toList[i] (List.getElem_mem hi')
      rw [ee, hpk] at this
      exact absurd (intKind_is prog w (k : Int) t) (by rw [this]; decide)
    obtain ⟨l1, l2, l3, l4, l5, l6⟩ := lay_one (led := led) hP h2 hk hn
    have hh : (intKind prog w).hash (k : Int) = (k : Int) := hash_small hk
    rw [hh]
    have hL : layNew (tab P led) es (k : Int) (.int (k : Int) tk) = (SetTable.insertAt es (idx P k) ((k : Int), .int (k : Int) tk), tab (ins P k) led, false, false) := by
      have hsz' : (SetTable.insertAt es (idx P k) ((k : Int), Value.int (k : Int) tk)).size = P.length + 1 := by
        rw [← Array.length_toList, SetTable.toList_insertAt]
        simp [hsz]; omega
      unfold layNew
      rw [l3]
      dsimp only
      rw [l4]
      dsimp only
      rw [hsz', SetTable.orStandIn, if_pos l5, l5]
      rfl
    rw [hL]
    dsimp only
    refine wpAny_bind (wpAny_pure ?_)
    rw [if_pos (by rfl)]
    refine wpAny_bind ?_
    rw [hashByValue_scannable 8 rfl]
    refine wpAny_pure ?_
    have hz : (SetTable.insertAt es (idx P k) ((k : Int), Value.int (k : Int) tk)).size ≤ sizeLine := by
      rw [← Array.length_toList, SetTable.toList_insertAt, sizeLine_eq]
      have := subs_len hP
      simp [hsz]; omega
    have hes' : EsIs (SetTable.insertAt es (idx P k) ((k : Int), Value.int (k : Int) tk)).toList (ins P k) := by
      rw [SetTable.toList_insertAt]; exact hes.insert k tk _
    dsimp only [plainKind]
    simp only [↓reduceIte, l6, Bool.not_false, Bool.and_false, Bool.false_eq_true]
    refine wpAny_bind (wpAny_storeSet_of ho rfl ?_ hz)
    refine wpAny_pure (wpAny_pure ?_)
    have hg : (s.heap.update a (Obj.putSet (SetTable.insertAt es (idx P k) ((k : Int), Value.int (k : Int) tk)) (tab (ins P k) led))).get? a = some (setObj (SetTable.insertAt es (idx P k) ((k : Int), Value.int (k : Int) tk)) (ep + 1) (tab (ins P k) led)) := by
      have q := Heap.get?_update_self (Obj.putSet (SetTable.insertAt es (idx P k) ((k : Int), Value.int (k : Int) tk)) (tab (ins P k) led)) ho (by rfl)
      rw [putSet_of (ep := ep) (t := tab P led) (es := es) _ _ rfl] at q; exact q
    refine h _ _ (ins P k) _ (ep + 1) l2 ?_ hg hes' (Heap.SameBut.update s.heap a _)
    unfold ins
    simp; omega
end
end
section
def ledOf (w : World) : Bool := !(w.params.followText "set-order")
section
variable {prog : Program} {w : World} {A : Around} {R : Result → Shared → Prop}
theorem codeAny_set_loop (hh : A.in1.handled = none) {hb : Heap} {l I S ln : Nat} {vs : List Value} {ns : List Int} {led : Bool} (hlb : hb.get? l = some (listOf vs.toArray ln)) (hS : S = hb.objs.size) (hI : hb.objs.size < I) (hv : IntsAre vs ns) (hr : ∀ n ∈ ns, 0 ≤ n ∧ n < 6) (hz : vs.length ≤ 3) :
    ∀ (j i : Nat) (s : Shared) (P : List Nat) (es : Array (Int × Value)) (ep : Nat), vs.length - i = j → i ≤ vs.length → (∀ b o, hb.get? b = some o → s.heap.get? b = some o) → s.heap.IsListIter I l i → s.heap.get? S = some (setObj es ep (tab P led)) → P ∈ subs → P.length ≤ i → EsIs es.toList P →
      (∀ h' tk P es ep, (∀ b o, b ≠ I → b ≠ S → s.heap.get? b = some o → h'.get? b = some o) → h'.get? S = some (setObj es ep (tab P led)) → P ∈ subs → EsIs es.toList P → R (.ok (.ret .none)) { s with heap := h', toks := tk }) →
      codeAny (model prog w) A (.builtin "set.update.loop" ⟨[.ref S, .ref I], []⟩) R s := by
  have hSI : S ≠ I := by omega
  have hb_lt : ∀ b o, hb.get? b = some o → b ≠ S ∧ b ≠ I := fun b o e => by
    have : @LT.lt Nat _ b hb.objs.size := Heap.lt_size e
    exact ⟨by rw [hS]; exact Nat.ne_of_lt this, Nat.ne_of_lt (Nat.lt_trans this hI)⟩
  intro j
  induction j with
  | zero =>
    intro i s P es ep hk hi hkeep hit hso hP hPl hes hR
    have hin : i = vs.length := by omega
    subst hin
    have hls : s.heap.IsList l vs.toArray := ⟨_, hkeep _ _ hlb, rfl, ln, rfl⟩
    refine codeAny_builtin PyProof.Rows.F.entry_set_update_loop ?_
    rw [Around.under_plainId PyProof.Rows.F.plain_set_update_loop _]
    show wpAny _ A.in1 (pyNext (.ref I) >>= _) _ _ s
    refine wpAny_bind (wpAny_pyNext_list_end hh hit hls (by simp) fun h' he' => ?_)
    show wpAny _ A.in1 (ret Value.none) _ _ _
    exact wpAny_pure (hR h' s.toks P es ep (fun b o hbI _ e => he' b o hbI e) (he' _ _ hSI hso) hP hes)
  | succ j ih =>
    intro i s P es ep hk hi hkeep hit hso hP hPl hes hR
    have hlt : i < vs.length := by omega
    have hls : s.heap.IsList l vs.toArray := ⟨_, hkeep _ _ hlb, rfl, ln, rfl⟩
    have hlen := hv.length
    obtain ⟨t, ht⟩ := hv.get i (ns[i]'(by omega)) (by simp [show i < ns.length by omega])
    have hn := hr (ns[i]'(by omega)) (List.getElem_mem _)
    generalize ns[i]'(by omega) = n at ht hn
    obtain ⟨k, rfl⟩ : ∃ k : Nat, n = (k : Int) := ⟨n.toNat, by omega⟩
    refine codeAny_builtin PyProof.Rows.F.entry_set_update_loop ?_
    rw [Around.under_plainId PyProof.Rows.F.plain_set_update_loop _]
    show wpAny _ A.in1 (pyNext (.ref I) >>= _) _ _ s
    refine wpAny_bind (wpAny_pyNext_list_item hit hls (x := .int (k : Int) t) (by simpa using ht) fun h' hit' hs' => ?_)
    show wpAny _ A.in1 (holding [Value.int (k : Int) t] (setAdd S (.int (k : Int) t)) >>= _) _ _ _
    refine wpAny_bind (wpAny_holding ?_)
    unfold setAdd
    refine wpAny_holding (wpAny_bind ((intKind prog w).pyHash (k := (k : Int)) (intKind_is _ _ _ _) ?_))
    refine setAdd_exact (s := { s with heap := h', toks := s.toks + 1 }) hP (by omega) (by omega) ((hs'.2 S hSI).trans hso) hes fun b h'' P' es' ep' hP' hl' ho' hes' hs'' => ?_
    refine wpAny_pure ⟨plainId_quiet PyProof.Rows.F.plain_set_update_loop _, ?_⟩
    refine ih (i + 1) { s with heap := h'', toks := s.toks + 1 } P' es' ep' (by omega) hlt (fun b o e => ?_) ?_ ho' hP' (by omega) hes' ?_
    · exact (hs''.2 b (hb_lt b o e).1).trans ((hs'.2 b (hb_lt b o e).2).trans (hkeep b o e))
    · exact hit'.extBut hs''.extBut (Ne.symm hSI)
    · intro h3 tk3 P3 es3 ep3 hk3 hg3 hP3 he3
      exact hR h3 tk3 P3 es3 ep3 (fun b o hbI hbS e => hk3 b o hbI hbS ((hs''.2 b hbS).trans ((hs'.2 b hbI).trans e))) hg3 hP3 he3
end
section
variable {prog : Program} {w : World} {A : Around} {E : Value → Shared → Prop} {s : Shared}
theorem set_new_led (a : Value) {Q₁ : Value → Shared → Prop}
    (h : Q₁ (.ref s.heap.objs.size) { s with heap := s.heap.push (setObj #[] 0 (tab [] (ledOf w))) }) :
    codeAny (model prog w) A (.call (.builtin "set.__new__") ⟨[.type "set", a], []⟩) (wants Q₁ E) s := by
  refine codeAny_of_tree ?_
  show wpAny _ A.in1 (do checkBuiltinCall "set.__new__" ⟨[.type "set", a], []⟩; again (.builtin "set.__new__" ⟨[.type "set", a], []⟩)) _ _ s
  refine wpAny_bind (wpAny_of_eq (PySem.F.newCall_set_1 a) (wpAny_pure ⟨plainId_quiet PySem.F.plain_set_new _, codeAny_builtin PySem.F.entry_set_new ?_⟩))
  rw [Around.under_plainId PySem.F.plain_set_new _]
  unfold Builtin.«set.__new__» Builtin.Frozenset.newClass
  have hsub := sub_set_self
  obtain ⟨hp, g, d, tk, os⟩ := s
  dsimp only
  wp_walk
  refine wpAny_askSetting (wpAny_pure ?_)
  dsimp only
  simp only [newObj]
  refine wpAny_bind (wpAny_alloc (wpAny_pure ?_))
  exact wpAny_pure h

theorem call_set_exact {l ln : Nat} {vs : List Value} {ns : List Int} {Q : Value → Shared → Prop}
    (hh : A.handled = none) (hlb : s.heap.get? l = some (listOf vs.toArray ln)) (hv : IntsAre vs ns) (hr : ∀ n ∈ ns, 0 ≤ n ∧ n < 6) (hz : vs.length ≤ 3)
    (h : ∀ (h' : Heap) (tk : Nat) P es ep, h'.get? s.heap.objs.size = some (setObj es ep (tab P (ledOf w))) → P ∈ subs → EsIs es.toList P → (∀ b o, s.heap.get? b = some o → h'.get? b = some o) → Q (.ref s.heap.objs.size) { s with heap := h', toks := tk }) :
    wpAny (model prog w) A (call (.type "set") [.ref l]) Q E s := by
  obtain ⟨c, tl, hmro⟩ := PySem.F.called_set.mro
  have hmade := PySem.F.called_set.made
  have hsub := PySem.F.called_set.sub
  refine wpAny_call (codeAny_of_tree ?_)
  show wpAny _ _ (callAny (.type "set") _) _ _ _
  refine wpAny_pure ⟨Code.quiet_builtin _ (by decide +kernel), codeAny_builtin PySem.F.entry_type_call ?_⟩
  rw [Around.under_plain (weight_type_call_type "set" [.ref l] []) rfl]
  have h1 := PySem.F.called_set.notType
  have h2 := PySem.F.called_set.canCreate
  have hct := PySem.F.typeCall_set_1 (.ref l)
  repeat (any_goals (first | assumption | wp_step))
  refine codeAny_mono (set_new_led (.ref l) (E := E) (Q₁ := fun obj s₁ => obj = .ref s.heap.objs.size ∧ s₁ = { s with heap := s.heap.push (setObj #[] 0 (tab [] (ledOf w))) }) ⟨rfl, rfl⟩) fun r s₁ hr₁ => ?_
  cases r with
  | error e => exact hr₁
  | ok fl =>
    cases fl with
    | ret obj =>
      obtain ⟨rfl, rfl⟩ := hr₁
      have hS : (s.heap.push (setObj #[] 0 (tab [] (ledOf w)))).get? s.heap.objs.size = some (setObj #[] 0 (tab [] (ledOf w))) := Heap.get?_push_size _ rfl
      have hT : Shared.TypeIs { s with heap := s.heap.push (setObj #[] 0 (tab [] (ledOf w))) } (.ref s.heap.objs.size) "set" := ⟨_, hS, rfl⟩
      have hli := PySem.F.called_set.init.lookup
      have hbi := PySem.F.called_set.init.bind (.ref s.heap.objs.size)
      repeat (any_goals (first | assumption | wp_step))
      refine codeAny_mono (codeAny_call_builtin (R := wants (fun r s₂ => r = .none ∧ ∃ h' tk P es ep, s₂ = { s with heap := h', toks := tk } ∧ h'.get? s.heap.objs.size = some (setObj es ep (tab P (ledOf w))) ∧ P ∈ subs ∧ EsIs es.toList P ∧
          (∀ b o, s.heap.get? b = some o → h'.get? b = some o)) E) PySem.F.called_set.init.plain PySem.F.entry_set_init (check_set_init_1 hT ?_)) fun r₂ s₂ hr₂ => ?_
      · have hl1 : (s.heap.push (setObj #[] 0 (tab [] (ledOf w)))).get? l = some (listOf vs.toArray ln) := Heap.get?_push_of_some _ hlb
        have hl2 : (s.heap.push (setObj #[] 0 (tab [] (ledOf w)))).IsList l vs.toArray := ⟨_, hl1, rfl, ln, rfl⟩
        have hsls := PySem.F.sub_list_set
        have hslf := PySem.F.sub_list_frozenset
        have hne : (Value.type "list" == Value.type "dict") = false := by decide
        unfold Builtin.«set.__init__» noKeywords Builtin.Frozenset.updateFrom
        generalize hPI : pyIter = PI
        wp_walk
        subst hPI
        refine wpAny_pyIter_list hl2 ?_
        refine wpAny_bind (wpAny_runValue ?_)
        have hh3 : A.in1.in1.in1.handled = none := by simp [hh]
        refine codeAny_set_loop (A := A.in1.in1) (hb := s.heap) (l := l) (ln := ln) hh3 hlb rfl (by rw [Heap.size_push]; exact Nat.lt_succ_self _) hv hr hz (vs.length - 0) 0 _ [] #[] 0 rfl (Nat.zero_le _)
          (fun b o e => Heap.get?_push_of_some _ (Heap.get?_push_of_some _ e)) ⟨_, Heap.get?_push_size _ rfl, rfl, rfl⟩ (Heap.get?_push_of_some _ hS) (by decide) (Nat.le_refl _) .nil ?_
        intro h' tk' P es ep hk hg hP he
        show wpAny _ _ _ _ _ _
        refine wpAny_pure ?_
        show wpAny _ _ (ret Value.none) _ _ _
        refine wpAny_pure ⟨rfl, h', tk', P, es, ep, rfl, hg, hP, he, fun b o e => hk b o ?_ ?_ (Heap.get?_push_of_some _ (Heap.get?_push_of_some _ e))⟩
        · have := Heap.lt_size e
          rw [Heap.size_push]; exact Nat.ne_of_lt (Nat.lt_succ_of_lt this)
        · exact Nat.ne_of_lt (Heap.lt_size e)
      · cases r₂ with
        | error e => exact hr₂
        | ok fl₂ =>
          cases fl₂ with
          | ret r =>
            obtain ⟨rfl, h', tk, P, es, ep, rfl, hg, hP, he, hk'⟩ := hr₂
            repeat (any_goals (first | assumption | wp_step))
            exact h _ _ P es ep hg hP he hk'
          | _ => exact hr₂.elim
    | _ => exact hr₁.elim
end
end
section
theorem pickGo_spec {α : Type} (next : Nat → Nat) : ∀ (fuel k : Nat) (left : List α) (out : Array α), fuel = left.length →
    (pickOrder.go next fuel k left out).size = out.size + fuel ∧ ∀ x ∈ pickOrder.go next fuel k left out, x ∈ out ∨ x ∈ left := by
  intro fuel
  induction fuel with
  | zero => intro k left out h; unfold pickOrder.go; exact ⟨rfl, fun x hx => .inl hx⟩
  | succ fuel ih =>
    intro k left out h
    have hl : 0 < left.length := by omega
    have hlt : next k % left.length < left.length := Nat.mod_lt _ hl
    unfold pickOrder.go
    rw [List.getElem?_eq_getElem hlt]
    dsimp only
    have hlen : fuel = (left.eraseIdx (next k % left.length)).length := by rw [List.length_eraseIdx_of_lt hlt]; omega
    obtain ⟨a, b⟩ := ih (k + 1) _ (out.push left[next k % left.length]) hlen
    refine ⟨by rw [a, Array.size_push]; omega, fun x hx => ?_⟩
    rcases b x hx with h | h
    · rcases Array.mem_push.mp h with h | rfl
      · exact .inl h
      · exact .inr (List.getElem_mem hlt)
    · exact .inr (List.mem_of_mem_eraseIdx h)
theorem pick_size {α : Type} (next : Nat → Nat) (xs : Array α) : (pickOrder next xs).size = xs.size := by
  have := (pickGo_spec next xs.size 0 xs.toList #[] (by simp)).1
  unfold pickOrder
  rw [this]; simp
theorem pick_mem {α : Type} (next : Nat → Nat) (xs : Array α) {x : α} (h : x ∈ pickOrder next xs) : x ∈ xs := by
  unfold pickOrder at h
  have := (pickGo_spec next xs.size 0 xs.toList #[] (by simp)).2 x h
  simpa using this

theorem slot_set_iterator_next : Slot "set_iterator" "__next__" "set_iterator.__next__" :=
  .of (owner := "set_iterator") (n := "__next__") (by rw [typeLookup_type, builtinLookup_eq_fast]; kernel_rfl) (by decide +kernel) (by decide +kernel) (by decide +kernel)
    (by first | exact .inl (by decide +kernel) | exact .inr (by decide +kernel)) (by rw [isSubtype_type]; kernel_rfl)
theorem entry_set_iterator_next : entryFor table "set_iterator.__next__" = some Builtin.«set_iterator.__next__» := entryFor_of_tree (by kernel_rfl)
theorem owner_set_iterator : Manifest.owners.lookup (String.ofList ['r', 'o', 't', 'a', 'r', 'e', 't', 'i', '_', 't', 'e', 's'].reverse) = some Manifest.sig_set_iterator := by kernel_rfl
theorem args_set_iterator_next (a : Value) : argsOk "set_iterator.__next__" ⟨[a], []⟩ := by
  unfold argsOk; rw [signature?_of (id := "set_iterator.__next__") (n := ['_', '_', 't', 'x', 'e', 'n', '_', '_']) (o := ['r', 'o', 't', 'a', 'r', 'e', 't', 'i', '_', 't', 'e', 's']) (by kernel_rfl) owner_set_iterator]; kernel_rfl
theorem entry_set_iter : entryFor table "set.__iter__" = some Builtin.«frozenset.__iter__» :=
  entryFor_alias (id' := "frozenset.__iter__") (by kernel_rfl) rfl (by decide +kernel) (by kernel_rfl)

def setIt (a : Addr) (sl i n ep : Nat) : Obj := { cls := .type "set_iterator", dict := none, data := .fields #[.int (sl : Int) 0, .int (i : Int) 0, .ref a, .int (n : Int) 0, .int (ep : Int) 0], slots := #[] }
def SetSt (w : World) (I a : Addr) (es : Array (Int × Value)) (ep : Nat) (P : List Nat) (i : Nat) (h : Heap) : Prop :=
  h.get? a = some (setObj es ep (tab P (ledOf w))) ∧ ∃ sl, h.get? I = some (setIt a sl i es.size ep) ∧ (ledOf w = true → SetTable.below P.toArray sl = i)

section
variable {prog : Program} {w : World} {A : Around} {E : Value → Shared → Prop} {s : Shared} {I a : Addr} {es : Array (Int × Value)} {ep : Nat} {P : List Nat} {i : Nat}
theorem setNext_of {sl : Nat} {Q : Option (Value × Nat) → Shared → Prop} (hP : P ∈ subs) (hes : EsIs es.toList P) (ho : s.heap.get? a = some (setObj es ep (tab P (ledOf w)))) (hb : ledOf w = true → SetTable.below P.toArray sl = i)
    (hsome : i < es.size → ∀ (k : Nat) t nx, k < 6 → (ledOf w = true → SetTable.below P.toArray nx = i + 1) → Q (some (.int (k : Int) t, nx)) s) (hnone : ¬ i < es.size → Q none s) :
    wpAny (model prog w) A (setNext a sl i ep) Q E s := by
  have hsz : es.size = P.length := by rw [← Array.length_toList]; exact hes.length
  have hf : (tab P (ledOf w)).fits es.size = true := by rw [hsz]; exact tab_fits hP
  have item : ∀ e ∈ es, ∃ (k : Nat) (t : Tok), k < 6 ∧ e.2 = .int (k : Int) t := fun e he => by
    obtain ⟨j, hj, ej⟩ := List.getElem_of_mem (Array.mem_toList_iff.mpr he)
    obtain ⟨p, t, hp, ee⟩ := hes.get (i := j) (e := e) (by rw [List.getElem?_eq_getElem hj, ej])
    exact ⟨p, t, subs_lt hP p (List.mem_of_getElem? hp), by rw [ee]⟩
  unfold setNext
  refine wpAny_bind (wpAny_setState_of ho rfl hf ?_)
  dsimp only
  refine wpAny_bind (m := setsByText) (wpAny_bind (wpAny_askSetting (wpAny_pure ?_)))
  dsimp only
  cases hbt : w.params.followText "set-order" with
  | true =>
    have hl : ledOf w = true → False := fun q => by unfold ledOf at q; rw [hbt] at q; cases q
    have hbt' : (model prog w).w.params.followText "set-order" = true := hbt
    rw [if_pos hbt', if_neg (by simp)]
    refine wpAny_bind ?_
    unfold setWalk
    refine wpAny_bind (wpAny_setState_of ho rfl hf ?_)
    dsimp only
    refine wpAny_bind (m := setsByText) (wpAny_bind (wpAny_askSetting (wpAny_pure ?_)))
    dsimp only
    rw [if_pos hbt']
    refine wpAny_bind (wpAny_askSetting (wpAny_pure ?_))
    dsimp only
    refine wpAny_pure ?_
    show Q (Option.map (fun e => (e.2, sl)) (pickOrder (w.params.setOrder a ep) es)[i]?) s
    by_cases hi : i < es.size
    · have hi' : i < (pickOrder (w.params.setOrder a ep) es).size := by rw [pick_size]; exact hi
      rw [Array.getElem?_eq_getElem hi']
      obtain ⟨k, t, hk, e⟩ := item _ (pick_mem _ _ (Array.getElem_mem hi'))
      simp only [Option.map_some]
      rw [e]
      exact hsome hi k t sl hk fun q => (hl q).elim
    · rw [Array.getElem?_eq_none (by rw [pick_size]; omega)]
      exact hnone hi
  | false =>
    have hl : ledOf w = true := by unfold ledOf; rw [hbt]; rfl
    have hbt' : ¬ (model prog w).w.params.followText "set-order" = true := by
      show ¬ w.params.followText "set-order" = true
      rw [hbt]; exact Bool.false_ne_true
    rw [if_neg hbt', if_neg (by exact Bool.false_ne_true), hl]
    refine wpAny_bind (wpAny_of_eq (a := ()) rfl ?_)
    have hbi := hb hl
    show wpAny _ _ (pure (match es[SetTable.below P.toArray sl]?, P.toArray[SetTable.below P.toArray sl]? with | some (_, x), some j => some (x, j + 1) | _, _ => none)) _ _ _
    rw [hbi]
    refine wpAny_pure ?_
    by_cases hi : i < es.size
    · obtain ⟨p, t, hp, e⟩ := hes.get (i := i) (e := es[i]) (by simp [hi])
      rw [Array.getElem?_eq_getElem hi, e]
      have hp' : P.toArray[i]? = some p := by simpa using hp
      rw [hp']
      exact hsome hi p t (p + 1) (subs_lt hP p (List.mem_of_getElem? hp)) fun _ => (tab_walk hP).2 i p hp
    · rw [Array.getElem?_eq_none (by omega)]
      exact hnone hi
end

section
variable {prog : Program} {w : World} {A : Around} {E : Value → Shared → Prop} {s : Shared} {I a : Addr} {es : Array (Int × Value)} {ep : Nat} {P : List Nat} {i : Nat}
theorem setNext_head {Q : Option Value → Shared → Prop} (hP : P ∈ subs) (hes : EsIs es.toList P) (hst : SetSt w I a es ep P i s.heap) (hh : A.handled = none)
    (hitem : i < es.size → ∀ (k : Nat) t h', k < 6 → SetSt w I a es ep P (i + 1) h' → Heap.SameBut I s.heap h' → Q (some (.int (k : Int) t)) { s with heap := h' })
    (hend : ¬ i < es.size → ∀ h', Heap.ExtBut I s.heap h' → Q none { s with heap := h' }) (hIa : a ≠ I) : wpAny (model prog w) A (pyNext (.ref I)) Q E s := by
  obtain ⟨ho, sl, hI, hb⟩ := hst
  have hsz : es.size = P.length := by rw [← Array.length_toList]; exact hes.length
  have hf : (tab P (ledOf w)).fits es.size = true := by rw [hsz]; exact tab_fits hP
  have hT : s.TypeIs (.ref I) "set_iterator" := ⟨_, hI, rfl⟩
  unfold pyNext
  refine wpAny_bind (wpAny_attempt (wpAny_callSpecial?_slot (name := Str.ofString "__next__") hT slot_set_iterator_next
    (wpAny_call_entry slot_set_iterator_next hT entry_set_iterator_next ?_ (args_set_iterator_next _))))
  show wpAny _ _ (fieldsOf (.ref I) >>= _) _ _ s
  refine wpAny_bind (wpAny_fieldsOf hI rfl ?_)
  show wpAny _ _ (setEntries a >>= _) _ _ s
  refine wpAny_bind ?_
  unfold setEntries
  refine wpAny_bind (wpAny_setState_of ho rfl hf (wpAny_pure ?_))
  show wpAny _ _ (if (((es.size : Int) != (es.size : Int)) = true) then _ else _) _ _ s
  rw [if_neg (by simp)]
  show wpAny _ _ (setNext a sl i ep >>= _) _ _ s
  refine wpAny_bind (setNext_of hP hes ho hb (fun hi k t nx hk hnx => ?_) (fun hi => ?_))
  · dsimp only
    refine wpAny_bind (wpAny_setField hI rfl (by simp) ?_)
    have hI1 : (s.heap.update I (Obj.mapFields (·.setIfInBounds 0 (rawInt nx)))).get? I = some (setIt a nx i es.size ep) := Heap.get?_update_self _ hI rfl
    refine wpAny_bind (wpAny_setField (s := { s with heap := _ }) hI1 rfl (by simp) ?_)
    refine wpAny_pure ⟨_, rfl, wpAny_pure (hitem hi k t _ hk ⟨?_, nx, ?_, hnx⟩ ((Heap.SameBut.update ..).trans (Heap.SameBut.update ..)))⟩
    · exact (((Heap.SameBut.update s.heap I _).trans (Heap.SameBut.update _ I _)).2 a hIa).trans ho
    · have e : ((i : Int) + 1) = ((i + 1 : Nat) : Int) := by simp
      have := Heap.get?_update_self (Obj.mapFields (·.setIfInBounds 1 (rawInt ((i : Int) + 1)))) hI1 rfl
      rw [this]
      show some (setIt a nx i es.size ep |>.mapFields _) = _
      rw [e]; rfl
  · dsimp only
    refine wpAny_bind (wpAny_setField hI rfl (by simp) ?_)
    show wpAny _ _ (newExc (.type "StopIteration") [] >>= _) _ _ _
    refine wpAny_bind ?_
    simp only [newExc, newTuple]
    refine wpAny_bind (wpAny_newObj_type ?_ (by size_fits))
    refine wpAny_bind (m := firstArgMember _ _) (wpAny_of_eq (a := Value.none) (by first | rfl | (simp only [firstArgMember]; rfl)) ?_)
    refine wpAny_newObj_type ?_ (by size_fits)
    simp only [raiseNew]
    refine wpAny_bind (wpAny_handled ?_)
    first | rw [show A.in1.handled = none from hh] | rw [hh]
    refine wpAny_bind (wpAny_pure (wpAny_throw ?_))
    refine wpAny_bind (wpAny_isInstance (T := "StopIteration") (b := true) ⟨_, Heap.get?_push_size _ rfl, rfl⟩ isSubtype_stop ?_)
    exact wpAny_pure (hend hi _ ((((Heap.SameBut.update s.heap I _).extBut).push _).push _))
end
end
section
theorem slot_set_iterator_iter : Slot "set_iterator" "__iter__" "set_iterator.__iter__" :=
  .of (owner := "set_iterator") (n := "__iter__") (by rw [typeLookup_type, builtinLookup_eq_fast]; kernel_rfl) (by decide +kernel) (by decide +kernel) (by decide +kernel)
    (by first | exact .inl (by decide +kernel) | exact .inr (by decide +kernel)) (by rw [isSubtype_type]; kernel_rfl)
theorem entry_set_iterator_iter : entryFor table "set_iterator.__iter__" = some Builtin.«dict_keyiterator.__iter__» :=
  entryFor_alias (id' := "dict_keyiterator.__iter__") (by kernel_rfl) rfl (by decide +kernel) (by kernel_rfl)
theorem args_set_iterator_iter (a : Value) : argsOk "set_iterator.__iter__" ⟨[a], []⟩ := by
  unfold argsOk; rw [signature?_of (id := "set_iterator.__iter__") (n := ['_', '_', 'r', 'e', 't', 'i', '_', '_']) (o := ['r', 'o', 't', 'a', 'r', 'e', 't', 'i', '_', 't', 'e', 's']) (by kernel_rfl) owner_set_iterator]; kernel_rfl
section
variable {prog : Program} {w : World} {A : Around} {E : Value → Shared → Prop} {s : Shared} {r : Addr}
theorem hint_set {Q : Bool → Shared → Prop} (hT : s.TypeIs (.ref r) "set") (h : Q false s) : wpAny (model prog w) A (Builtin.List.listLengthHint (.ref r)) Q E s := by
  unfold Builtin.List.listLengthHint
  refine wpAny_bind (wpAny_specialOf hT PySem.F.slot_set_len.lookup ?_)
  generalize hid : ("set.__len__" : String) = id0
  wp_delta
  rw [show splitId id0 = some ("set", "__len__") from by subst hid; decide +kernel]
  subst hid
  refine wpAny_bind (wpAny_isInstance (T := "set") (b := true) hT (by rw [isSubtype_type]; kernel_rfl) ?_)
  refine wpAny_ite_split (fun hab => absurd hab (by decide)) (fun _ => ?_)
  refine wpAny_ite_split (fun _ => ?_) (fun hab => absurd (by decide +kernel) hab)
  refine wpAny_bind (wpAny_typeOf hT ?_)
  exact wpAny_pure h
theorem pyIter_set {es : Array (Int × Value)} {ep : Nat} {P : List Nat} {Q : Value → Shared → Prop} (hP : P ∈ subs) (hes : EsIs es.toList P) (ho : s.heap.get? r = some (setObj es ep (tab P (ledOf w))))
    (hQ : Q (.ref s.heap.objs.size) { s with heap := s.heap.push (setIt r 0 0 es.size ep) }) : wpAny (model prog w) A (pyIter (.ref r)) Q E s := by
  have hT : s.TypeIs (.ref r) "set" := ⟨_, ho, rfl⟩
  have hsz : es.size = P.length := by rw [← Array.length_toList]; exact hes.length
  have hf : (tab P (ledOf w)).fits es.size = true := by rw [hsz]; exact tab_fits hP
  refine wpAny_pyIter_slot hT PySem.F.slot_set_iter (wpAny_call_entry PySem.F.slot_set_iter hT entry_set_iter ?_ (PySem.F.args_set_iter_1 _))
  show wpAny _ _ (Builtin.Frozenset.sizeOf r >>= _) _ _ s
  unfold Builtin.Frozenset.sizeOf
  refine wpAny_bind (wpAny_bind ?_)
  unfold setEntries
  refine wpAny_bind (wpAny_setState_of ho rfl hf (wpAny_pure (wpAny_pure ?_)))
  refine wpAny_bind ?_
  unfold setDrawn
  refine wpAny_bind (wpAny_setState_of ho rfl hf ?_)
  dsimp only
  refine wpAny_bind (m := setsByText) (wpAny_bind (wpAny_askSetting (wpAny_pure ?_)))
  dsimp only
  refine wpAny_pure ?_
  rw [if_neg (by rw [Bool.and_eq_true]; exact fun h => Bool.false_ne_true h.2)]
  refine wpAny_bind (wpAny_pure ?_)
  refine wpAny_bind (wpAny_setEpoch_of ho rfl hf ?_)
  refine wpAny_bind (wpAny_newObj_type (wpAny_pure ⟨_, rfl, "set_iterator", _, ⟨_, Heap.get?_push_size _ rfl, rfl⟩, slot_set_iterator_next.lookup, ?_⟩))
  exact hQ
theorem Walks.set {I a : Addr} {es : Array (Int × Value)} {ep : Nat} {P : List Nat} (hh : A.handled = none) (hIa : a ≠ I) (hP : P ∈ subs) (hes : EsIs es.toList P) :
    Walks prog w A I [I, a] [I] es.size (fun _ v => ∃ (k : Nat) (t : Tok), k < 6 ∧ v = .int (k : Int) t) (fun i h => SetSt w I a es ep P i h) where
  sub := fun b hb => by simp at hb; simp [hb]
  frame := fun _ _ _ st hk => ⟨hk a (by simp) _ st.1, let ⟨sl, x, y⟩ := st.2; ⟨sl, hk I (by simp) _ x, y⟩⟩
  item := fun i s Q E hi st hQ => setNext_head hP hes st hh (fun _ k t h' hk st' hs => hQ _ h' s.toks ⟨k, t, hk, rfl⟩ st' fun b o hb e => (hs.2 b (fun h => hb (by simp [h]))).trans e) (fun hn => absurd hi hn) hIa
  done := fun s Q E st hQ => setNext_head hP hes st hh (fun hi => absurd hi (Nat.lt_irrefl _)) (fun _ h' he => hQ h' s.toks fun b o hb e => he b o (fun h => hb (by simp [h])) e) hIa
  self := fun _ s Q E st hQ => by
    obtain ⟨_, sl, hI, _⟩ := st
    have hT : s.TypeIs (.ref I) "set_iterator" := ⟨_, hI, rfl⟩
    refine wpAny_pyIter_slot hT slot_set_iterator_iter (wpAny_call_entry slot_set_iterator_iter hT entry_set_iterator_iter ?_ (args_set_iterator_iter _))
    show wpAny _ _ (ret (.ref I)) _ _ s
    exact wpAny_pure ⟨_, rfl, "set_iterator", _, hT, slot_set_iterator_next.lookup, hQ⟩
theorem src_set {a : Addr} {es : Array (Int × Value)} {ep : Nat} {P : List Nat} (hP : P ∈ subs) (hes : EsIs es.toList P) :
    KdlSrc prog w "set" a a es.size (fun _ v => ∃ (k : Nat) (t : Tok), k < 6 ∧ v = .int (k : Int) t) (fun h => h.get? a = some (setObj es ep (tab P (ledOf w)))) where
  type := fun _ ho => ⟨_, ho, rfl⟩
  there := fun _ ho => ⟨Heap.lt_size ho, Heap.lt_size ho⟩
  keep := fun _ _ ho hk => hk a (.inl rfl) _ ho
  notList := by decide
  notTuple := by decide
  hint := fun _ _ _ _ ho hq => hint_set ⟨_, ho, rfl⟩ hq
  iter := fun _ s hh ho => ⟨_, _, (fun _ _ hq => pyIter_set hP hes ho hq), Walks.set hh (Nat.ne_of_lt (Heap.lt_size ho)) hP hes, ⟨Heap.get?_push_of_some _ ho, 0, Heap.get?_push_size _ rfl, fun _ => (tab_walk hP).1⟩⟩
theorem ints_of {vs : List Value} {B : Int → Prop} (h : ∀ (j : Nat) (v : Value), vs[j]? = some v → ∃ n t, B n ∧ v = Value.int n t) : ∃ ns, IntsAre vs ns ∧ ∀ n ∈ ns, B n := by
  induction vs with
  | nil => exact ⟨[], .nil, fun _ h => nomatch h⟩
  | cons v vs ih =>
    obtain ⟨n, t, hb, rfl⟩ := h 0 v rfl
    obtain ⟨ns, h1, h2⟩ := ih fun j u hu => h (j + 1) u (by simpa using hu)
    exact ⟨n :: ns, .cons n t h1, fun m hm => by rcases List.mem_cons.mp hm with rfl | hm; exact hb; exact h2 m hm⟩
end
end
section
section
variable {prog : Program} {w : World} {A : Around} {E : Value → Shared → Prop} {s : Shared} {h₀ : Heap} {L : Addr} {m : Str → Option Value} {news : List (Addr × Obj)}
theorem sorted_src {T : String} {r d : Addr} {n : Nat} {P : Nat → Value → Prop} {OK : Heap → Prop} {Q : Value → Shared → Prop} (K : KdlSrc prog w T r d n P OK) (hh : A.handled = none) (F : Fr h₀ L s.heap m) (N : News h₀ L s.heap news) (hok : OK s.heap) (hn : n < 64)
    (hP : ∀ j v, P j v → ∃ n t, v = Value.int n t)
    (h : ∀ D h' tk vs₀ ns₀ vs ns c, Fr h₀ L h' m → News h₀ L h' ((D, listOf (List.toArray vs) c) :: news) → (∀ q ∈ news, q.1 < D) → vs₀.length = n → (∀ (j : Nat) (v : Value), vs₀[j]? = some v → P j v) → IntsAre vs₀ ns₀ → IntsAre vs ns → ns.Perm ns₀ → ns.Pairwise (· ≤ ·) → Q (.ref D) { s with heap := h', toks := tk }) :
    wpAny (model prog w) A (call (.builtin "sorted") [.ref r]) Q E s := by
  refine kdu_sorted K hh F N hok (by rw [sizeLine_eq]; omega) fun D h' tk vs₀ F' N' l1 hl hv => ?_
  obtain ⟨ns₀, hi, _⟩ := ints_of (B := fun _ => True) (fun j v e => let ⟨n, t, e'⟩ := hP j v (hv j v e); ⟨n, t, trivial, e'⟩)
  refine ksk_lsort F' N' (vs := vs₀) (fun o => Upd.head fun p hp e => Nat.lt_irrefl D (by have := l1 p hp; rw [e] at this; exact this)) (by simp) hi (by have := hi.length; omega) fun vs ns c h'' F'' N'' hi' hl' hp hs _ => ?_
  exact h D h'' tk vs₀ ns₀ vs ns c F'' N'' l1 hl hv hi hi' hp hs
theorem sorted_set {a : Addr} {es : Array (Int × Value)} {ep : Nat} {P : List Nat} {Q : Value → Shared → Prop} (hh : A.handled = none) (F : Fr h₀ L s.heap m) (N : News h₀ L s.heap news) (ho : s.heap.get? a = some (setObj es ep (tab P (ledOf w)))) (hP : P ∈ subs) (hes : EsIs es.toList P)
    (h : ∀ D h' tk vs ns c, Fr h₀ L h' m → News h₀ L h' ((D, listOf (List.toArray vs) c) :: news) → (∀ q ∈ news, q.1 < D) → IntsAre vs ns → ns.length ≤ 3 → Q (.ref D) { s with heap := h', toks := tk }) :
    wpAny (model prog w) A (call (.builtin "sorted") [.ref a]) Q E s := by
  have hsz : es.size = P.length := by rw [← Array.length_toList]; exact hes.length
  have h3 := subs_len hP
  refine sorted_src (src_set hP hes) hh F N ho (by omega) (fun j v ⟨k, t, _, e⟩ => ⟨_, t, e⟩) fun D h' tk vs₀ ns₀ vs ns c F' N' l1 hl _ hi₀ hi hp _ => ?_
  refine h D h' tk vs ns c F' N' l1 hi ?_
  rw [hp.length_eq, ← hi₀.length, hl]; omega
theorem sorted_dict {d : Addr} {V : Value → Prop} {keys : List Int} {kvs : List (Int × Value)} {Q : Value → Shared → Prop} (hh : A.handled = none) (F : Fr h₀ L s.heap m) (N : News h₀ L s.heap news) (ho : s.heap.DictOf (intKind prog w) d kvs) (lo : (d == sysModules) = false) (hc : ConstV V keys kvs) (hz : keys.length < 64)
    (h : ∀ D h' tk vs ns c, Fr h₀ L h' m → News h₀ L h' ((D, listOf (List.toArray vs) c) :: news) → (∀ q ∈ news, q.1 < D) → IntsAre vs ns → ns.Pairwise (· < ·) → (∀ g, g ∈ ns ↔ g ∈ keys) → ns.length ≤ keys.length → Q (.ref D) { s with heap := h', toks := tk }) :
    wpAny (model prog w) A (call (.builtin "sorted") [.ref d]) Q E s := by
  obtain ⟨ep, hat⟩ := ho.dictAt
  have hnd : (kvs.map (·.1)).Nodup := let ⟨_, _, _, _, _, _, _, _, hn⟩ := ho; hn
  refine sorted_src (kdl_dict (knd := intKind prog w) (kvs := kvs) (ep := ep) lo) hh F N hat (by have := hc.1; omega) (fun j v ⟨k, x, _, hk⟩ => ?_) fun D h' tk vs₀ ns₀ vs ns c F' N' l1 hl hv hi₀ hi hp hs => ?_
  · cases v <;> first | exact ⟨_, _, rfl⟩ | (simp [intKind, Value.isInt] at hk)
  · have e : ns₀ = kvs.map (·.1) := by
      apply List.ext_getElem
      · rw [← hi₀.length, hl, List.length_map]
      · intro j h1 h2
        have h3 : j < vs₀.length := by rw [hi₀.length]; exact h1
        obtain ⟨t, ht⟩ := hi₀.get j ns₀[j] (by simp [h1])
        obtain ⟨k, x, hx, hk⟩ := hv j _ ht
        have hk' : ns₀[j] = k := by simpa [intKind, Value.isInt] using hk
        have h4 : j < kvs.length := by simpa using h2
        rw [List.getElem?_eq_getElem h4] at hx
        have := Option.some.inj hx
        rw [List.getElem_map, this]; exact hk'
    subst e
    refine h D h' tk vs ns c F' N' l1 hi ?_ (fun g => (hp.mem_iff).trans (hc.mem g)) (by rw [hp.length_eq, List.length_map]; exact hc.1)
    have hn : ns.Nodup := hp.nodup_iff.mpr hnd
    exact (List.pairwise_and_iff.mpr ⟨hs, hn⟩).imp fun ⟨a, b⟩ => Int.lt_iff_le_and_ne.mpr ⟨a, b⟩
end
end
local macro_rules | `(tactic| walk_at "r_enter") => `(tactic| (refine wpAny_call ?_; k_dflt (refine' code_reader ?k1 ?k2 ?k3 ?k5 ?kA ?kF ?kK ?k6 ?k7 ?k8 ?k9 ?kB ?_ ?c2 ?c3 ?c4 ?c5; (case kA => exact rfl); (case kF => exact rfl); (case kK => assumption); (case k1 => k_asm); (case k2 => k_asm); (case k3 => k_asm); (case k5 => k_asm); (case k6 => k_is); (case k7 => k_is); (case k8 => (show _ < recursionLimit; dsimp only [ktrTop]; omega)); (case k9 => exact BindsTo.of_eq rfl); (case c5 => decide); (case kB => exact locs rfl); (case c2 => exact rfl); (case c3 => exact rfl); (case c4 => exact rfl); k_whole); intro L' h' F' N' B' X' T'; (try dsimp only); (try k_fold)))
local macro_rules | `(tactic| k_inst) => `(tactic| exact inst_ext (by assumption) (Fr.keep (by k_asm)))
local macro_rules | `(tactic| k_get) => `(tactic| assumption)
local macro_rules | `(tactic| k_room) => `(tactic| ktr_room)
local macro_rules | `(tactic| k_units) => `(tactic| ktr_units)
local macro_rules | `(tactic| walk_at "lift_tup") => `(tactic| first | assumption | exact IsTup.keeps (by assumption) (Fr.keep (by k_asm)))
local macro_rules | `(tactic| walk_at "exec While Compare cons nil") => `(tactic| k_extra "my while")
theorem fill1 (P : Params) : (HK P) = (HK P) ∧ PySem.Challenge.rw_pb0192_01 = PySem.Challenge.rw_pb0192_01 := by
  k_fill
  exact ⟨rfl, rfl⟩
local macro_rules | `(tactic| walk_at "r_prem") => `(tactic| ((case k1 => k_asm); (case k2 => k_asm); (case k3 => k_asm); (case k4 => k_asm); (case k5 => k_asm); (case k6 => first | exact rfl | assumption); (case k7 => ktr_room); (case k8 => ktr_units)))
local macro_rules | `(tactic| walk_at "eval Name") => `(tactic| (k_here; k_dflt (refine' nameX_L ?F ?v ?_ ?k ?x ?d; (case x => exact of_decide_eq_true rfl); (case k => rfl); (case d => decide); (case F => k_asm); (case v => assumption))))
section
theorem fresh2 : True := by
  w_top off
  trivial
section
local macro_rules | `(tactic| walk_at "call ref") => `(tactic| (k_here; k_dflt (refine' reads_use (index_reads ?c) ?k1 ?k2 ?k3 ?k4 ?k5 ?k6 ?k7 ?k8 ?_; (case c => exact CovOf.ext (by assumption) (Fr.keep (by k_asm))); walk_at "r_prem"); intro v' h' tk' F' N' x' p'; obtain ⟨i', u', hv', p'⟩ := p'; subst hv'; (try k_sweep)))
theorem has_reads {prog : Program} {w : World} {s : Shared} {c : Addr} {xs : List Int} {g : Int} {t : Tok} (C : CovOf s.heap c xs) :
    Reads1 prog w (HK w.params) 311 2 8 [.ref c, .int g t] s (fun _ v => v = .bool (decide (g ∈ xs))) := by
  have C' := C
  obtain ⟨ox, es, n, d, vs, I, hg, hc, hc', Tb, hi, hs, hlen⟩ := C
  intro p loose mean mg mb dp un gd cn cs a ccd cl outer A₀ base h₀ L m Q E B F X T hk hd hu hret
  walk_at "r_enter"
  k_steps
  rename (0 ≤ _ ↔ g ∈ xs) => q
  exact hret _ _ _ (Fr.keep (by assumption)) (by first | (simp only [q]; done) | (simp only [q]; rfl))
end
theorem CovOf.inst {h : Heap} {c : Addr} {xs : List Int} (C : CovOf h c xs) : ∃ ox es n, PySem.W.InstAt h c ox 321 (some (dictOf es n)) ∧ getL "has" es = some none := 
  let ⟨ox, es, n, _, _, I, _, hc, _⟩ := C; ⟨ox, es, n, I, hc⟩
section
local macro_rules | `(tactic| walk_at "call ref") => `(tactic| (k_here; k_dflt (refine' reads_use (has_reads ?c) ?k1 ?k2 ?k3 ?k4 ?k5 ?k6 ?k7 ?k8 ?_; (case c => exact CovOf.ext (by assumption) (Fr.keep (by k_asm))); walk_at "r_prem"); intro v' h' tk' F' N' x' p'; subst p'; (try k_sweep)))
local macro_rules | `(tactic| walk_at "call ref") => `(tactic| (k_here; k_dflt (refine' reads_use (class_of_reads ?c) ?k1 ?k2 ?k3 ?k4 ?k5 ?k6 ?k7 ?k8 ?_; (case c => exact ClsDef.ext (by assumption) (Fr.keep (by k_asm))); walk_at "r_prem"); intro v' h' tk' F' N' x' p'; obtain ⟨u', hv'⟩ := p'; subst hv'; (try k_sweep)))
local macro_rules | `(tactic| walk_at "subscriptTail") => `(tactic| (k_here; k_dflt (refine' item_tupleT (j := 0) ?t ?a ?b ?c ?d ?_ ?s; (case t => walk_at "lift_tup"); (case a => decide); (case b => decide); (case c => rfl); (case d => rfl); (case s => with_unfolding_all rfl))))
local macro_rules | `(tactic| walk_at "subscriptTail") => `(tactic| (k_here; k_dflt (refine' item_tupleT (j := 1) ?t ?a ?b ?c ?d ?_ ?s; (case t => walk_at "lift_tup"); (case a => decide); (case b => decide); (case c => rfl); (case d => rfl); (case s => with_unfolding_all rfl))))
local macro_rules | `(tactic| walk_at "subscriptTail") => `(tactic| (k_here; k_dflt (refine' item_tupleT (j := 2) ?t ?a ?b ?c ?d ?_ ?s; (case t => walk_at "lift_tup"); (case a => decide); (case b => decide); (case c => rfl); (case d => rfl); (case s => with_unfolding_all rfl))))
theorem fits_reads {prog : Program} {w : World} {s : Shared} {tv : Value} {S : Int → Bool} {g : Int} {t : Tok} (C : TestIs prog w s.heap tv S) :
    Reads1 prog w (HK w.params) 106 3 12 [tv, .int g t] s (fun _ v => v = .bool (S g)) := by
  intro p loose mean mg mb dp un gd cn cs a ccd cl outer A₀ base h₀ L m Q E B F X T hk hd hu hret
  cases C with
  | glyph e i q =>
    subst e
    walk_at "r_enter"
    k_steps
    exact hret _ _ _ (Fr.keep (by assumption)) (by first | (simp only [q]; done) | (simp only [q]; rfl))
  | cls e i C q =>
    subst e
    have C' := C
    obtain ⟨ox, es, n, d, I, hg, hc, Tb⟩ := C
    walk_at "r_enter"
    k_steps
    exact hret _ _ _ (Fr.keep (by assumption)) (by first | (simp only [q]; done) | (simp only [q]; rfl))
  | cov e i C q =>
    subst e
    have C' := C
    obtain ⟨ox, es, n, I, hc⟩ := C.inst
    walk_at "r_enter"
    k_steps
    exact hret _ _ _ (Fr.keep (by assumption)) (by first | (simp only [q]; done) | (simp only [q]; rfl))
end
end
section
theorem fresh3 : True := by
  w_top off
  trivial
section
local macro_rules | `(tactic| walk_at "call ref") => `(tactic| (k_here; k_dflt (refine' reads_use (class_of_reads ?c) ?k1 ?k2 ?k3 ?k4 ?k5 ?k6 ?k7 ?k8 ?_; (case c => exact ClsDef.ext (by assumption) (Fr.keep (by k_asm))); walk_at "r_prem"); intro v' h' tk' F' N' x' p'; obtain ⟨u', hv'⟩ := p'; subst hv'; (try k_sweep)))
theorem ClsDef.inst {prog : Program} {w : World} {h : Heap} {c : Addr} {f : Int → Int} (C : ClsDef prog w h c f) : ∃ ox es n, PySem.W.InstAt h c ox 279 (some (dictOf es n)) ∧ getL "class_of" es = some none := 
  let ⟨ox, es, n, _, I, _, hc, _⟩ := C; ⟨ox, es, n, I, hc⟩
def GdefAt (prog : Program) (w : World) (h : Heap) (gd : Addr) : Prop := ∃ ox es n cd, PySem.W.InstAt h gd ox 376 (some (dictOf es n)) ∧ getL "classes" es = some (some (.ref cd)) ∧ getL "glyph_class" es = some none ∧ ClsDef prog w h cd (fun _ => 0)
theorem GdefAt.ext {prog : Program} {w : World} {h h' : Heap} {gd : Addr} (t : GdefAt prog w h gd) (k : Ext h h') : GdefAt prog w h' gd :=
  let ⟨ox, es, n, cd, I, a, b, C⟩ := t; ⟨ox, es, n, cd, inst_ext I k, a, b, C.ext k⟩
theorem glyph_class_reads {prog : Program} {w : World} {s : Shared} {gd : Addr} {g : Int} {t : Tok} (C : GdefAt prog w s.heap gd) :
    Reads1 prog w (HK w.params) 354 2 8 [.ref gd, .int g t] s (fun _ v => ∃ u, v = .int 0 u) := by
  intro p loose mean mg mb dp un gd cn cs a ccd cl outer A₀ base h₀ L m Q E B F X T hk hd hu hret
  obtain ⟨ox, es, n, cd, I, e1, e2, C⟩ := C
  have C' := C
  obtain ⟨cx, ces, cn', I', e3⟩ := C'.inst
  walk_at "r_enter"
  k_steps
  exact hret _ _ _ (Fr.keep (by assumption)) ⟨_, rfl⟩
theorem class_bit_reads {prog : Program} {w : World} {s : Shared} {t : Tok} :
    Reads1 prog w (HK w.params) 83 2 8 [.int 0 t] s (fun _ v => ∃ u, v = .int 0 u) := by
  intro p loose mean mg mb dp un gd cn cs a ccd cl outer A₀ base h₀ L m Q E B F X T hk hd hu hret
  walk_at "r_enter"
  k_steps
  exact hret _ _ _ (Fr.keep (by assumption)) ⟨_, rfl⟩
end
def LookAt (h : Heap) (lk : Addr) : Prop := ∃ ox es n t, PySem.W.InstAt h lk ox 43 (some (dictOf es n)) ∧ getL "flag" es = some (some (.int 0 t))
theorem LookAt.ext {h h' : Heap} {lk : Addr} (t : LookAt h lk) (k : Ext h h') : LookAt h' lk :=
  let ⟨ox, es, n, tt, I, a⟩ := t; ⟨ox, es, n, tt, inst_ext I k, a⟩
theorem GdefAt.inst {prog : Program} {w : World} {h : Heap} {gd : Addr} (C : GdefAt prog w h gd) : ∃ ox es n, PySem.W.InstAt h gd ox 376 (some (dictOf es n)) ∧ getL "glyph_class" es = some none :=
  let ⟨ox, es, n, _, I, _, hc, _⟩ := C; ⟨ox, es, n, I, hc⟩
section
local macro_rules | `(tactic| walk_at "call ref") => `(tactic| (k_here; k_dflt (refine' reads_use (glyph_class_reads ?c) ?k1 ?k2 ?k3 ?k4 ?k5 ?k6 ?k7 ?k8 ?_; (case c => exact GdefAt.ext (by assumption) (Fr.keep (by k_asm))); walk_at "r_prem"); intro v' h' tk' F' N' x' p'; obtain ⟨u', hv'⟩ := p'; subst hv'; (try k_sweep)))
local macro_rules | `(tactic| walk_at "call ref") => `(tactic| (k_here; k_dflt (refine' reads_use class_bit_reads ?k1 ?k2 ?k3 ?k4 ?k5 ?k6 ?k7 ?k8 ?_; walk_at "r_prem"); intro v' h' tk' F' N' x' p'; obtain ⟨u', hv'⟩ := p'; subst hv'; (try k_sweep)))
theorem is_ignored_reads {prog : Program} {w : World} {s : Shared} {gd lk : Addr} {g : Int} {t : Tok} (C : GdefAt prog w s.heap gd) (D : LookAt s.heap lk) :
    Reads1 prog w (HK w.params) 90 3 12 [.ref gd, .ref lk, .int g t] s (fun _ v => v = .bool false) := by
  intro p loose mean mg mb dp un gd cn cs a ccd cl outer A₀ base h₀ L m Q E B F X T hk hd hu hret
  have C' := C
  obtain ⟨ox, es, n, I, e1⟩ := C'.inst
  obtain ⟨lx, les, ln, lt, lI, le⟩ := D
  walk_at "r_enter"
  k_steps
  exact hret _ _ _ (Fr.keep (by assumption)) rfl
end
end
section
theorem fresh4 : True := by
  w_top off
  trivial
/-- the scene: its row, its mask; no glyph is passed over -/
def BufAt (h : Heap) (b : Addr) (row : List Cell) : Prop := ∃ ox es n rl vs, PySem.W.InstAt h b ox 232 (some (dictOf es n)) ∧ getL "row" es = some (some (.ref rl)) ∧ h.IsList rl vs.toArray ∧ RowAt h vs row ∧ row.length < 1000
theorem BufAt.ext {h h' : Heap} {b : Addr} {row : List Cell} (t : BufAt h b row) (k : Ext h h') : BufAt h' b row :=
  let ⟨ox, es, n, rl, vs, I, a, l, r, z⟩ := t; ⟨ox, es, n, rl, vs, inst_ext I k, a, isList_ext l k, r.ext k, z⟩
def SceneAt (prog : Program) (w : World) (h : Heap) (sc : Addr) (row : List Cell) (mask : Int) : Prop :=
  ∃ ox es n b gd lk tm, PySem.W.InstAt h sc ox 65 (some (dictOf es n)) ∧ getL "buffer" es = some (some (.ref b)) ∧ getL "gdef" es = some (some (.ref gd)) ∧ getL "lookup" es = some (some (.ref lk)) ∧ getL "mask" es = some (some (.int mask tm)) ∧ BufAt h b row ∧ GdefAt prog w h gd ∧ LookAt h lk
theorem SceneAt.ext {prog : Program} {w : World} {h h' : Heap} {sc : Addr} {row : List Cell} {mask : Int} (t : SceneAt prog w h sc row mask) (k : Ext h h') : SceneAt prog w h' sc row mask :=
  let ⟨ox, es, n, b, gd, lk, tm, I, a1, a2, a3, a4, B, G, K⟩ := t
  ⟨ox, es, n, b, gd, lk, tm, inst_ext I k, a1, a2, a3, a4, B.ext k, G.ext k, K.ext k⟩
theorem item_row {prog : Program} {w : World} {A : Around} {E : Value → Shared → Prop} {s : Shared} {hb : Heap} {l : Addr} {vs : List Value} {row : List Cell} {k : Int} {u : Tok} {value slice : PySem.Expr} {Q : Value → Shared → Prop} (hl : s.heap.IsList l vs.toArray) (R : RowAt hb vs row) (z : row.length < 1000)
    (h0 : 0 ≤ k) (h1 : k < row.length) (h : ∀ x ox es n tg tm tk c, row[k.toNat]? = some c → PySem.W.InstAt hb x ox 179 (some (dictOf es n)) → getL "glyph" es = some (some (.int c.glyph tg)) → getL "mask" es = some (some (.int c.mask tm)) → getL "kind" es = some (some (.str c.kind tk)) → Q (.ref x) s)
    (hs : subscripted slice false (.ref l) (.int k u) = operate [.ref l, .int k u] (getItem (.ref l) (.int k u)) := by with_unfolding_all rfl) :
    wpAny (model prog w) A (subscriptTail value slice (.ref l) (.int k u)) Q E s := by
  obtain ⟨v, c, hv, hc, x, ox, es, n, tg, tm, tk, rfl, I, a, b, d⟩ := R.get (i := k.toNat) (by omega)
  exact tail_any hl.typeIs slot_list_getitem.lookup (wpAny_getItem_list hl h0 (by omega) (by simpa using hv) (h x ox es n tg tm tk c hc I a b d)) hs
section
local macro_rules | `(tactic| walk_at "lift_list") => `(tactic| first | assumption | exact isList_ext (by assumption) (Fr.keep (by k_asm)))
local macro_rules | `(tactic| walk_at "subscriptTail") => `(tactic| (k_here; k_dflt (refine' item_row ?l ?R ?z ?a ?b ?_ ?s; (case l => walk_at "lift_list"); (case R => assumption); (case z => assumption); (case a => assumption); (case b => assumption); (case s => with_unfolding_all rfl)); intro x' ox' es' n' tg' tm' tk' c' hc' I' a' b' d'))
section
local macro_rules | `(tactic| walk_at "call ref") => `(tactic| (k_here; k_dflt (refine' reads_use (is_ignored_reads ?c ?d) ?k1 ?k2 ?k3 ?k4 ?k5 ?k6 ?k7 ?k8 ?_; (case c => exact GdefAt.ext (by assumption) (Fr.keep (by k_asm))); (case d => exact LookAt.ext (by assumption) (Fr.keep (by k_asm))); walk_at "r_prem"); intro v' h' tk' F' N' x' p'; subst p'; (try k_sweep)))
theorem passes_reads {prog : Program} {w : World} {s : Shared} {sc : Addr} {row : List Cell} {mask k : Int} {t : Tok} (C : SceneAt prog w s.heap sc row mask) (h0 : 0 ≤ k) (h1 : k < row.length) :
    Reads1 prog w (HK w.params) 97 4 16 [.ref sc, .int k t] s (fun _ v => v = .bool false) := by
  intro p loose mean mg mb dp un gd cn cs a ccd cl outer A₀ base h₀ L m Q E B F X T hk hd hu hret
  obtain ⟨ox, es, n, b, gd, lk, tm, I, a1, a2, a3, a4, ⟨bx, bes, bn, rl, vs, bI, b1, bl, br, bz⟩, G, K⟩ := C
  walk_at "r_enter"
  k_steps
  exact hret _ _ _ (Fr.keep (by assumption)) rfl
end
theorem is_borne_reads {prog : Program} {w : World} {s : Shared} {sc : Addr} {row : List Cell} {mask : Int} {x : Addr} {ix : Obj} {ies : List DictEntry} {n : Nat} {mk : Int} {tm : Tok} (C : SceneAt prog w s.heap sc row mask)
    (J : PySem.W.InstAt s.heap x ix 179 (some (dictOf ies n))) (j : getL "mask" ies = some (some (.int mk tm))) :
    Reads1 prog w (HK w.params) 113 2 8 [.ref sc, .ref x] s (fun _ v => v = .bool (!decide (Builtin.bitAnd mk mask = 0))) := by
  intro p loose mean mg mb dp un gd cn cs a ccd cl outer A₀ base h₀ L m Q E B F X T hk hd hu hret
  obtain ⟨ox, es, n, b, gd, lk, tm, I, a1, a2, a3, a4, ⟨bx, bes, bn, rl, vs, bI, b1, bl, br, bz⟩, G, K⟩ := C
  walk_at "r_enter"
  k_steps
  all_goals exact hret _ _ _ (Fr.keep (by assumption)) rfl
end
end
section
theorem fresh5 : True := by
  w_top off
  trivial
/-- what found_at looks for -/
def scan (row : List Cell) (sm : Int) (S : Int → Bool) (ks : List Str) (isIn : Bool) (step : Int) : Nat → Int → Int
  | 0, _ => -1
  | n + 1, here =>
    if 0 ≤ here ∧ here < row.length then
      match row[here.toNat]? with
      | none => -1
      | some c => if (S c.glyph && (!decide (Builtin.bitAnd c.mask sm = 0) || !isIn)) = true then here else if ks.any (· == c.kind) = false then -1 else scan row sm S ks isIn step n (here + step)
    else -1
def leftOf (row : List Cell) (step here : Int) : Nat := if step = 1 then (row.length - here).toNat else (here + 1).toNat
def foundF (row : List Cell) (sm : Int) (S : Int → Bool) (ks : List Str) (isIn : Bool) (step at_ : Int) : Int := scan row sm S ks isIn step (leftOf row step (at_ + step) + 1) (at_ + step)
theorem scan_congr {row : List Cell} {sm : Int} {S S' : Int → Bool} {ks : List Str} {isIn : Bool} {step : Int} (h : ∀ c ∈ row, S c.glyph = S' c.glyph) : ∀ n here, scan row sm S ks isIn step n here = scan row sm S' ks isIn step n here := by
  intro n
  induction n with
  | zero => intro here; rfl
  | succ n ih =>
    intro here
    unfold scan
    split
    · split
      · rfl
      · rename_i c hc
        rw [h c (List.mem_of_getElem? hc), ih]
    · rfl
theorem scan_range {row : List Cell} {sm : Int} {S : Int → Bool} {ks : List Str} {isIn : Bool} {step : Int} : ∀ n here, 0 ≤ scan row sm S ks isIn step n here → scan row sm S ks isIn step n here < row.length := by
  intro n
  induction n with
  | zero => intro here h; exact absurd h (by show ¬ (0 : Int) ≤ -1; decide)
  | succ n ih =>
    intro here
    unfold scan
    split
    · rename_i hb
      split
      · intro h; exact absurd h (by decide)
      · split
        · intro _; exact hb.2
        · split
          · intro h; exact absurd h (by decide)
          · exact ih _
    · intro h; exact absurd h (by decide)
theorem foundF_congr {row : List Cell} {sm : Int} {S S' : Int → Bool} {ks : List Str} {isIn : Bool} {step at_ : Int} (h : ∀ c ∈ row, S c.glyph = S' c.glyph) : foundF row sm S ks isIn step at_ = foundF row sm S' ks isIn step at_ := scan_congr h _ _
theorem foundF_range {row : List Cell} {sm : Int} {S : Int → Bool} {ks : List Str} {isIn : Bool} {step at_ : Int} (h : 0 ≤ foundF row sm S ks isIn step at_) : foundF row sm S ks isIn step at_ < row.length := scan_range _ _ h
/-- one turn -/
theorem scan_out {row : List Cell} {sm : Int} {S : Int → Bool} {ks : List Str} {isIn : Bool} {step here : Int} {n : Nat} (h : ¬ (0 ≤ here ∧ here < row.length)) : scan row sm S ks isIn step (n + 1) here = -1 := by
  unfold scan; rw [if_neg h]
theorem scan_hit {row : List Cell} {sm : Int} {S : Int → Bool} {ks : List Str} {isIn : Bool} {step here : Int} {n : Nat} {c : Cell} (h0 : 0 ≤ here) (h1 : here < row.length) (hc : row[here.toNat]? = some c) (h : (S c.glyph && (!decide (Builtin.bitAnd c.mask sm = 0) || !isIn)) = true) : scan row sm S ks isIn step (n + 1) here = here := by
  unfold scan; rw [if_pos ⟨h0, h1⟩, hc]; dsimp only; rw [if_pos h]
theorem scan_stop {row : List Cell} {sm : Int} {S : Int → Bool} {ks : List Str} {isIn : Bool} {step here : Int} {n : Nat} {c : Cell} (h0 : 0 ≤ here) (h1 : here < row.length) (hc : row[here.toNat]? = some c) (h : ¬ (S c.glyph && (!decide (Builtin.bitAnd c.mask sm = 0) || !isIn)) = true) (hk : ks.any (· == c.kind) = false) : scan row sm S ks isIn step (n + 1) here = -1 := by
  unfold scan; rw [if_pos ⟨h0, h1⟩, hc]; dsimp only; rw [if_neg h, if_pos hk]
theorem scan_on {row : List Cell} {sm : Int} {S : Int → Bool} {ks : List Str} {isIn : Bool} {step here : Int} {n : Nat} {c : Cell} (h0 : 0 ≤ here) (h1 : here < row.length) (hc : row[here.toNat]? = some c) (h : ¬ (S c.glyph && (!decide (Builtin.bitAnd c.mask sm = 0) || !isIn)) = true) (hk : ¬ ks.any (· == c.kind) = false) : scan row sm S ks isIn step (n + 1) here = scan row sm S ks isIn step n (here + step) := by
  rw [scan, if_pos ⟨h0, h1⟩, hc]; dsimp only; rw [if_neg h, if_neg hk]

theorem len_row {prog : Program} {w : World} {A : Around} {E : Value → Shared → Prop} {s : Shared} {hb : Heap} {l : Addr} {vs : List Value} {row : List Cell} {Q : Value → Shared → Prop} (hl : s.heap.IsList l vs.toArray) (R : RowAt hb vs row) (z : row.length < 1000)
    (h : Q (.int row.length (s.toks + 1)) { s with toks := s.toks + 1 + 1 }) : wpAny (model prog w) A (call (.builtin "len") [.ref l]) Q E s :=
  PyProof.Rows.len_list hl (by rw [List.size_toArray, R.length]; omega) (by rw [List.size_toArray, R.length]; exact h)
theorem SceneAt.inst {prog : Program} {w : World} {h : Heap} {sc : Addr} {row : List Cell} {mask : Int} (C : SceneAt prog w h sc row mask) : ∃ ox es n b bx bes bn rl vs, PySem.W.InstAt h sc ox 65 (some (dictOf es n)) ∧ getL "buffer" es = some (some (.ref b)) ∧ PySem.W.InstAt h b bx 232 (some (dictOf bes bn)) ∧ getL "row" bes = some (some (.ref rl)) ∧ h.IsList rl vs.toArray ∧ RowAt h vs row ∧ row.length < 1000 :=
  let ⟨ox, es, n, b, _, _, _, I, a1, _, _, _, ⟨bx, bes, bn, rl, vs, bI, b1, l, r, z⟩, _⟩ := C
  ⟨ox, es, n, b, bx, bes, bn, rl, vs, I, a1, bI, b1, l, r, z⟩
theorem leftOf_step {row : List Cell} {step here : Int} (hs : step = 1 ∨ step = -1) (h0 : 0 ≤ here) (h1 : here < row.length) : leftOf row step here = leftOf row step (here + step) + 1 := by
  unfold leftOf
  rcases hs with rfl | rfl
  · simp only [if_true]; omega
  · rw [if_neg (by decide), if_neg (by decide)]; omega
theorem turn_next {row : List Cell} {sm : Int} {S : Int → Bool} {ks : List Str} {isIn : Bool} {step here R : Int} {k : Nat} {c : Cell} (hs : step = 1 ∨ step = -1) (h0 : 0 ≤ here) (h1 : here < row.length) (hc : row[here.toNat]? = some c)
    (h : S c.glyph = false ∨ (Builtin.bitAnd c.mask sm = 0 ∧ isIn = true)) (hk : ks.any (· == c.kind) = true) (e7 : k = leftOf row step here) (e8 : scan row sm S ks isIn step (k + 1) here = R) :
    leftOf row step (here + step) < k ∧ scan row sm S ks isIn step (leftOf row step (here + step) + 1) (here + step) = R := by
  have q := leftOf_step hs h0 h1
  refine ⟨by omega, ?_⟩
  rw [e7, q, scan_on h0 h1 hc (by rcases h with h | ⟨h, h'⟩ <;> simp [*]) (by simp [hk])] at e8
  exact e8
theorem turn_hit {row : List Cell} {sm : Int} {S : Int → Bool} {ks : List Str} {isIn : Bool} {step here R : Int} {k : Nat} {c : Cell} (h0 : 0 ≤ here) (h1 : here < row.length) (hc : row[here.toNat]? = some c)
    (h : S c.glyph = true) (h' : ¬ Builtin.bitAnd c.mask sm = 0 ∨ isIn = false) (e8 : scan row sm S ks isIn step (k + 1) here = R) : here = R := by
  rw [scan_hit h0 h1 hc (by rcases h' with h' | h' <;> simp [*])] at e8; exact e8
theorem turn_stop {row : List Cell} {sm : Int} {S : Int → Bool} {ks : List Str} {isIn : Bool} {step here R : Int} {k : Nat} {c : Cell} (h0 : 0 ≤ here) (h1 : here < row.length) (hc : row[here.toNat]? = some c)
    (h : S c.glyph = false ∨ (Builtin.bitAnd c.mask sm = 0 ∧ isIn = true)) (hk : ks.any (· == c.kind) = false) (e8 : scan row sm S ks isIn step (k + 1) here = R) : -1 = R := by
  rw [scan_stop h0 h1 hc (by rcases h with h | ⟨h, h'⟩ <;> simp [*]) hk] at e8; exact e8
theorem turn_out {row : List Cell} {sm : Int} {S : Int → Bool} {ks : List Str} {isIn : Bool} {step here R : Int} {k : Nat} (h : ¬ 0 ≤ here ∨ ¬ here < row.length) (e8 : scan row sm S ks isIn step (k + 1) here = R) : -1 = R := by
  rw [scan_out (by rcases h with h | h <;> simp [h])] at e8; exact e8
local macro_rules | `(tactic| walk_at "off_") => `(tactic| first | exact .inl (by assumption) | exact .inr ⟨by assumption, by assumption⟩ | exact .inr (by assumption))
section
local macro_rules | `(tactic| walk_at "lift_list") => `(tactic| first | assumption | exact isList_ext (by assumption) (Fr.keep (by k_asm)))
local macro_rules | `(tactic| walk_at "subscriptTail") => `(tactic| (k_here; k_dflt (refine' item_row ?l ?R ?z ?a ?b ?_ ?s; (case l => walk_at "lift_list"); (case R => assumption); (case z => assumption); (case a => assumption); (case b => assumption); (case s => with_unfolding_all rfl)); intro x' ox' es' n' tg' tm' tk' c' hc' I' a' b' d'))
local macro_rules | `(tactic| walk_at "call builtin:len") => `(tactic| (k_here; k_dflt (refine' len_row ?l ?R ?z ?_; (case l => walk_at "lift_list"); (case R => assumption); (case z => assumption))))
local macro_rules | `(tactic| walk_at "call ref") => `(tactic| (k_here; k_dflt (refine' reads_use (passes_reads ?c ?h0 ?h1) ?k1 ?k2 ?k3 ?k4 ?k5 ?k6 ?k7 ?k8 ?_; (case c => exact SceneAt.ext (by assumption) (Fr.keep (by k_asm))); (case h0 => assumption); (case h1 => assumption); walk_at "r_prem"); intro v' h' tk' F' N' x' p'; subst p'; (try k_sweep)))
local macro_rules | `(tactic| walk_at "call ref") => `(tactic| (k_here; k_dflt (refine' reads_use (fits_reads ?c) ?k1 ?k2 ?k3 ?k4 ?k5 ?k6 ?k7 ?k8 ?_; (case c => exact TestIs.ext (by assumption) (Fr.keep (by k_asm))); walk_at "r_prem"); intro v' h' tk' F' N' x' p'; subst p'; (try k_sweep)))
local macro_rules | `(tactic| walk_at "call ref") => `(tactic| (k_here; k_dflt (refine' reads_use (is_borne_reads ?c ?d ?e) ?k1 ?k2 ?k3 ?k4 ?k5 ?k6 ?k7 ?k8 ?_; (case c => exact SceneAt.ext (by assumption) (Fr.keep (by k_asm))); (case d => exact inst_ext (by assumption) (Fr.keep (by k_asm))); (case e => assumption); walk_at "r_prem"); intro v' h' tk' F' N' x' p'; subst p'; (try k_sweep)))
local macro_rules | `(tactic| walk_at "compareOp NotIn str ref") => `(tactic| (k_here; k_dflt (refine' notin_tuple_strs ?t ?i ?_; (case t => exact IsTup.keeps (by assumption) (Fr.keep (by k_asm))); (case i => assumption))))
theorem found_reads {prog : Program} {w : World} {s : Shared} {sc ka : Addr} {row : List Cell} {mask at_ step : Int} {t t2 : Tok} {tv : Value} {S : Int → Bool} {items : Array Value} {ks : List Str} {isIn : Bool} (C : SceneAt prog w s.heap sc row mask) (D : TestIs prog w s.heap tv S)
    (Kt : IsTup s.heap ka items) (Ks : StrsAre items.toList ks) (hst : step = 1 ∨ step = -1) :
    Reads1 prog w (HK w.params) 120 6 24 [.ref sc, .int at_ t, .int step t2, tv, .ref ka, .bool isIn] s (fun _ v => ∃ u, v = .int (foundF row mask S ks isIn step at_) u) := by
  intro p loose mean mg mb dp un gd cn cs a ccd cl outer A₀ base h₀ L m Q E B F X T hk hd hu hret
  have C' := C
  obtain ⟨ox, es, n, b, bx, bes, bn, rl, vs, I, a1, bI, b1, bl, br, bz⟩ := C'.inst
  generalize hR : foundF row mask S ks isIn step at_ = R at hret
  unfold foundF at hR
  walk_at "r_enter"
  k_with "my while" => (
    refine' While_inv2 (n₀ := leftOf row step (at_ + step)) (fun k m₁ nx => nx = [] ∧ ∃ here th, m₁ (Str.ofString "here") = some (.int here th) ∧ m₁ (Str.ofString "scene") = some (.ref sc) ∧ m₁ (Str.ofString "step") = some (.int step t2) ∧ m₁ (Str.ofString "test") = some tv ∧ m₁ (Str.ofString "kinds") = some (.ref ka) ∧ m₁ (Str.ofString "is_input") = some (.bool isIn) ∧
      k = leftOf row step here ∧ scan row mask S ks isIn step (k + 1) here = R) (by assumption) (by assumption) ⟨rfl, _, _, rfl, rfl, rfl, rfl, rfl, rfl, rfl, hR⟩ ?_ (by exact PassesOwn.never);
    rintro k m₁ nx h₂ tk₂ F₂ N₂ ⟨rfl, here, th, e1, e2, e3, e4, e5, e6, e7, e8⟩)
  k_steps
  all_goals first
    | exact hret _ _ _ (Fr.keep (by assumption)) ⟨_, congrArg (fun z => Value.int z _) (turn_out (by walk_at "off_") e8)⟩
    | exact hret _ _ _ (Fr.keep (by assumption)) ⟨_, congrArg (fun z => Value.int z _) (turn_stop (by assumption) (by assumption) (by assumption) (by walk_at "off_") (by assumption) e8)⟩
    | exact hret _ _ _ (Fr.keep (by assumption)) ⟨_, congrArg (fun z => Value.int z _) (turn_hit (by assumption) (by assumption) (by assumption) (by assumption) (by walk_at "off_") e8)⟩
    | (rename Fr _ _ _ _ => Fz
       rename News _ _ _ _ => Nz
       obtain ⟨t1, t2⟩ := turn_next hst (by assumption) (by assumption) (by assumption) (by walk_at "off_") (by assumption) e7 e8
       exact ⟨_, _, _, [], _, rfl, Fz, Nz, t1, rfl, _, _, rfl, e2, e3, e4, e5, e6, rfl, t2⟩)
end
end
section
section
variable {prog : Program} {w : World} {A : Around} {E : Value → Shared → Prop} {s : Shared} {env : Env} {h₀ : Heap} {x : Str} {body : List Stmt} {Q : Flow → Shared → Prop}

/-- what a turn of a loop leaves behind -/
def Turned (h₀ : Heap) (L : Addr) (I : Addr) (it : Obj) (J : (Str → Option Value) → List (Addr × Obj) → Prop) (s₁ : Shared) (Q : Flow → Shared → Prop) (f : Flow) (s₂ : Shared) : Prop :=
  match f with
  | .ret v => Q (.ret v) s₂
  | .brk => Q .next s₂
  | _ => ∃ h' tk m' nx, s₂ = { s₁ with heap := h', toks := tk } ∧ Fr h₀ L h' m' ∧ News h₀ L h' ((I, it) :: nx) ∧ (∀ p ∈ nx, p.1 ≠ I) ∧ J m' nx

theorem iter_listJ {ax : Addr} {lo : Obj} {vs : List Value} {n : Nat} {m₀ : Str → Option Value} {news : List (Addr × Obj)} (J : Nat → (Str → Option Value) → List (Addr × Obj) → Prop)
    (hh : A.handled = none) (hcls : lo.cls = .type "list") (hdat : lo.data = .seq vs.toArray n)
    (hJl : ∀ i m₁ news₁ h, J i m₁ news₁ → Ext h₀ h → News h₀ env.locals h news₁ → h.get? ax = some lo)
    (F : Fr h₀ env.locals s.heap m₀) (N : News h₀ env.locals s.heap news) (hj : J 0 m₀ news)
    (turn : ∀ I it i v m₁ news₁ h tk, vs[i]? = some v → J i m₁ news₁ → (∀ p ∈ news₁, p.1 ≠ I) → (∀ p ∈ news, p.1 < I) → Fr h₀ env.locals h (fun y => if y = x then some v else m₁ y) → News h₀ env.locals h ((I, it) :: news₁) →
      wpAny (model prog w) A (execs body env) (Turned h₀ env.locals I it (J (i + 1)) { s with heap := h, toks := tk } Q) E { s with heap := h, toks := tk })
    (done : ∀ m₁ news₁ h tk, J vs.length m₁ news₁ → Fr h₀ env.locals h m₁ → News h₀ env.locals h news₁ → Q .next { s with heap := h, toks := tk }) :
    wpAny (model prog w) A (pyIter (.ref ax)) (fun it s₂ => LoopAtV prog w A h₀ env x body Q E it s₂) E s := by
  have hol := hJl 0 m₀ news s.heap hj F.keep N
  have hls : s.heap.IsList ax vs.toArray := ⟨lo, hol, hcls, n, hdat⟩
  have hne : ax ≠ s.heap.objs.size := Nat.ne_of_lt (Heap.lt_size hol)
  have hnew := next_is_new F
  have hlt : ∀ p ∈ news, p.1 < s.heap.objs.size := fun p hp => Heap.lt_size (N p hp).1
  refine wpAny_pyIter_list hls ?_
  have W := Walks.list (prog := prog) (w := w) hh s.heap.objs.size ax hne vs.toArray
  rw [List.size_toArray] at W
  refine ⟨_, _, _, vs.length, _, _, m₀, news, J, rfl, W, ?_, ?_, ?_, ⟨⟨_, Heap.get?_push_size _ rfl, rfl, rfl⟩, hls.push _⟩, F.push _, (fun p hp => ⟨Heap.get?_push_of_some _ (N p hp).1, (N p hp).2⟩), hj, ?_, ?_⟩
  · intro hm
    obtain ⟨oL, _, _, hL, _⟩ := F.ns
    rcases List.mem_cons.mp hm with e | hm
    · exact absurd F.ns.lt (e ▸ Nat.lt_irrefl _)
    · have e := List.mem_singleton.mp hm
      have q : s.heap.Ns ax m₀ := e ▸ F.ns
      obtain ⟨o, es, ep, ho, hd, _⟩ := q
      rw [hol] at ho
      cases ho
      rw [hdat] at hd
      cases hd
  · intro b hb
    rw [List.mem_singleton.mp hb]
    exact hnew
  · intro p hp hI
    exact absurd (hlt p hp) ((List.mem_singleton.mp hI) ▸ Nat.lt_irrefl _)
  · rintro i v m₁ news₁ s₁ own ⟨hh', tk', rfl⟩ hin hP hJ hoff hown hget hall hst F₁ N₁
    obtain ⟨⟨oi, hoi, _⟩, _⟩ := hst
    have hI : (s.heap.objs.size, oi) ∈ own := hall _ (.head _) hnew oi hoi
    have N₂ : News h₀ env.locals hh' ((s.heap.objs.size, oi) :: news₁) := fun p hp => by
      rcases List.mem_cons.mp hp with rfl | hp
      · exact N₁ _ (List.mem_append_left _ hI)
      · exact N₁ _ (List.mem_append_right _ hp)
    have hlo := hJl i m₁ news₁ hh' hJ F₁.keep fun p hp => N₁ p (List.mem_append_right _ hp)
    have hP' : vs[i]? = some v := by simpa using hP
    refine wpAny_mono (turn s.heap.objs.size oi i v m₁ news₁ hh' tk' hP' hJ (fun p hp e => hoff p hp (List.mem_singleton.mpr e)) hlt F₁ N₂) (fun f s₂ q => ?_) fun _ _ e => e
    have fin : (∃ h' tk m' nx, s₂ = { s with heap := h', toks := tk } ∧ Fr h₀ env.locals h' m' ∧ News h₀ env.locals h' ((s.heap.objs.size, oi) :: nx) ∧ (∀ p ∈ nx, p.1 ≠ s.heap.objs.size) ∧ J (i + 1) m' nx) → LoopStepU h₀ env.locals [s.heap.objs.size] own (J (i + 1)) { s with heap := hh', toks := tk' } .next s₂ := by
      rintro ⟨h', tk, m', nx, e, F', N', ho, r⟩
      refine ⟨rfl, h', tk, m', nx, e, F', fun p hp => ?_, fun p hp hI => ho p hp (List.mem_singleton.mp hI), r⟩
      rcases List.mem_append.mp hp with hp | hp
      · have h2 := hget p hp
        have h3 := (N₁ p (List.mem_append_left _ hp)).2
        rcases List.mem_cons.mp (hown p hp) with e1 | e1
        · rw [e1, hoi] at h2
          have : p = (s.heap.objs.size, oi) := Prod.ext e1 (Option.some.inj h2).symm
          rw [this]; exact N' _ (List.mem_cons_self ..)
        · have e1 := List.mem_singleton.mp e1
          rw [e1, hlo] at h2
          have := hJl (i + 1) m' nx h' r F'.keep fun p hp => N' p (List.mem_cons_of_mem _ hp)
          exact ⟨by rw [e1, this]; exact h2, h3⟩
      · exact N' _ (List.mem_cons_of_mem _ hp)
    cases f with
    | ret v => exact .ret q
    | brk => exact .brk q
    | next => exact .next (fin q)
    | cont => exact .cont (fin q)
  · rintro h' tk m' news' F' N' _ hJ
    exact done m' news' h' tk hJ F' N'

theorem iter_rangeJ {r : Addr} {a₀ b₀ : Int} {t₀ u₀ v₀ : Tok} {n : Nat} {m₀ : Str → Option Value} {news : List (Addr × Obj)} (J : Nat → (Str → Option Value) → List (Addr × Obj) → Prop)
    (hh : A.handled = none) (hr : IsRange s.heap r a₀ b₀ 1 t₀ u₀ v₀) (hsmall : Builtin.Range.small a₀ b₀ 1 = true) (hn : Builtin.Range.rangeSize a₀ b₀ 1 = (n : Int)) (F : Fr h₀ env.locals s.heap m₀) (N : News h₀ env.locals s.heap news) (hj : J 0 m₀ news)
    (turn : ∀ I it i t m₁ news₁ h tk, i < n → J i m₁ news₁ → (∀ p ∈ news₁, p.1 ≠ I) → (∀ p ∈ news, p.1 < I) → Fr h₀ env.locals h (fun y => if y = x then some (.int (a₀ + (i : Int)) t) else m₁ y) → News h₀ env.locals h ((I, it) :: news₁) →
      wpAny (model prog w) A (execs body env) (Turned h₀ env.locals I it (J (i + 1)) { s with heap := h, toks := tk } Q) E { s with heap := h, toks := tk })
    (done : ∀ m₁ news₁ h tk, J n m₁ news₁ → Fr h₀ env.locals h m₁ → News h₀ env.locals h news₁ → Q .next { s with heap := h, toks := tk }) :
    wpAny (model prog w) A (pyIter (.ref r)) (fun it s₂ => LoopAtV prog w A h₀ env x body Q E it s₂) E s := by
  refine wpAny_pyIter_range hr hsmall ?_
  have hnew := next_is_new F
  have hlt : ∀ p ∈ news, p.1 < s.heap.objs.size := fun p hp => Heap.lt_size (N p hp).1
  have W : Walks prog w A s.heap.objs.size [s.heap.objs.size] [s.heap.objs.size] n (fun i v => ∃ t, v = .int (a₀ + i * 1) t)
      (fun i h => IsRangeIter h s.heap.objs.size (a₀ + (i : Nat) * 1) ((n : Int) - (i : Nat)) 1) := Walks.range hh _ a₀ 1 n
  refine ⟨_, _, _, n, _, _, m₀, news, J, rfl, W, ?_, ?_, ?_, (by show IsRangeIter _ _ _ _ _; rw [hn]; simpa using Heap.get?_push_size _ rfl), F.push _, (fun p hp => ⟨Heap.get?_push_of_some _ (N p hp).1, (N p hp).2⟩), hj, ?_, ?_⟩
  · intro hm
    exact absurd F.ns.lt ((List.mem_singleton.mp hm) ▸ Nat.lt_irrefl _)
  · intro b hb
    rw [List.mem_singleton.mp hb]
    exact hnew
  · intro p hp hI
    exact absurd (hlt p hp) ((List.mem_singleton.mp hI) ▸ Nat.lt_irrefl _)
  · rintro i v m₁ news₁ s₁ own ⟨hh', tk', rfl⟩ hin ⟨t, rfl⟩ hJ hoff hown hget hall hst F₁ N₁
    have hoi : hh'.get? s.heap.objs.size = some _ := hst
    generalize ({ cls := Value.type "range_iterator", dict := none, data := .fields #[rawInt (a₀ + ((i + 1 : Nat) : Int) * 1), rawInt ((n : Int) - ((i + 1 : Nat) : Int)), rawInt 1], slots := #[] } : Obj) = oi at hoi
    have hI : (s.heap.objs.size, oi) ∈ own := hall _ (.head _) hnew oi hoi
    have N₂ : News h₀ env.locals hh' ((s.heap.objs.size, oi) :: news₁) := fun p hp => by
      rcases List.mem_cons.mp hp with rfl | hp
      · exact N₁ _ (List.mem_append_left _ hI)
      · exact N₁ _ (List.mem_append_right _ hp)
    have e1 : a₀ + (i : Int) * 1 = a₀ + (i : Int) := by rw [Int.mul_one]
    rw [e1] at F₁
    refine wpAny_mono (turn s.heap.objs.size oi i t m₁ news₁ hh' tk' hin hJ (fun p hp e => hoff p hp (List.mem_singleton.mpr e)) hlt F₁ N₂) (fun f s₂ q => ?_) fun _ _ e => e
    have fin : (∃ h' tk m' nx, s₂ = { s with heap := h', toks := tk } ∧ Fr h₀ env.locals h' m' ∧ News h₀ env.locals h' ((s.heap.objs.size, oi) :: nx) ∧ (∀ p ∈ nx, p.1 ≠ s.heap.objs.size) ∧ J (i + 1) m' nx) → LoopStepU h₀ env.locals [s.heap.objs.size] own (J (i + 1)) { s with heap := hh', toks := tk' } .next s₂ := by
      rintro ⟨h', tk, m', nx, e, F', N', ho, r⟩
      refine ⟨rfl, h', tk, m', nx, e, F', fun p hp => ?_, fun p hp hI => ho p hp (List.mem_singleton.mp hI), r⟩
      rcases List.mem_append.mp hp with hp | hp
      · have h2 := hget p hp
        have e1 := List.mem_singleton.mp (hown p hp)
        rw [e1, hoi] at h2
        have : p = (s.heap.objs.size, oi) := Prod.ext e1 (Option.some.inj h2).symm
        rw [this]; exact N' _ (List.mem_cons_self ..)
      · exact N' _ (List.mem_cons_of_mem _ hp)
    cases f with
    | ret v => exact .ret q
    | brk => exact .brk q
    | next => exact .next (fin q)
    | cont => exact .cont (fin q)
  · rintro h' tk m' news' F' N' _ hJ
    exact done m' news' h' tk hJ F' N'
end
end
section
theorem fresh6 : True := by
  w_top off
  trivial
def aroundKs : List Str := [Str.ofString "zwj", Str.ofString "zwnj", Str.ofString "hidden"]
def inputKs : List Str := [Str.ofString "zwj", Str.ofString "hidden"]
theorem kinds_around {w : World} {h : Heap} (X : (HK w.params).In h) : ∃ items, IsTup h 99 items ∧ StrsAre items.toList aroundKs := by
  refine' ⟨_, tupK X ?e, ?s⟩
  case e => k_dflt k_is
  case s => repeat constructor
theorem kinds_input {w : World} {h : Heap} (X : (HK w.params).In h) : ∃ items, IsTup h 98 items ∧ StrsAre items.toList inputKs := by
  refine' ⟨_, tupK X ?e, ?s⟩
  case e => k_dflt k_is
  case s => repeat constructor

inductive TestsAre (prog : Program) (w : World) (h : Heap) : List Value → List (Int → Bool) → Prop
  | nil : TestsAre prog w h [] []
  | cons {v : Value} {S : Int → Bool} {vs : List Value} {Ss : List (Int → Bool)} : TestIs prog w h v S → TestsAre prog w h vs Ss → TestsAre prog w h (v :: vs) (S :: Ss)
theorem TestsAre.ext {prog : Program} {w : World} {h h' : Heap} {vs : List Value} {Ss : List (Int → Bool)} (t : TestsAre prog w h vs Ss) (k : Ext h h') : TestsAre prog w h' vs Ss := by
  induction t with
  | nil => exact .nil
  | cons a _ ih => exact .cons (a.ext k) ih
theorem TestsAre.length {prog : Program} {w : World} {h : Heap} {vs : List Value} {Ss : List (Int → Bool)} (t : TestsAre prog w h vs Ss) : vs.length = Ss.length := by
  induction t with
  | nil => rfl
  | cons _ _ ih => simp [ih]
theorem TestsAre.get {prog : Program} {w : World} {h : Heap} {vs : List Value} {Ss : List (Int → Bool)} (t : TestsAre prog w h vs Ss) : ∀ {i : Nat} {v : Value}, vs[i]? = some v → ∃ S, Ss.drop i = S :: Ss.drop (i + 1) ∧ TestIs prog w h v S := by
  induction t with
  | nil => intro i v hv; cases hv
  | cons a _ ih =>
    intro i v hv
    cases i with
    | zero => cases hv; exact ⟨_, rfl, a⟩
    | succ i => exact ih (by simpa using hv)

/-- what last_at tells -/
def lastF (row : List Cell) (sm step : Int) : List (Int → Bool) → Int → Int
  | [], here => here
  | S :: r, here => if foundF row sm S aroundKs false step here < 0 then -1 else lastF row sm step r (foundF row sm S aroundKs false step here)
section
local macro_rules | `(tactic| walk_at "call ref") => `(tactic| (k_here; k_dflt (refine' reads_use (found_reads ?c ?d ?e ?f ?g) ?k1 ?k2 ?k3 ?k4 ?k5 ?k6 ?k7 ?k8 ?_; (case c => exact SceneAt.ext (by assumption) (Fr.keep (by k_asm))); (case d => exact TestIs.ext (by assumption) (Fr.keep (by k_asm))); (case e => exact IsTup.keeps (by assumption) (Fr.keep (by k_asm))); (case f => assumption); (case g => first | assumption | exact .inl rfl); walk_at "r_prem"); intro v' h' tk' F' N' x' p'; obtain ⟨u', hv'⟩ := p'; subst hv'; (try k_sweep)))
local macro_rules | `(tactic| walk_at "exec For Name Name cons nil") => `(tactic| (k_here; (rename Fr _ _ _ _ => lF'); (with_unfolding_all refine' For_invVF lF' ?k1 ?k2 ?_ ?k4 ?k5; (case k1 => exact rfl); (case k2 => exact rfl); (case k4 => (intro _; with_unfolding_all rfl)); (case k5 => exact PassesOwn.never); k_whole); k_fold))
local macro_rules | `(tactic| walk_at "pyIter ref") => `(tactic| k_extra "my iter")
theorem last_reads {prog : Program} {w : World} {s : Shared} {sc ta : Addr} {row : List Cell} {mask at_ step : Int} {t t2 : Tok} {tvs : List Value} {Ss : List (Int → Bool)} (C : SceneAt prog w s.heap sc row mask) (D : TestsAre prog w s.heap tvs Ss)
    (Lt : s.heap.IsList ta tvs.toArray) (hst : step = 1 ∨ step = -1) :
    Reads1 prog w (HK w.params) 134 7 28 [.ref sc, .int at_ t, .int step t2, .ref ta] s (fun _ v => ∃ u, v = .int (lastF row mask step Ss at_) u) := by
  intro p loose mean mg mb dp un gd cn cs a ccd cl outer A₀ base h₀ L m Q E B F X T hk hd hu hret
  generalize hR : lastF row mask step Ss at_ = R at hret
  walk_at "r_enter"
  obtain ⟨kt, K1, K2⟩ := kinds_around (by assumption)
  obtain ⟨lo, hlo, hcl, ln, hld⟩ := Lt
  k_steps
  refine iter_listJ (fun i m₁ nx => nx = [] ∧ ∃ here th, m₁ (Str.ofString "here") = some (.int here th) ∧ m₁ (Str.ofString "scene") = some (.ref sc) ∧ m₁ (Str.ofString "step") = some (.int step t2) ∧ lastF row mask step (Ss.drop i) here = R)
      rfl hcl hld (fun _ _ _ _ _ k _ => k _ _ hlo) (by assumption) (by assumption) ⟨rfl, _, _, rfl, rfl, rfl, hR⟩ ?_ ?_
  · rintro I it i v m₁ nx h₂ tk₂ hv ⟨rfl, here, th, e1, e2, e3, e4⟩ o1 o2 F₂ N₂
    obtain ⟨S, hS, TS⟩ := D.get hv
    rw [hS, lastF] at e4
    k_fold
    k_steps
    · rename (foundF row mask S aroundKs false step here < 0) => q
      rw [if_pos q] at e4
      exact hret _ _ _ (Fr.keep (by assumption)) ⟨_, congrArg (fun z => Value.int z _) e4⟩
    · rename (¬ foundF row mask S aroundKs false step here < 0) => q
      rw [if_neg q] at e4
      rename Fr _ _ _ _ => Fz
      rename News _ _ _ _ => Nz
      exact ⟨_, _, _, [], rfl, Fz, Nz, (fun _ hp => nomatch hp), rfl, _, _, rfl, e2, e3, e4⟩
  · rintro m₁ nx h₂ tk₂ ⟨rfl, here, th, e1, e2, e3, e4⟩ F₂ N₂
    dsimp only
    k_steps
    exact hret _ _ _ (Fr.keep (by assumption)) ⟨_, congrArg (fun z => Value.int z _) (by rw [D.length, List.drop_length] at e4; exact e4)⟩
end
end
section
theorem fresh7 : True := by
  w_top off
  trivial
def inputGo (row : List Cell) (sm : Int) : List (Int → Bool) → List Int → Option (List Int)
  | [], f => some f
  | S :: r, f => if foundF row sm S inputKs true 1 (f.getD (-1 + (f.length : Int)).toNat 0) < 0 then none else inputGo row sm r (f ++ [foundF row sm S inputKs true 1 (f.getD (-1 + (f.length : Int)).toNat 0)])
def inputF (row : List Cell) (sm : Int) (Ss : List (Int → Bool)) (at_ : Int) : Option (List Int) :=
  match Ss with
  | [] => none
  | S :: r => if (row[at_.toNat]?).any (fun c => S c.glyph) = true then inputGo row sm r [at_] else none
def OutIs (h : Heap) (v : Value) : Option (List Int) → Prop
  | none => v = .none
  | some l => ∃ a vs, v = .ref a ∧ h.IsList a vs.toArray ∧ IntsAre vs l
theorem lastGo_congr {row : List Cell} {sm step : Int} : ∀ {Ss Ss' : List (Int → Bool)} {here : Int}, Ss.length = Ss'.length → (∀ c ∈ row, Ss.map (· c.glyph) = Ss'.map (· c.glyph)) → lastF row sm step Ss here = lastF row sm step Ss' here := by
  intro Ss
  induction Ss with
  | nil => intro Ss' here h _; cases Ss' with | nil => rfl | cons _ _ => cases h
  | cons S r ih =>
    intro Ss' here h q
    cases Ss' with
    | nil => cases h
    | cons S' r' =>
      have e : foundF row sm S aroundKs false step here = foundF row sm S' aroundKs false step here := foundF_congr fun c hc => (List.cons.inj (q c hc)).1
      rw [lastF, lastF, e]
      split
      · rfl
      · exact ih (by simpa using h) fun c hc => (List.cons.inj (q c hc)).2
theorem inputGo_congr {row : List Cell} {sm : Int} : ∀ {Ss Ss' : List (Int → Bool)} {f : List Int}, Ss.length = Ss'.length → (∀ c ∈ row, Ss.map (· c.glyph) = Ss'.map (· c.glyph)) → inputGo row sm Ss f = inputGo row sm Ss' f := by
  intro Ss
  induction Ss with
  | nil => intro Ss' here h _; cases Ss' with | nil => rfl | cons _ _ => cases h
  | cons S r ih =>
    intro Ss' f h q
    cases Ss' with
    | nil => cases h
    | cons S' r' =>
      have e : foundF row sm S inputKs true 1 (f.getD (-1 + (f.length : Int)).toNat 0) = foundF row sm S' inputKs true 1 (f.getD (-1 + (f.length : Int)).toNat 0) := foundF_congr fun c hc => (List.cons.inj (q c hc)).1
      rw [inputGo, inputGo, e]
      split
      · rfl
      · exact ih (by simpa using h) fun c hc => (List.cons.inj (q c hc)).2
theorem inputF_congr {row : List Cell} {sm at_ : Int} {Ss Ss' : List (Int → Bool)} (h : Ss.length = Ss'.length) (q : ∀ c ∈ row, Ss.map (· c.glyph) = Ss'.map (· c.glyph)) : inputF row sm Ss at_ = inputF row sm Ss' at_ := by
  cases Ss with
  | nil => cases Ss' with | nil => rfl | cons _ _ => cases h
  | cons S r =>
    cases Ss' with
    | nil => cases h
    | cons S' r' =>
      unfold inputF
      have e : (row[at_.toNat]?).any (fun c => S c.glyph) = (row[at_.toNat]?).any (fun c => S' c.glyph) := by
        cases hr : row[at_.toNat]? with
        | none => rfl
        | some c => simp only [Option.any_some]; exact (List.cons.inj (q c (List.mem_of_getElem? hr))).1
      dsimp only
      rw [e, inputGo_congr (by simpa using h) fun c hc => (List.cons.inj (q c hc)).2]
section
local macro_rules | `(tactic| walk_at "call ref") => `(tactic| (k_here; k_dflt (refine' reads_use (last_reads ?c ?d ?e ?f) ?k1 ?k2 ?k3 ?k4 ?k5 ?k6 ?k7 ?k8 ?_; (case c => exact SceneAt.ext (by assumption) (Fr.keep (by k_asm))); (case d => exact TestsAre.ext (by assumption) (Fr.keep (by k_asm))); (case e => exact isList_ext (by assumption) (Fr.keep (by k_asm))); (case f => first | exact .inl rfl | exact .inr rfl); walk_at "r_prem"); intro v' h' tk' F' N' x' p'; obtain ⟨u', hv'⟩ := p'; subst hv'; (try k_sweep)))
theorem ahead_reads {prog : Program} {w : World} {s : Shared} {sc ta : Addr} {row : List Cell} {mask at_ : Int} {t : Tok} {tvs : List Value} {Ss : List (Int → Bool)} (C : SceneAt prog w s.heap sc row mask) (D : TestsAre prog w s.heap tvs Ss) (Lt : s.heap.IsList ta tvs.toArray) :
    Reads1 prog w (HK w.params) 141 8 32 [.ref sc, .int at_ t, .ref ta] s (fun _ v => ∃ u, v = .int (lastF row mask 1 Ss at_) u) := by
  intro p loose mean mg mb dp un gd cn cs a ccd cl outer A₀ base h₀ L m Q E B F X T hk hd hu hret
  walk_at "r_enter"
  k_steps
  exact hret _ _ _ (Fr.keep (by assumption)) ⟨_, rfl⟩
theorem back_reads {prog : Program} {w : World} {s : Shared} {sc ta : Addr} {row : List Cell} {mask at_ : Int} {t : Tok} {tvs : List Value} {Ss : List (Int → Bool)} (C : SceneAt prog w s.heap sc row mask) (D : TestsAre prog w s.heap tvs Ss) (Lt : s.heap.IsList ta tvs.toArray) :
    Reads1 prog w (HK w.params) 148 8 32 [.ref sc, .int at_ t, .ref ta] s (fun _ v => ∃ u, v = .int (lastF row mask (-1) Ss at_) u) := by
  intro p loose mean mg mb dp un gd cn cs a ccd cl outer A₀ base h₀ L m Q E B F X T hk hd hu hret
  walk_at "r_enter"
  k_steps
  exact hret _ _ _ (Fr.keep (by assumption)) ⟨_, rfl⟩
end
theorem item_base {prog : Program} {w : World} {A : Around} {E : Value → Shared → Prop} {s : Shared} {hb : Heap} {l : Addr} {vs : List Value} {Ss : List (Int → Bool)} {S : Int → Bool} {v : Value} {u : Tok} {value slice : PySem.Expr} {Q : Value → Shared → Prop} (hl : s.heap.IsList l (v :: vs).toArray) (_ : TestsAre prog w hb (v :: vs) (S :: Ss))
    (h : Q v s)
    (hs : subscripted slice false (.ref l) (.int 0 u) = operate [.ref l, .int 0 u] (getItem (.ref l) (.int 0 u)) := by with_unfolding_all rfl) :
    wpAny (model prog w) A (subscriptTail value slice (.ref l) (.int 0 u)) Q E s :=
  tail_any hl.typeIs slot_list_getitem.lookup (wpAny_getItem_list hl (by decide) (by decide) (by simp) h) hs
theorem append_ints {prog : Program} {w : World} {A : Around} {E : Value → Shared → Prop} {s : Shared} {h₀ : Heap} {L D : Addr} {m : Str → Option Value} {news news' : List (Addr × Obj)} {vs : List Value} {f : List Int} {n : Nat} {x : Int} {t : Tok} {Q : Value → Shared → Prop} (F : Fr h₀ L s.heap m) (N : News h₀ L s.heap news) (hi : IntsAre vs f) (hz : f.length ≤ 1000)
    (U : Upd D (listOf vs.toArray n) (listOf (vs ++ [Value.int x t]).toArray (n + 1)) news news')
    (h : ∀ h', Fr h₀ L h' m → News h₀ L h' news' → Q .none { s with heap := h' }) : wpAny (model prog w) A (call (.builtin "list.append") [.ref D, .int x t]) Q E s :=
  append_K F N (by rw [List.push_toArray]; exact U) h (by rw [List.size_toArray, hi.length, sizeLine_eq]; omega)
theorem ints_snoc {vs : List Value} {f : List Int} {x : Int} {t : Tok} (h : IntsAre vs f) : IntsAre (vs ++ [Value.int x t]) (f ++ [x]) := by
  induction h with
  | nil => exact .cons _ _ .nil
  | cons a b _ ih => exact .cons _ _ ih
theorem slice_one (v : Value) (tvs : List Value) : slicePick (v :: tvs).toArray (some 1) none none = tvs.toArray := by
  have e : sliceBounds (some 1) none none (v :: tvs).toArray.size = (((1 : Nat) : Int), (((v :: tvs).length : Nat) : Int), 1) := by
    simp only [sliceBounds, Option.getD_none, show (1 : Int) > 0 by decide, if_true]
    simp
    omega
  rw [kmk_pick_nat _ e]
  simp
section
local macro_rules | `(tactic| walk_at "lift_list") => `(tactic| first | assumption | exact isList_ext (by assumption) (Fr.keep (by k_asm)))
local macro_rules | `(tactic| walk_at "subscriptTail") => `(tactic| (k_here; k_dflt (refine' item_row ?l ?R ?z ?a ?b ?_ ?s; (case l => walk_at "lift_list"); (case R => assumption); (case z => assumption); (case a => assumption); (case b => assumption); (case s => with_unfolding_all rfl)); intro x' ox' es' n' tg' tm' tk' c' hc' I' a' b' d'))
local macro_rules | `(tactic| walk_at "subscriptTail") => `(tactic| (k_here; (with_reducible show wpAny _ _ (subscriptTail _ _ (Value.ref _) (Value.int 0 _)) _ _ _); k_dflt (refine' item_base ?l ?R ?_ ?s; (case l => walk_at "lift_list"); (case R => assumption); (case s => with_unfolding_all rfl))))
local macro_rules | `(tactic| walk_at "call ref") => `(tactic| (k_here; k_dflt (refine' reads_use (found_reads ?c ?d ?e ?f ?g) ?k1 ?k2 ?k3 ?k4 ?k5 ?k6 ?k7 ?k8 ?_; (case c => exact SceneAt.ext (by assumption) (Fr.keep (by k_asm))); (case d => exact TestIs.ext (by assumption) (Fr.keep (by k_asm))); (case e => exact IsTup.keeps (by assumption) (Fr.keep (by k_asm))); (case f => assumption); (case g => first | assumption | exact .inl rfl); walk_at "r_prem"); intro v' h' tk' F' N' x' p'; obtain ⟨u', hv'⟩ := p'; subst hv'; (try k_sweep)))
local macro_rules | `(tactic| walk_at "call ref") => `(tactic| (k_here; k_dflt (refine' reads_use (fits_reads ?c) ?k1 ?k2 ?k3 ?k4 ?k5 ?k6 ?k7 ?k8 ?_; (case c => exact TestIs.ext (by assumption) (Fr.keep (by k_asm))); walk_at "r_prem"); intro v' h' tk' F' N' x' p'; subst p'; (try k_sweep)))
local macro_rules | `(tactic| walk_at "exec For Name Subscript cons nil") => `(tactic| (k_here; (rename Fr _ _ _ _ => lF'); (with_unfolding_all refine' For_invVF lF' ?k1 ?k2 ?_ ?k4 ?k5; (case k1 => exact rfl); (case k2 => exact rfl); (case k4 => (intro _; with_unfolding_all rfl)); (case k5 => exact PassesOwn.never); k_whole); k_fold))
local macro_rules | `(tactic| walk_at "call builtin:list.append") => `(tactic| (k_here; k_dflt (refine' append_ints ?F ?N ?i ?z ?U ?_; (case F => k_asm); (case N => k_asm); (case i => assumption); (case z => assumption); (case U => k_upd)); intro h' F' N'; (try k_sweep)))
def inJ (sc : Addr) (row : List Cell) (mask : Int) (Ss : List (Int → Bool)) (R : Option (List Int)) (D fa : Addr) (lo : Obj) (i : Nat) (m₁ : Str → Option Value) (nx : List (Addr × Obj)) : Prop :=
  ∃ vals n f, nx = [(D, lo), (fa, listOf vals.toArray n)] ∧ IntsAre vals f ∧ f ≠ [] ∧ f.length = i + 1 ∧ @Ne Nat D fa ∧ m₁ (Str.ofString "scene") = some (.ref sc) ∧ m₁ (Str.ofString "found") = some (.ref fa) ∧ inputGo row mask (Ss.drop i) f = R
set_option maxHeartbeats 400000 in
theorem input_reads {prog : Program} {w : World} {s : Shared} {sc ta : Addr} {row : List Cell} {mask at_ : Int} {t : Tok} {tvs : List Value} {Ss : List (Int → Bool)} (C : SceneAt prog w s.heap sc row mask) (D : TestsAre prog w s.heap tvs Ss) (Lt : s.heap.IsList ta tvs.toArray) (hne : tvs ≠ []) (hsz : tvs.length < 1000)
    (h0 : 0 ≤ at_) (h1 : at_ < row.length) :
    Reads1 prog w (HK w.params) 127 8 32 [.ref sc, .int at_ t, .ref ta] s (fun h v => OutIs h v (inputF row mask Ss at_)) := by
  intro p loose mean mg mb dp un gd cn cs a ccd cl outer A₀ base h₀ L m Q E B F X T hk hd hu hret
  have C' := C
  obtain ⟨ox, es, n, b, bx, bes, bn, rl, vs, I, a1, bI, b1, bl, br, bz⟩ := C'.inst
  generalize hR : inputF row mask Ss at_ = R at hret
  cases D with
  | nil => exact absurd rfl hne
  | @cons v S tvs Ss T1 D =>
  have D' := TestsAre.cons T1 D
  walk_at "r_enter"
  obtain ⟨kt, K1, K2⟩ := kinds_input (by assumption)
  k_steps
  · rename News _ _ _ _ => Nq
    rename Fr _ _ _ _ => Fq
    rename (S _ = true) => hS0
    rename (row[at_.toNat]? = some _) => hc0
    rw [slice_one] at Nq
    rename News _ _ _ [(_, listOf _ _)] => No
    have hf := Heap.lt_size (No _ (List.mem_singleton.mpr rfl)).1
    have e : R = inputGo row mask Ss [at_] := by
      rw [← hR, inputF, hc0]
      simp [hS0]
    subst e
    clear hR
    refine iter_listJ (vs := tvs) (lo := listOf tvs.toArray 0) (n := 0) (inJ sc row mask Ss _ _ _ (listOf tvs.toArray 0)) rfl rfl rfl ?_ Fq Nq ⟨_, _, _, rfl, .cons _ _ .nil, by simp, rfl, Nat.ne_of_gt (Nat.lt_succ_of_lt hf), rfl, rfl, rfl⟩ ?_ ?_
    · rintro i m₁ nx h ⟨vals, n, f, rfl, _⟩ k N₁
      exact (N₁ _ (List.mem_cons_self ..)).1
    · rintro I it i v m₁ nx h₂ tk₂ hv ⟨vals, n, f, rfl, i1, i2, i3, i4, i5, i6, i7⟩ o1 o2 F₂ N₂
      obtain ⟨S', hS', TS⟩ := D.get hv
      rw [hS', inputGo] at i7
      have hi : i < tvs.length := (List.getElem?_eq_some_iff.mp hv).1
      have hfz : f.length ≤ 1000 := by simp at hsz; omega
      simp only [List.forall_mem_cons, List.not_mem_nil, false_implies, implies_true, and_true] at o1
      obtain ⟨o3, o4⟩ := o1
      replace o3 := neN o3
      replace o4 := neN o4
      k_unmd
      k_fold
      k_steps
      · rename (foundF _ _ _ _ _ _ _ < 0) => q
        rw [if_pos q] at i7
        rw [show inputGo row mask Ss [at_] = none from i7.symm] at hret
        exact hret _ _ _ (Fr.keep (by assumption)) rfl
      · rename (¬ foundF _ _ _ _ _ _ _ < 0) => q
        rw [if_neg q] at i7
        rename Fr _ _ _ _ => Fz
        rename News _ _ _ _ => Nz
        exact ⟨_, _, _, _, rfl, Fz, Nz, (by simp only [List.forall_mem_cons]; exact ⟨o3, o4, fun _ hp => nomatch hp⟩), _, _, _, rfl, ints_snoc i1, by simp, by rw [List.length_append, i3]; rfl, i4, i5, i6, i7⟩
    · rintro m₁ nx h₂ tk₂ ⟨vals, n, f, rfl, i1, i2, i3, i4, i5, i6, i7⟩ F₂ N₂
      dsimp only
      k_steps
      rw [D.length, List.drop_length, inputGo] at i7
      rw [show inputGo row mask Ss [at_] = some f from i7.symm] at hret
      refine hret _ _ _ (Fr.keep (by assumption)) ⟨_, _, rfl, ⟨_, (N₂ _ (List.mem_cons_of_mem _ (List.mem_singleton.mpr rfl))).1, rfl, n, rfl⟩, i1⟩
  · rename (S _ = false) => hS0
    rename (row[at_.toNat]? = some _) => hc0
    have e : R = none := by
      rw [← hR, inputF, hc0]
      simp [hS0]
    subst e
    exact hret _ _ _ (Fr.keep (by assumption)) rfl
end
end
section
local macro_rules | `(tactic| walk_at "pad") => `(tactic| skip)
theorem fresh8 : True := by
  w_top off
  trivial
section
variable {prog : Program} {w : World} {A₀ A : Around} {s : Shared} {base h₀ : Heap} {outer : List Env} {L : Addr} {m mg mb : Str → Option Value} {env : Env} {K : Frag} {news : List (Addr × Obj)}
  {R : Result → Shared → Prop} {name qual : Str} {params : Arguments} {body : List Stmt} {scope : Scope} {dV kV doc pm cdv ct oc : Value} {an od : Option Addr} {osl : Array (Option Value)} {f : Addr} {args : Args} {binds : List (Str × Value)}
  {p : Program} {loose : List Str} {mean : ExcName → Option Value}
/-- entering a def with what is written set apart -/
theorem code_writer (B : Below A₀ base outer h₀) (F : Fr h₀ L s.heap m) (X₀ : K.In h₀) (N : News h₀ L s.heap news) (T : Top p loose mean mg mb h₀) (hA : A.frames = some (env :: outer)) (hf : env.frame = some L) (hke : env.scope.kind = .function)
    (ho : K.lookup f = some ⟨oc, od, .func (fnOf name qual params body scope dV kV doc pm an cdv ct), osl⟩) (hcd : codeIn K cdv qual = true) (hroom : A.depth < recursionLimit)
    (hbind : BindsTo s (fnOf name qual params body scope dV kV doc pm an cdv ct) args binds) (hloc : ∀ y ∈ binds, scope.names.lookup y.1 = some .local)
    (h : ∀ g L' h₁, Fr g L' h₁ (fun y => binds.reverse.lookup y) → News g L' h₁ news → Below A base (env :: outer) g → K.In g → Top p loose mean mg mb g → GSub s.heap g (news.map (·.1)) →
      wpAny (model prog w) (A.deeper (envOf qual scope L' f cdv)) (execs body (envOf qual scope L' f cdv))
        (fun fl s' => R (.ok (.ret (match fl with | .ret v => v | _ => .none))) s') (fun _ _ => False)
        { s with heap := h₁, toks := s.toks + binds.length })
    (hco : scope.isCoroutine = false) (hgen : scope.isGenerator = false) (hk : scope.kind = .function)
    (hcell : ∀ x ∈ scope.names, x.2 ≠ .cell) : codeAny (model prog w) A (.call (.ref f) args) R s := by
  obtain ⟨FG, BG, st, lv⟩ := groundX (R := R) B F N hA hf hke
  refine codeAny_call_def (fd := fnOf name qual params body scope dV kV doc pm an cdv ct) (body := body) (binds := binds) hroom ((X₀.keeps F.keep) _ _ ho) rfl (T.nolimit.keeps F.keep) (codeRec_of (X₀.keeps F.keep) hcd) rfl hbind hcell hloc (fun h₁ hns hk₁ => ?_) hco hgen hk
  exact wpAny_mono (h _ s.heap.objs.size h₁ ⟨hns, fun b o e => hk₁ b o (of_hideAll _ e), Nat.le_of_eq (hideAll_size _ _)⟩
    (fun p hp => ⟨hk₁ _ _ (N p hp).1, Nat.ne_of_lt (Heap.lt_size (N p hp).1), hideAll_none _ (List.mem_map_of_mem hp)⟩) BG (X₀.keeps st) (T.keeps st) (fun b o e n => hideAll_get _ e n)) (fun fl s' hl => hl) fun _ _ y => y.elim
end
/-- all but one -/
abbrev ExtBut (pa : Addr) (h h' : Heap) : Prop := ∀ b o, b ≠ pa → h.get? b = some o → h'.get? b = some o

/-- what a call that writes at pa alone promises -/
def Writes (prog : Program) (w : World) (K : Frag) (f : Addr) (d u : Nat) (vs : List Value) (s : Shared) (pa : Addr) (P : Heap → Value → Prop) : Prop :=
  ∀ (p : Program) (loose : List Str) (mean : ExcName → Option Value) (mg mb : Str → Option Value) (dp un : Nat) (gd : Option (List Code)) (cn : Str) (cs : Scope) (a : Addr) (ccd : Value) (cl : List (Str × Addr)) (outer : List Env) (A₀ : Around) (base h₀ : Heap) (L : Addr) (m : Str → Option Value)
    (Q E : Value → Shared → Prop),
    Below A₀ base outer h₀ → Fr h₀ L s.heap m → K.In h₀ → Top p loose mean mg mb h₀ → cs.kind = .function → dp + d < recursionLimit → un + u < cLine → pa ≠ L → h₀.get? pa = none →
    (∀ v h' tk', ExtBut pa s.heap h' → P h' v → Q v { s with heap := h', toks := tk' }) →
    wpAny (model prog w) (ktrTop dp un gd cn cs L a ccd cl outer) (call (.ref f) vs) Q E s

def PoolAt (h : Heap) (pa : Addr) : Prop := ∃ vals n xs, h.get? pa = some (listOf vals.toArray n) ∧ IntsAre vals xs ∧ xs.length ≤ 1000

local macro_rules | `(tactic| walk_at "w_enter") => `(tactic| (refine wpAny_call ?_; k_dflt (refine' code_writer ?k1 ?k2 ?k3 ?k4 ?k5 ?kA ?kF ?kK ?k6 ?k7 ?k8 ?k9 ?kB ?_ ?c2 ?c3 ?c4 ?c5; (case kA => exact rfl); (case kF => exact rfl); (case kK => assumption); (case k1 => k_asm); (case k2 => k_asm); (case k3 => k_asm); (case k4 => assumption); (case k5 => k_asm); (case k6 => k_is); (case k7 => k_is); (case k8 => (show _ < recursionLimit; dsimp only [ktrTop]; omega)); (case k9 => exact BindsTo.of_eq rfl); (case c5 => decide); (case kB => exact locs rfl); (case c2 => exact rfl); (case c3 => exact rfl); (case c4 => exact rfl); k_whole); intro g' L' h' F' N' B' X' T' G'; (try dsimp only); (try k_fold)))
theorem len_led {prog : Program} {w : World} {A : Around} {E : Value → Shared → Prop} {s : Shared} {h₀ : Heap} {L D : Addr} {news : List (Addr × Obj)} {vs : List Value} {n : Nat} {Q : Value → Shared → Prop} (N : News h₀ L s.heap news) (hm : (D, listOf vs.toArray n) ∈ news) (hz : vs.length ≤ sizeLine)
    (h : ∀ t, Q (.int vs.length t) { s with toks := s.toks + 1 + 1 }) : wpAny (model prog w) A (call (.builtin "len") [.ref D]) Q E s :=
  PyProof.Rows.len_list ⟨_, (N _ hm).1, rfl, n, rfl⟩ (by rw [List.size_toArray]; rw [sizeLine_eq] at hz; omega) (by rw [List.size_toArray]; exact h _)
theorem item_led {prog : Program} {w : World} {A : Around} {E : Value → Shared → Prop} {s : Shared} {h₀ : Heap} {L D : Addr} {news : List (Addr × Obj)} {v : Value} {vs : List Value} {n : Nat} {u : Tok} {value slice : PySem.Expr} {Q : Value → Shared → Prop} (N : News h₀ L s.heap news) (hm : (D, listOf (v :: vs).toArray n) ∈ news) (h : Q v s)
    (hs : subscripted slice false (.ref D) (.int 0 u) = operate [.ref D, .int 0 u] (getItem (.ref D) (.int 0 u)) := by with_unfolding_all rfl) :
    wpAny (model prog w) A (subscriptTail value slice (.ref D) (.int 0 u)) Q E s :=
  tail_any ⟨_, (N _ hm).1, rfl⟩ slot_list_getitem.lookup (wpAny_getItem_list ⟨_, (N _ hm).1, rfl, n, rfl⟩ (by decide) (by decide) (by simp) h) hs
theorem pop_led {prog : Program} {w : World} {A : Around} {E : Value → Shared → Prop} {s : Shared} {h₀ : Heap} {L D : Addr} {m : Str → Option Value} {news news' : List (Addr × Obj)} {v : Value} {vs : List Value} {n : Nat} {u : Tok} {Q : Value → Shared → Prop} (F : Fr h₀ L s.heap m) (N : News h₀ L s.heap news)
    (U : Upd D (listOf (v :: vs).toArray n) (listOf vs.toArray (n + 1)) news news') (hz : (v :: vs).length ≤ sizeLine) (h : ∀ h', Fr h₀ L h' m → News h₀ L h' news' → Q v { s with heap := h' }) : wpAny (model prog w) A (call (.builtin "list.pop") [.ref D, .int 0 u]) Q E s :=
  kl_popAt F N rfl (k := 0) (seqIndex_at (by decide) (by simp)) (p := []) (q := vs) (y := v) rfl U hz h
section
local macro_rules | `(tactic| walk_at "call builtin:list.pop") => `(tactic| (k_here; k_dflt (refine' pop_led ?F ?N ?U ?z ?_; (case F => k_asm); (case N => k_asm); (case U => k_upd); (case z => assumption)); kl_rest))
local macro_rules | `(tactic| walk_at "call builtin:len") => `(tactic| (k_here; k_dflt (refine' len_led ?N ?m ?z ?_; (case N => k_asm); (case m => k_mem); (case z => assumption)); intro t'))
local macro_rules | `(tactic| walk_at "subscriptTail") => `(tactic| (k_here; (with_reducible show wpAny _ _ (subscriptTail _ _ (Value.ref _) (Value.int 0 _)) _ _ _); k_dflt (refine' item_led ?N ?m ?_ ?s; (case N => k_asm); (case m => k_mem); (case s => with_unfolding_all rfl))))
local macro_rules | `(tactic| walk_at "setItem ref int") => `(tactic| (k_here; k_dflt (refine' ki_set ?F ?N ?h ?f ?e ?U ?_; (case F => k_asm); (case N => k_asm); (case h => decide); (case f => decide); (case e => rfl); (case U => k_upd)); intro h' F' N'; (try dsimp only at N'); (try k_sweep)))
local macro_rules | `(tactic| walk_at "binaryOp FloorDiv int int") => `(tactic| (k_here; k_dflt (refine' floordiv_int ?b ?_ ?p; (case b => omega); (case p => exact Or.inl (PyProof.noPylong_small (by omega))))))
local macro_rules | `(tactic| walk_at "binaryOp Mod int int") => `(tactic| (k_here; k_dflt (refine' mod_int' ?b ?_; (case b => omega))))
theorem take_writes {prog : Program} {w : World} {s : Shared} {pa : Addr} {many : Int} {t : Tok} (hp : PoolAt s.heap pa) (hm : 0 < many) (hm' : many < 100) :
    Writes prog w (HK w.params) 387 1 4 [.ref pa, .int many t] s pa (fun h v => PoolAt h pa ∧ ∃ d u, v = .int d u ∧ 0 ≤ d ∧ d < many) := by
  obtain ⟨vals, n, xs, hp, hi, hz⟩ := hp
  intro p loose mean mg mb dp un gd cn cs a ccd cl outer A₀ base h₀ L m Q E B F X T hk hd hu hpL hp0 hret
  have NN : News h₀ L s.heap [(pa, listOf vals.toArray n)] := fun q hq => by
    rw [List.mem_singleton.mp hq]; exact ⟨hp, hpL, hp0⟩
  have off : ∀ {g h' : Heap} {L' : Addr} {m' : Str → Option Value} {o : Obj}, GSub s.heap g (List.map (fun x => x.1) [(pa, o)]) → Fr g L' h' m' → ExtBut pa s.heap h' := fun G F b ob hb e => F.keep b ob (G b ob e (by simpa using hb))
  have fm : ∀ x : Int, 0 ≤ x.fmod many ∧ x.fmod many < many := fun x => ⟨Int.fmod_nonneg_of_pos x hm, Int.fmod_lt_of_pos x hm⟩
  cases hi with
  | nil =>
    walk_at "w_enter"
    k_steps
    rename GSub _ _ _ => Gq
    rename News _ _ _ _ => Nq
    exact hret _ _ _ (off Gq (by assumption)) ⟨⟨_, _, _, (Nq _ (List.mem_singleton.mpr rfl)).1, .nil, hz⟩, _, _, rfl, Int.le_refl _, hm⟩
  | @cons k u vs ks hi =>
    have hsz : (Value.int k u :: vs).length ≤ sizeLine := by rw [sizeLine_eq]; simp [hi.length] at hz ⊢; omega
    walk_at "w_enter"
    k_steps
    all_goals (rename GSub _ _ _ => Gq; rename News _ _ _ _ => Nq)
    all_goals first
      | (exfalso; rename (((Value.int k u :: vs).length : Nat) : Int) = 0 => q; simp at q; omega)
      | exact hret _ _ _ (off Gq (by assumption)) ⟨⟨_, _, _, (Nq _ (List.mem_singleton.mpr rfl)).1, hi, by simp at hz; omega⟩, _, _, rfl, fm _⟩
      | exact hret _ _ _ (off Gq (by assumption)) ⟨⟨_, _, _, (Nq _ (List.mem_singleton.mpr rfl)).1, .cons _ _ hi, by simpa using hz⟩, _, _, rfl, fm _⟩
end
end
section
section
variable {prog : Program} {w : World} {A : Around} {E : Value → Shared → Prop} {R : Result → Shared → Prop} {s : Shared} {h₀ : Heap} {L : Addr} {mL : Str → Option Value}

/-- what a turn of a comprehension leaves -/
def CompTurned (h₀ : Heap) (L : Addr) (mL : Str → Option Value) (keep : List (Addr × Obj)) (off : Addr → Prop) (J : List (Addr × Obj) → Prop) (s₁ s₂ : Shared) : Prop :=
  ∃ h' tk nx, s₂ = { s₁ with heap := h', toks := tk } ∧ Fr h₀ L h' mL ∧ News h₀ L h' (keep ++ nx) ∧ (∀ p ∈ nx, off p.1) ∧ J nx

theorem compLoop_J {elt iter : Expr} {x : Str} {px : Pos} {ifs : List Expr} {scope : Scope} {pos : Pos} {I D : Addr} {fp wr : List Addr} {n : Nat} {P : Nat → Value → Prop} {St : Nat → Heap → Prop}
    {cenv : Env} {m : Str → Option Value} {news : List (Addr × Obj)} (W : Walks prog w A I fp wr n P St) (hsz : n ≤ sizeLine)
    (hx : cenv.kindOf x = some .local) (hp : (cenv.scope.kind == .class || (cenv.scope.kind == .module && cenv.locals != cenv.globals)) = false)
    (hDC : D ≠ cenv.locals) (hDf : D ∉ fp) (hCf : cenv.locals ∉ fp) (hLf : L ∉ fp) (hDL : D ≠ L) (hCL : cenv.locals ≠ L) (hwr : ∀ b ∈ wr, h₀.get? b = none) (hC0 : h₀.get? cenv.locals = none) (hD0 : h₀.get? D = none)
    (hst : St 0 s.heap) (F : Fr h₀ L s.heap mL) (N : News h₀ L s.heap news) (hoff : ∀ p ∈ news, p.1 ∉ wr ∧ p.1 ≠ cenv.locals ∧ p.1 ≠ D)
    (hacc : s.heap.get? D = some (listOf #[] 0)) (hn : s.heap.Ns cenv.locals m)
    (J : Nat → List Value → List (Addr × Obj) → Prop) (h0 : J 0 [] news)
    (turn : ∀ i v ys k oc m₁ news₁ s₁ own, (∃ h tk, s₁ = { s with heap := h, toks := tk }) → i < n → P i v → J i ys news₁ → (∀ p ∈ news₁, p.1 ∉ wr ∧ p.1 ≠ cenv.locals ∧ p.1 ≠ D) → (∀ p ∈ own, p.1 ∈ fp) → (∀ p ∈ own, s₁.heap.get? p.1 = some p.2) → (∀ b ∈ fp, h₀.get? b = none → ∀ o, s₁.heap.get? b = some o → (b, o) ∈ own) → St (i + 1) s₁.heap →
      Fr h₀ L s₁.heap mL → News h₀ L s₁.heap ((D, listOf ys.toArray k) :: (cenv.locals, oc) :: (own ++ news₁)) → s₁.heap.Ns cenv.locals m₁ → m₁ x = some v →
      wpAny (model prog w) A (forIn ifs true fun c r => if r = true then do let ok ← isTrue c cenv (eval c cenv); pure (ForInStep.yield ok) else pure (ForInStep.yield r)) (fun ok s₂ =>
        if ok = true then wpAny (model prog w) A (eval elt cenv) (fun y s₃ => CompTurned h₀ L mL ((D, listOf ys.toArray k) :: (cenv.locals, oc) :: own) (fun b => b ∉ wr ∧ b ≠ cenv.locals ∧ b ≠ D) (J (i + 1) (ys ++ [y])) s₁ s₃) (fun _ _ => False) s₂
        else CompTurned h₀ L mL ((D, listOf ys.toArray k) :: (cenv.locals, oc) :: own) (fun b => b ∉ wr ∧ b ≠ cenv.locals ∧ b ≠ D) (J (i + 1) ys) s₁ s₂) (fun _ _ => False) s₁)
    (hR : ∀ h' tk m' ys k nx, h'.Ns cenv.locals m' → Fr h₀ L h' mL → News h₀ L h' ((D, listOf ys.toArray k) :: nx) → (∀ p ∈ nx, p.1 ∉ wr ∧ p.1 ≠ cenv.locals ∧ p.1 ≠ D) → J n ys nx → R (.ok .next) { s with heap := h', toks := tk }) :
    codeAny (model prog w) A (.compLoop (.ListComp elt [⟨.Name x px, iter, ifs, 0⟩] scope pos) 0 (.ref I) (.ref D) cenv) R s := by
  have hCw : cenv.locals ∉ wr := fun h => hCf (W.sub _ h)
  have hDw : D ∉ wr := fun h => hDf (W.sub _ h)
  have hLw : L ∉ wr := fun h => hLf (W.sub _ h)
  have old : ∀ b o, h₀.get? b = some o → b ∉ wr := fun b o e hb => by rw [hwr b hb] at e; cases e
  refine codeAny_compLoop_tests
    (fun q s' => ∃ h' tk m' news' i ys k, s' = { s with heap := h', toks := tk } ∧ St i h' ∧ Fr h₀ L h' mL ∧ News h₀ L h' ((D, listOf (List.toArray ys) k) :: news') ∧ (∀ p ∈ news', p.1 ∉ wr ∧ p.1 ≠ cenv.locals ∧ p.1 ≠ D) ∧ h'.Ns cenv.locals m' ∧ J i ys news' ∧ ys.length ≤ i ∧ i ≤ n ∧ q = n + 1 - i) ?_ (n + 1)
    ⟨s.heap, s.toks, m, news, 0, [], 0, rfl, hst, F, ?_, hoff, hn, h0, Nat.le_refl _, Nat.zero_le _, rfl⟩
  · rintro q s' ⟨h', tk, m', news', i, ys, k, rfl, hst', F', N', hoff', hn', hJ, hys, hi, rfl⟩
    have next : ∀ h₁ : Heap, (∀ b o, b ∉ wr → h'.get? b = some o → h₁.get? b = some o) → Fr h₀ L h₁ mL ∧ News h₀ L h₁ ((D, listOf ys.toArray k) :: news') ∧ h₁.Ns cenv.locals m' := fun h₁ hk₁ =>
      ⟨⟨F'.ns.at' fun o e => hk₁ _ o hLw e, fun b o e => hk₁ b o (old b o e) (F'.keep b o e), F'.above⟩, fun p hp => ⟨hk₁ _ _ (by
        rcases List.mem_cons.mp hp with rfl | hp
        · exact hDw
        · exact (hoff' p hp).1) (N' p hp).1, (N' p hp).2⟩, hn'.at' fun o e => hk₁ _ o hCw e⟩
    by_cases hlt : i < n
    · refine W.item i _ _ _ hlt hst' fun v h₁ tk₁ hP hst₁ hk₁ => ?_
      obtain ⟨F₁, N₁, hn₁⟩ := next h₁ hk₁
      refine wpAny_assign_Name (wpAny_storeName_local hx hn₁ (fun h₂ hn₂ hs₂ => ?_) hp)
      have F₂ : Fr h₀ L h₂ mL := ⟨F₁.ns.at' fun o e => (hs₂.2 L (Ne.symm hCL)).trans e, fun b o e => (hs₂.2 b (fun q => by rw [q, hC0] at e; cases e)).trans (F₁.keep b o e), F₁.above⟩
      have N₂ : News h₀ L h₂ ((D, listOf ys.toArray k) :: news') := fun p hp => ⟨(hs₂.2 p.1 (by
        rcases List.mem_cons.mp hp with rfl | hp
        · exact hDC
        · exact (hoff' p hp).2.1)).trans (N₁ p hp).1, (N₁ p hp).2⟩
      have Nown : News h₀ L h₂ (ownOf h₀ fp h₂) := news_ownOf hLf
      have hst₂ : St (i + 1) h₂ := W.frame _ _ _ hst₁ fun b hb o e => (hs₂.2 b fun q => hCf (q ▸ hb)).trans e
      obtain ⟨oc, es, ep, hoc, _⟩ := id hn₂
      have NN : News h₀ L h₂ ((D, listOf ys.toArray k) :: (cenv.locals, oc) :: (ownOf h₀ fp h₂ ++ news')) := fun p hp => by
        rcases List.mem_cons.mp hp with rfl | hp
        · exact N₂ _ (List.mem_cons_self ..)
        · rcases List.mem_cons.mp hp with rfl | hp
          · exact ⟨hoc, hCL, hC0⟩
          · rcases List.mem_append.mp hp with hp | hp
            · exact Nown p hp
            · exact N₂ p (List.mem_cons_of_mem _ hp)
      have rest : ∀ (b : Addr) (o : Obj), (b, o) ∈ ownOf h₀ fp h₂ → h₁.get? b = some o := fun b o e => by
        have h5 := (Nown _ e).1
        rw [← hs₂.2 b fun q => hCf (q ▸ ownOf_sub _ e)]; exact h5
      have fin : ∀ s₃ : Shared, ∀ zs k', zs.length ≤ i + 1 → CompTurned h₀ L mL ((D, listOf (List.toArray zs) k') :: (cenv.locals, oc) :: ownOf h₀ fp h₂) (fun b => b ∉ wr ∧ b ≠ cenv.locals ∧ b ≠ D) (J (i + 1) zs) { s with heap := h₂, toks := tk₁ + 1 } s₃ →
          ∃ q, q < n + 1 - i ∧ ∃ h' tk m' news' i ys k, s₃ = { s with heap := h', toks := tk } ∧ St i h' ∧ Fr h₀ L h' mL ∧ News h₀ L h' ((D, listOf (List.toArray ys) k) :: news') ∧ (∀ p ∈ news', p.1 ∉ wr ∧ p.1 ≠ cenv.locals ∧ p.1 ≠ D) ∧ h'.Ns cenv.locals m' ∧ J i ys news' ∧ ys.length ≤ i ∧ i ≤ n ∧ q = n + 1 - i := by
        rintro s₃ zs k' hz ⟨h₃, tk₃, nx, rfl, F₃, N₃, ho₃, hJ₃⟩
        refine ⟨n + 1 - (i + 1), by omega, h₃, tk₃, (fun z => if z = x then some v else m' z), nx, i + 1, zs, k', rfl, ?_, F₃, ?_, ho₃, ?_, hJ₃, hz, hlt, rfl⟩
        · refine W.frame _ _ _ hst₁ fun b hb o e => ?_
          cases hb0 : h₀.get? b with
          | some o₀ =>
            have : o₀ = o := by have := F₁.keep b o₀ hb0; rw [e] at this; exact (Option.some.inj this).symm
            exact this ▸ F₃.keep b o₀ hb0
          | none =>
            have e₂ : h₂.get? b = some o := (hs₂.2 b fun q => hCf (q ▸ hb)).trans e
            exact (N₃ _ (List.mem_append_left _ (List.mem_cons_of_mem _ (List.mem_cons_of_mem _ (mem_ownOf hb hb0 e₂))))).1
        · intro p hp
          rcases List.mem_cons.mp hp with rfl | hp
          · exact N₃ _ (List.mem_append_left _ (List.mem_cons_self ..))
          · exact N₃ _ (List.mem_append_right _ hp)
        · refine hn₂.at' fun o e => ?_
          rw [hoc] at e
          cases e
          exact (N₃ (cenv.locals, oc) (List.mem_append_left _ (List.mem_cons_of_mem _ (List.mem_cons_self ..)))).1
      refine wpAny_mono (turn i v ys k oc _ news' { s with heap := h₂, toks := tk₁ + 1 } (ownOf h₀ fp h₂) ⟨_, _, rfl⟩ hlt hP hJ hoff' ownOf_sub (fun p hp => (Nown p hp).1) (fun b hb hn o e => mem_ownOf hb hn e) hst₂ F₂ NN hn₂ (by simp)) (fun ok s₃ h₃ => ?_) fun _ _ e => e.elim
      cases ok with
      | false => exact fin _ _ k (Nat.le_succ_of_le hys) h₃
      | true =>
        rw [if_pos rfl] at h₃ ⊢
        refine wpAny_mono h₃ (fun y s₄ h₄ => ?_) fun _ _ e => e.elim
        obtain ⟨h₃', tk₃, nx, rfl, F₃, N₃, ho₃, hJ₃⟩ := h₄
        have hD₃ : ∀ p ∈ (cenv.locals, oc) :: (ownOf h₀ fp h₂ ++ nx), p.1 ≠ D := fun p hp => by
          rcases List.mem_cons.mp hp with rfl | hp
          · exact Ne.symm hDC
          · rcases List.mem_append.mp hp with hp | hp
            · exact fun q => hDf (q ▸ ownOf_sub p hp)
            · exact (ho₃ p hp).2.2
        refine append_K (s := { s with heap := h₃', toks := tk₃ }) F₃ N₃ (Upd.head hD₃) (fun h₄ F₄ N₄ => ?_) (by rw [List.size_toArray]; omega)
        rw [List.push_toArray] at N₄
        exact fin _ (ys ++ [y]) (k + 1) (by simp; omega) ⟨h₄, tk₃, nx, rfl, F₄, N₄, ho₃, hJ₃⟩
    · have hin : i = n := by omega
      subst hin
      refine W.done _ _ _ hst' fun h₁ tk₁ hk₁ => ?_
      obtain ⟨F₁, N₁, hn₁⟩ := next h₁ hk₁
      exact hR h₁ tk₁ m' ys k news' hn₁ F₁ N₁ hoff' hJ
  · intro p hp
    rcases List.mem_cons.mp hp with rfl | hp
    · exact ⟨hacc, hDL, hD0⟩
    · exact N p hp
end
section
variable {prog : Program} {w : World} {A : Around} {E : Value → Shared → Prop} {s : Shared} {env : Env}

/-- where the source of a comprehension has been asked for its items -/
def CompAt (prog : Program) (w : World) (A : Around) (h₀ : Heap) (L : Addr) (env : Env) (scope : Scope) (cl : List (Str × Addr)) (x : Str) (ifs : List Expr) (elt : Expr) (upd : Addr → (Str → Option Value) → Str → Option Value) (Q : Addr → Shared → Prop) (it : Value) (s₂ : Shared) : Prop :=
  ∃ (I : Addr) (fp wr : List Addr) (n : Nat) (P : Nat → Value → Prop) (St : Nat → Heap → Prop) (mL : Str → Option Value) (news : List (Addr × Obj)) (J : Nat → List Value → List (Addr × Obj) → Prop),
    it = .ref I ∧ Walks prog w A I fp wr n P St ∧ n ≤ sizeLine ∧ (∀ b ∈ fp, b < s₂.heap.objs.size) ∧ L ∉ fp ∧ (∀ b ∈ wr, h₀.get? b = none) ∧ (∀ p ∈ news, p.1 ∉ wr) ∧ St 0 s₂.heap ∧ Fr h₀ L s₂.heap mL ∧ News h₀ L s₂.heap news ∧ J 0 [] news ∧
    (∀ C D i v ys k oc m₁ news₁ s₁ own, s₂.heap.objs.size ≤ C → s₂.heap.objs.size ≤ D → (∃ h tk, s₁ = { s₂ with heap := h, toks := tk }) → i < n → P i v → J i ys news₁ → (∀ p ∈ news₁, p.1 ∉ wr ∧ p.1 ≠ C ∧ p.1 ≠ D) → (∀ p ∈ own, p.1 ∈ fp) → (∀ p ∈ own, s₁.heap.get? p.1 = some p.2) → (∀ b ∈ fp, h₀.get? b = none → ∀ o, s₁.heap.get? b = some o → (b, o) ∈ own) → St (i + 1) s₁.heap →
      Fr h₀ L s₁.heap mL → News h₀ L s₁.heap ((D, listOf ys.toArray k) :: (C, oc) :: (own ++ news₁)) → s₁.heap.Ns C m₁ → m₁ x = some v →
      wpAny (model prog w) A (forIn ifs true fun c r => if r = true then do let ok ← isTrue c (compEnvC scope cl C env) (eval c (compEnvC scope cl C env)); pure (ForInStep.yield ok) else pure (ForInStep.yield r)) (fun ok s₂ =>
        if ok = true then wpAny (model prog w) A (eval elt (compEnvC scope cl C env)) (fun y s₃ => CompTurned h₀ L mL ((D, listOf ys.toArray k) :: (C, oc) :: own) (fun b => b ∉ wr ∧ b ≠ C ∧ b ≠ D) (J (i + 1) (ys ++ [y])) s₁ s₃) (fun _ _ => False) s₂
        else CompTurned h₀ L mL ((D, listOf ys.toArray k) :: (C, oc) :: own) (fun b => b ∉ wr ∧ b ≠ C ∧ b ≠ D) (J (i + 1) ys) s₁ s₂) (fun _ _ => False) s₁) ∧
    (∀ D h' tk ys k nx, s₂.heap.objs.size ≤ D → Fr h₀ L h' (upd D mL) → News h₀ L h' ((D, listOf (List.toArray ys) k) :: nx) → (∀ p ∈ nx, p.1 ∉ wr ∧ p.1 ≠ D) → J n ys nx → Q D { s₂ with heap := h', toks := tk })

theorem compBlock_J {elt iter : Expr} {x : Str} {px : Pos} {ifs : List Expr} {scope : Scope} {cl : List (Str × Addr)} {pos : Pos} {s₂ : Shared} {it : Value} {h₀ : Heap} {L : Addr} {upd : Addr → (Str → Option Value) → Str → Option Value} {Q : Addr → Shared → Prop} {RR : Value → Addr → Result → Shared → Prop}
    (hcell : ∀ y ∈ scope.names, y.2 ≠ .cell) (hkind : scope.kind = .function) (hx : scope.names.lookup x = some .local) (h : CompAt prog w A h₀ L env scope cl x ifs elt upd Q it s₂)
    (hRR : ∀ mL D C s' m', C ≠ L → h₀.get? C = none → s'.heap.Ns C m' → Fr h₀ L s'.heap mL → (∀ h'' tk, Fr h₀ L h'' (upd D mL) → (∀ b o, b ≠ C → b ≠ L → s'.heap.get? b = some o → h''.get? b = some o) → Q D { s' with heap := h'', toks := tk }) → RR (.ref D) C (.ok .next) s') :
    wpAny (model prog w) A (newList []) (fun acc s₃ => wpAny (model prog w) A (newFunctionEnv scope env.globals cl [] env.qual none .none (some env)) (fun cenv s₄ =>
      codeAny (model prog w) A (.compStart (.ListComp elt [⟨.Name x px, iter, ifs, 0⟩] scope pos) 0 it acc { cenv with scope := relabel scope env }) (RR acc cenv.locals) s₄) E s₃) E s₂ := by
  obtain ⟨I, fp, wr, n, P, St, mL, news, J, rfl, W, hsz, hfp, hLf, hwr, hnw, hst, F, N, h0, turn, done⟩ := h
  refine wpAny_newObj_type (wpAny_newFunctionEnv hcell (by intro y hy; simp at hy) (fun h₁ hns₁ hsb₁ => ?_) hkind)
  dsimp only at hns₁ hsb₁ ⊢
  generalize hH2 : s₂.heap.push { cls := .type "list", dict := none, data := .seq ([] : List Value).toArray } = H2 at hns₁ hsb₁ ⊢
  have hC : H2.objs.size = s₂.heap.objs.size + 1 := by rw [← hH2, Heap.size_push]
  have hDC : s₂.heap.objs.size ≠ H2.objs.size := by rw [hC]; exact Nat.ne_of_lt (Nat.lt_succ_self _)
  have hCle : s₂.heap.objs.size ≤ H2.objs.size := by rw [hC]; exact Nat.le_succ _
  have below : ∀ b, b < s₂.heap.objs.size → b ≠ H2.objs.size ∧ b ≠ s₂.heap.objs.size := fun b hb => ⟨by rw [hC]; exact Nat.ne_of_lt (Nat.lt_succ_of_lt hb), Nat.ne_of_lt hb⟩
  have hDf : s₂.heap.objs.size ∉ fp := fun hm => Nat.lt_irrefl _ (hfp _ hm)
  have hCf : H2.objs.size ∉ fp := fun hm => by have := hfp _ hm; rw [hC] at this; exact Nat.lt_irrefl _ (Nat.lt_of_succ_lt this)
  have old : ∀ b o, s₂.heap.get? b = some o → h₁.get? b = some o := fun b o e => hsb₁.extBut b o (below b (Heap.lt_size e)).1 (Heap.get?_push_of_some _ (hH2 ▸ Heap.get?_push_of_some _ e))
  have hacc : h₁.get? s₂.heap.objs.size = some (listOf #[] 0) := hsb₁.extBut _ _ hDC (Heap.get?_push_of_some _ (hH2 ▸ Heap.get?_push_size _ rfl))
  have hst₁ : St 0 h₁ := W.frame _ _ _ hst fun b _ o e => old b o e
  have fresh0 : ∀ a, s₂.heap.objs.size ≤ a → h₀.get? a = none := fun a ha => by
    cases e : h₀.get? a with
    | none => rfl
    | some o' => exact absurd (Heap.lt_size (F.keep _ _ e)) (Nat.not_lt.mpr ha)
  have hLlt : L < s₂.heap.objs.size := F.ns.lt
  have loop : ∀ s₃ : Shared, s₃ = { s₂ with heap := h₁, toks := s₂.toks + ([] : List (Str × Value)).length } →
      codeAny (model prog w) A (.compLoop (.ListComp elt [⟨.Name x px, iter, ifs, 0⟩] scope pos) 0 (.ref I) (.ref s₂.heap.objs.size) (compEnvC scope cl H2.objs.size env))
        (RR (.ref s₂.heap.objs.size) H2.objs.size) s₃ := by
    rintro s₃ rfl
    refine compLoop_J (h₀ := h₀) (L := L) (mL := mL) (news := news) (cenv := compEnvC scope cl H2.objs.size env) W hsz (lookup_relabel_local hx) (by simp [compEnvC, relabel, hkind]) hDC hDf hCf hLf (Nat.ne_of_gt hLlt) (Nat.ne_of_gt (Nat.lt_of_lt_of_le hLlt hCle)) hwr (fresh0 _ hCle) (fresh0 _ (Nat.le_refl _))
      hst₁ (F.keeps old) (N.grown old) (fun p hp => ⟨hnw p hp, (below _ (Heap.lt_size (N p hp).1)).1, (below _ (Heap.lt_size (N p hp).1)).2⟩) hacc hns₁ J h0 ?_ ?_
    · rintro i v ys k oc m₁ news₁ s₁ own ⟨hh, tk, rfl⟩ hi hP hJ ho a b c d F₁ N₁ hn₁ hm₁
      exact turn H2.objs.size s₂.heap.objs.size i v ys k oc m₁ news₁ _ own hCle (Nat.le_refl _) ⟨_, _, rfl⟩ hi hP hJ ho a b c d F₁ N₁ hn₁ hm₁
    · intro h' tk' m' ys k nx hn' F' N' ho' hJ'
      have hCL : H2.objs.size ≠ L := Nat.ne_of_gt (Nat.lt_of_lt_of_le hLlt hCle)
      refine hRR mL _ _ _ m' hCL (fresh0 _ hCle) hn' F' (fun h'' tk F'' hk => ?_)
      refine done _ h'' tk ys k nx (Nat.le_refl _) F'' (fun p hp => ⟨hk _ _ ?_ (N' p hp).2.1 (N' p hp).1, (N' p hp).2⟩) (fun p hp => ⟨(ho' p hp).1, (ho' p hp).2.2⟩) hJ'
      rcases List.mem_cons.mp hp with rfl | hp
      · exact hDC
      · exact (ho' p hp).2.1
  exact codeAny_compStart_list (loop _ rfl) (W.self 0 _ _ _ hst₁ (loop _ rfl))

theorem ListComp_J {elt iter : Expr} {x : Str} {px : Pos} {ifs : List Expr} {scope : Scope} {cl : List (Str × Addr)} {pos : Pos} {Q : Value → Shared → Prop} (h₀ : Heap) (L : Addr)
    (hclos : closureFor scope env = pure cl) (hcell : ∀ y ∈ scope.names, y.2 ≠ .cell) (hkind : scope.kind = .function)
    (hnames : ∀ y ∈ scope.names, y.2 = .local → scope.names.lookup y.1 = some .local) (hx : scope.names.lookup x = some .local)
    (h : wpAny (model prog w) A (eval iter env) (fun xv s₁ => wpAny (model prog w) A (pyIter xv) (fun it s₂ => CompAt prog w A h₀ L env scope cl x ifs elt (fun _ m => m) (fun D s' => Q (.ref D) s') it s₂) E s₁) E s)
    (hs : ∀ x, foldedSetIterable iter env x = pure x := by intro _; rfl) :
    wpAny (model prog w) A (eval (.ListComp elt [⟨.Name x px, iter, ifs, 0⟩] scope pos) env) Q E s := by
  rw [eval_ListComp]
  refine wpAny_comprehension_free (use := none) rfl hs hclos hkind hnames (wpAny_mono h (fun xv s₁ h₁ => wpAny_mono h₁ (fun it s₂ h₂ => ?_) fun _ _ e => e) fun _ _ e => e)
  refine compBlock_J (RR := fun acc C => compPost (model prog w) A E none Q acc C) hcell hkind hx h₂ ?_
  intro mL D C s' m' hCL h0 hn F hq
  exact ⟨m', hn, fun h' hs' => hq h' s'.toks ⟨F.ns.at' fun o e => (hs'.2 L (Ne.symm hCL)).trans e, fun b o e => (hs'.2 b (fun q => by rw [q, h0] at e; cases e)).trans (F.keep b o e), F.above⟩ fun b o hb _ e => (hs'.2 b hb).trans e⟩

theorem Assign_ListComp_J {elt iter : Expr} {x y : Str} {px py : Pos} {ifs : List Expr} {scope : Scope} {cl : List (Str × Addr)} {pos spos : Pos} {Q : Flow → Shared → Prop} (h₀ : Heap)
    (hsw : swapsWith (.ListComp elt [⟨.Name x px, iter, ifs, 0⟩] scope pos) (some (.Name y py)) spos.line env = pure true)
    (hclos : closureFor scope env = pure cl) (hcell : ∀ z ∈ scope.names, z.2 ≠ .cell) (hkind : scope.kind = .function)
    (hnames : ∀ z ∈ scope.names, z.2 = .local → scope.names.lookup z.1 = some .local) (hx : scope.names.lookup x = some .local)
    (hy : env.kindOf y = some .local) (hp : (env.scope.kind == .class || (env.scope.kind == .module && env.locals != env.globals)) = false)
    (h : wpAny (model prog w) A (eval iter env) (fun xv s₁ => wpAny (model prog w) A (pyIter xv) (fun it s₂ => CompAt prog w A h₀ env.locals env scope cl x ifs elt (fun D m z => if z = y then some (.ref D) else m z) (fun _ s' => Q .next s') it s₂) E s₁) E s)
    (hs : ∀ x, foldedSetIterable iter env x = pure x := by intro _; rfl) :
    wpAny (model prog w) A (exec (.Assign [.Name y py] (.ListComp elt [⟨.Name x px, iter, ifs, 0⟩] scope pos) spos) env) Q E s := by
  rw [exec_Assign_Name_used _ _ _ _ hsw]
  refine wpAny_bind (wpAny_standAt (wpAny_bind ?_))
  show wpAny _ A (do let _ ← comprehension (.ListComp elt [⟨.Name x px, iter, ifs, 0⟩] scope pos) scope env _ (newList []) false (eval iter env) (some (assign (.Name y py) env))) _ _ s
  refine wpAny_bind (wpAny_mono (wpAny_comprehension_free (use := some (assign (.Name y py) env)) (Q := fun _ s' => Q .next s') rfl hs hclos hkind hnames
    (wpAny_mono h (fun xv s₁ h₁ => wpAny_mono h₁ (fun it s₂ h₂ => ?_) fun _ _ e => e) fun _ _ e => e)) (fun _ s' hq => wpAny_pure (wpAny_pure hq)) fun _ _ e => e)
  refine compBlock_J (RR := fun acc C => compPost (model prog w) A E (some (assign (.Name y py) env)) (fun _ s' => Q .next s') acc C) hcell hkind hx h₂ ?_
  intro mL D C s' m' hCL h0 hn F hq
  show wpAny _ A (assign (.Name y py) env (.ref D)) _ _ _
  refine wpAny_assign_Name (wpAny_storeName_local hy F.ns (fun h₂ hn₂ hs₂ => ?_) hp)
  refine ⟨m', hn.sameBut hs₂ hCL, fun h₃ hs₃ => ?_⟩
  have F₂ := F.set hn₂ hs₂
  exact hq h₃ _ ⟨F₂.ns.at' fun o e => (hs₃.2 _ (Ne.symm hCL)).trans e, fun b o e => (hs₃.2 b (fun q => by rw [q, h0] at e; cases e)).trans (F₂.keep b o e), F₂.above⟩ fun b o hb hbL e => (hs₃.2 b hb).trans ((hs₂.2 b hbL).trans e)
end
end
section
section
variable {prog : Program} {w : World} {A : Around} {s : Shared} {env : Env} {h₀ : Heap} {L : Addr} {scope : Scope} {cl : List (Str × Addr)} {x : Str} {ifs : List Expr} {elt : Expr} {upd : Addr → (Str → Option Value) → Str → Option Value} {Q : Addr → Shared → Prop} {E : Value → Shared → Prop}

def compTests (A : Around) (prog : Program) (w : World) (ifs : List Expr) (elt : Expr) (cenv : Env) (Qy : Value → Shared → Prop) (Qn : Shared → Prop) (s₁ : Shared) : Prop :=
  wpAny (model prog w) A (forIn ifs true fun c r => if r = true then do let ok ← isTrue c cenv (eval c cenv); pure (ForInStep.yield ok) else pure (ForInStep.yield r)) (fun ok s₂ =>
    if ok = true then wpAny (model prog w) A (eval elt cenv) Qy (fun _ _ => False) s₂ else Qn s₂) (fun _ _ => False) s₁
theorem compTests_nil {cenv : Env} {Qy : Value → Shared → Prop} {Qn : Shared → Prop} {s₁ : Shared} (h : wpAny (model prog w) A (eval elt cenv) Qy (fun _ _ => False) s₁) : compTests A prog w [] elt cenv Qy Qn s₁ := by
  unfold compTests
  exact wpAny_pure (by rw [if_pos rfl]; exact h)

theorem comp_rangeJ {r : Addr} {a₀ b₀ : Int} {t₀ u₀ v₀ : Tok} {n : Nat} {mL : Str → Option Value} {news : List (Addr × Obj)} (J : Nat → List Value → List (Addr × Obj) → Prop)
    (hh : A.handled = none) (hr : IsRange s.heap r a₀ b₀ 1 t₀ u₀ v₀) (hsmall : Builtin.Range.small a₀ b₀ 1 = true) (hn : Builtin.Range.rangeSize a₀ b₀ 1 = (n : Int)) (hz : n ≤ 1000) (F : Fr h₀ L s.heap mL) (N : News h₀ L s.heap news) (hj : J 0 [] news)
    (turn : ∀ I it C D i t ys k oc m₁ news₁ h tk, (∀ p ∈ news, p.1 < I) → @LT.lt Nat _ I C → @LT.lt Nat _ I D → @LT.lt Nat _ L I → i < n → J i ys news₁ → (∀ p ∈ news₁, p.1 ≠ I ∧ p.1 ≠ C ∧ p.1 ≠ D) → Fr h₀ L h mL → News h₀ L h ((D, listOf ys.toArray k) :: (C, oc) :: (I, it) :: news₁) → h.Ns C m₁ → m₁ x = some (.int (a₀ + (i : Int)) t) →
      compTests A prog w ifs elt (compEnvC scope cl C env)
        (fun y s₃ => CompTurned h₀ L mL [(D, listOf ys.toArray k), (C, oc), (I, it)] (fun b => b ≠ I ∧ b ≠ C ∧ b ≠ D) (J (i + 1) (ys ++ [y])) { s with heap := h, toks := tk } s₃)
        (CompTurned h₀ L mL [(D, listOf ys.toArray k), (C, oc), (I, it)] (fun b => b ≠ I ∧ b ≠ C ∧ b ≠ D) (J (i + 1) ys) { s with heap := h, toks := tk }) { s with heap := h, toks := tk })
    (done : ∀ D h' tk ys k nx, (∀ p ∈ news, p.1 < D) → Fr h₀ L h' (upd D mL) → News h₀ L h' ((D, listOf (List.toArray ys) k) :: nx) → (∀ p ∈ nx, p.1 ≠ D) → J n ys nx → Q D { s with heap := h', toks := tk }) :
    wpAny (model prog w) A (pyIter (.ref r)) (fun it s₂ => CompAt prog w A h₀ L env scope cl x ifs elt upd Q it s₂) E s := by
  refine wpAny_pyIter_range hr hsmall ?_
  have hnew := next_is_new F
  have hlt : ∀ p ∈ news, p.1 < s.heap.objs.size := fun p hp => Heap.lt_size (N p hp).1
  have W : Walks prog w A s.heap.objs.size [s.heap.objs.size] [s.heap.objs.size] n (fun i v => ∃ t, v = .int (a₀ + i * 1) t)
      (fun i h => IsRangeIter h s.heap.objs.size (a₀ + (i : Nat) * 1) ((n : Int) - (i : Nat)) 1) := Walks.range hh _ a₀ 1 n
  refine ⟨_, _, _, n, _, _, mL, news, J, rfl, W, by rw [sizeLine_eq]; omega, ?_, ?_, ?_, ?_, (by show IsRangeIter _ _ _ _ _; rw [hn]; simpa using Heap.get?_push_size _ rfl), F.push _, (fun p hp => ⟨Heap.get?_push_of_some _ (N p hp).1, (N p hp).2⟩), hj, ?_, ?_⟩
  · intro b hb
    rw [List.mem_singleton.mp hb]
    show _ < (s.heap.push _).objs.size
    rw [Heap.size_push]; exact Nat.lt_succ_self _
  · intro hm
    exact absurd F.ns.lt ((List.mem_singleton.mp hm) ▸ Nat.lt_irrefl _)
  · intro b hb
    rw [List.mem_singleton.mp hb]
    exact hnew
  · intro p hp hI
    exact absurd (hlt p hp) ((List.mem_singleton.mp hI) ▸ Nat.lt_irrefl _)
  · rintro C D i v ys k oc m₁ news₁ s₁ own hC hD ⟨hh', tk', rfl⟩ hin ⟨t, rfl⟩ hJ ho hown hget hall hst F₁ N₁ hn₁ hm₁
    have hC' : s.heap.objs.size < C := by have : (s.heap.push _).objs.size ≤ C := hC; rw [Heap.size_push] at this; exact this
    have hD' : s.heap.objs.size < D := by have : (s.heap.push _).objs.size ≤ D := hD; rw [Heap.size_push] at this; exact this
    have hoi : hh'.get? s.heap.objs.size = some _ := hst
    generalize ({ cls := Value.type "range_iterator", dict := none, data := .fields #[rawInt (a₀ + ((i + 1 : Nat) : Int) * 1), rawInt ((n : Int) - ((i + 1 : Nat) : Int)), rawInt 1], slots := #[] } : Obj) = oi at hoi
    have hI : (s.heap.objs.size, oi) ∈ own := hall _ (.head _) hnew oi hoi
    have hown' : ∀ p ∈ own, p = (s.heap.objs.size, oi) := fun p hp => by
      have h2 := hget p hp
      have e1 := List.mem_singleton.mp (hown p hp)
      rw [e1, hoi] at h2
      exact Prod.ext e1 (Option.some.inj h2).symm
    have N₂ : News h₀ L hh' ((D, listOf ys.toArray k) :: (C, oc) :: (s.heap.objs.size, oi) :: news₁) := fun p hp => by
      rcases List.mem_cons.mp hp with rfl | hp
      · exact N₁ _ (List.mem_cons_self ..)
      · rcases List.mem_cons.mp hp with rfl | hp
        · exact N₁ _ (List.mem_cons_of_mem _ (List.mem_cons_self ..))
        · rcases List.mem_cons.mp hp with rfl | hp
          · exact N₁ _ (List.mem_cons_of_mem _ (List.mem_cons_of_mem _ (List.mem_append_left _ hI)))
          · exact N₁ _ (List.mem_cons_of_mem _ (List.mem_cons_of_mem _ (List.mem_append_right _ hp)))
    have e1 : a₀ + (i : Int) * 1 = a₀ + (i : Int) := by rw [Int.mul_one]
    rw [e1] at hm₁
    have fin : ∀ zs s₃, CompTurned h₀ L mL [(D, listOf ys.toArray k), (C, oc), (s.heap.objs.size, oi)] (fun b => b ≠ s.heap.objs.size ∧ b ≠ C ∧ b ≠ D) (J (i + 1) zs) { s with heap := hh', toks := tk' } s₃ →
        CompTurned h₀ L mL ((D, listOf ys.toArray k) :: (C, oc) :: own) (fun b => b ∉ [s.heap.objs.size] ∧ b ≠ C ∧ b ≠ D) (J (i + 1) zs) { s with heap := hh', toks := tk' } s₃ := by
      rintro zs s₃ ⟨h', tk, nx, rfl, F', N', o', j'⟩
      refine ⟨h', tk, nx, rfl, F', fun p hp => ?_, fun p hp => ⟨fun q => (o' p hp).1 (List.mem_singleton.mp q), (o' p hp).2⟩, j'⟩
      rcases List.mem_append.mp hp with hp | hp
      · rcases List.mem_cons.mp hp with rfl | hp
        · exact N' _ (by simp)
        · rcases List.mem_cons.mp hp with rfl | hp
          · exact N' _ (by simp)
          · rw [hown' p hp]; exact N' _ (by simp)
      · exact N' _ (List.mem_append_right _ hp)
    refine wpAny_mono (turn s.heap.objs.size oi C D i t ys k oc m₁ news₁ hh' tk' hlt hC' hD' F.ns.lt hin hJ (fun p hp => ⟨fun e => (ho p hp).1 (List.mem_singleton.mpr e), (ho p hp).2⟩) F₁ N₂ hn₁ hm₁) (fun ok s₃ h₃ => ?_) fun _ _ e => e
    cases ok with
    | true => rw [if_pos rfl] at h₃ ⊢; exact wpAny_mono h₃ (fun y s₄ h₄ => fin _ _ h₄) fun _ _ e => e
    | false => exact fin _ _ h₃
  · intro D h' tk ys k nx hD F' N' ho hJ
    have hD' : s.heap.objs.size < D := by have : (s.heap.push _).objs.size ≤ D := hD; rw [Heap.size_push] at this; exact this
    exact done D h' tk ys k nx (fun p hp => Nat.lt_trans (hlt p hp) hD') F' N' (fun p hp => (ho p hp).2) hJ

theorem comp_listJ {ax : Addr} {lo : Obj} {vs : List Value} {nn : Nat} {mL : Str → Option Value} {news : List (Addr × Obj)} (J : Nat → List Value → List (Addr × Obj) → Prop)
    (hh : A.handled = none) (hcls : lo.cls = .type "list") (hdat : lo.data = .seq vs.toArray nn) (hz : vs.length ≤ 1000)
    (hJl : ∀ i ys news₁ h, J i ys news₁ → Ext h₀ h → News h₀ L h news₁ → h.get? ax = some lo)
    (F : Fr h₀ L s.heap mL) (N : News h₀ L s.heap news) (hj : J 0 [] news)
    (turn : ∀ I it C D i v ys k oc m₁ news₁ h tk, (∀ p ∈ news, p.1 < I) → @LT.lt Nat _ I C → @LT.lt Nat _ I D → @LT.lt Nat _ L I → vs[i]? = some v → J i ys news₁ → (∀ p ∈ news₁, p.1 ≠ I ∧ p.1 ≠ C ∧ p.1 ≠ D) → Fr h₀ L h mL → News h₀ L h ((D, listOf ys.toArray k) :: (C, oc) :: (I, it) :: news₁) → h.Ns C m₁ → m₁ x = some v →
      compTests A prog w ifs elt (compEnvC scope cl C env)
        (fun y s₃ => CompTurned h₀ L mL [(D, listOf ys.toArray k), (C, oc), (I, it)] (fun b => b ≠ I ∧ b ≠ C ∧ b ≠ D) (J (i + 1) (ys ++ [y])) { s with heap := h, toks := tk } s₃)
        (CompTurned h₀ L mL [(D, listOf ys.toArray k), (C, oc), (I, it)] (fun b => b ≠ I ∧ b ≠ C ∧ b ≠ D) (J (i + 1) ys) { s with heap := h, toks := tk }) { s with heap := h, toks := tk })
    (done : ∀ D h' tk ys k nx, (∀ p ∈ news, p.1 < D) → Fr h₀ L h' (upd D mL) → News h₀ L h' ((D, listOf (List.toArray ys) k) :: nx) → (∀ p ∈ nx, p.1 ≠ D) → J vs.length ys nx → Q D { s with heap := h', toks := tk }) :
    wpAny (model prog w) A (pyIter (.ref ax)) (fun it s₂ => CompAt prog w A h₀ L env scope cl x ifs elt upd Q it s₂) E s := by
  have hol := hJl 0 [] news s.heap hj F.keep N
  have hls : s.heap.IsList ax vs.toArray := ⟨lo, hol, hcls, nn, hdat⟩
  have hne : ax ≠ s.heap.objs.size := Nat.ne_of_lt (Heap.lt_size hol)
  have hnew := next_is_new F
  have hlt : ∀ p ∈ news, p.1 < s.heap.objs.size := fun p hp => Heap.lt_size (N p hp).1
  refine wpAny_pyIter_list hls ?_
  have W := Walks.list (prog := prog) (w := w) hh s.heap.objs.size ax hne vs.toArray
  rw [List.size_toArray] at W
  refine ⟨_, _, _, vs.length, _, _, mL, news, J, rfl, W, by rw [sizeLine_eq]; omega, ?_, ?_, ?_, ?_, ⟨⟨_, Heap.get?_push_size _ rfl, rfl, rfl⟩, hls.push _⟩, F.push _, (fun p hp => ⟨Heap.get?_push_of_some _ (N p hp).1, (N p hp).2⟩), hj, ?_, ?_⟩
  · intro b hb
    show _ < (s.heap.push _).objs.size
    rw [Heap.size_push]
    rcases List.mem_cons.mp hb with rfl | hb
    · exact Nat.lt_succ_self _
    · rw [List.mem_singleton.mp hb]; exact Nat.lt_succ_of_lt (Heap.lt_size hol)
  · intro hm
    rcases List.mem_cons.mp hm with e | hm
    · exact absurd F.ns.lt (e ▸ Nat.lt_irrefl _)
    · have e := List.mem_singleton.mp hm
      have q : s.heap.Ns ax mL := e ▸ F.ns
      obtain ⟨o, es, ep, ho, hd, _⟩ := q
      rw [hol] at ho
      cases ho
      rw [hdat] at hd
      cases hd
  · intro b hb
    rw [List.mem_singleton.mp hb]
    exact hnew
  · intro p hp hI
    exact absurd (hlt p hp) ((List.mem_singleton.mp hI) ▸ Nat.lt_irrefl _)
  · rintro C D i v ys k oc m₁ news₁ s₁ own hC hD ⟨hh', tk', rfl⟩ hin hP hJ ho hown hget hall hst F₁ N₁ hn₁ hm₁
    have hC' : s.heap.objs.size < C := by have : (s.heap.push _).objs.size ≤ C := hC; rw [Heap.size_push] at this; exact this
    have hD' : s.heap.objs.size < D := by have : (s.heap.push _).objs.size ≤ D := hD; rw [Heap.size_push] at this; exact this
    obtain ⟨⟨oi, hoi, _⟩, _⟩ := hst
    have hI : (s.heap.objs.size, oi) ∈ own := hall _ (.head _) hnew oi hoi
    have N₂ : News h₀ L hh' ((D, listOf ys.toArray k) :: (C, oc) :: (s.heap.objs.size, oi) :: news₁) := fun p hp => by
      rcases List.mem_cons.mp hp with rfl | hp
      · exact N₁ _ (List.mem_cons_self ..)
      · rcases List.mem_cons.mp hp with rfl | hp
        · exact N₁ _ (List.mem_cons_of_mem _ (List.mem_cons_self ..))
        · rcases List.mem_cons.mp hp with rfl | hp
          · exact N₁ _ (List.mem_cons_of_mem _ (List.mem_cons_of_mem _ (List.mem_append_left _ hI)))
          · exact N₁ _ (List.mem_cons_of_mem _ (List.mem_cons_of_mem _ (List.mem_append_right _ hp)))
    have hP' : vs[i]? = some v := by simpa using hP
    have hlo := hJl i ys news₁ hh' hJ F₁.keep fun p hp => N₂ p (List.mem_cons_of_mem _ (List.mem_cons_of_mem _ (List.mem_cons_of_mem _ hp)))
    have fin : ∀ zs s₃, CompTurned h₀ L mL [(D, listOf ys.toArray k), (C, oc), (s.heap.objs.size, oi)] (fun b => b ≠ s.heap.objs.size ∧ b ≠ C ∧ b ≠ D) (J (i + 1) zs) { s with heap := hh', toks := tk' } s₃ →
        CompTurned h₀ L mL ((D, listOf ys.toArray k) :: (C, oc) :: own) (fun b => b ∉ [s.heap.objs.size] ∧ b ≠ C ∧ b ≠ D) (J (i + 1) zs) { s with heap := hh', toks := tk' } s₃ := by
      rintro zs s₃ ⟨h', tk, nx, rfl, F', N', o', j'⟩
      refine ⟨h', tk, nx, rfl, F', fun p hp => ?_, fun p hp => ⟨fun q => (o' p hp).1 (List.mem_singleton.mp q), (o' p hp).2⟩, j'⟩
      rcases List.mem_append.mp hp with hp | hp
      · rcases List.mem_cons.mp hp with rfl | hp
        · exact N' _ (by simp)
        · rcases List.mem_cons.mp hp with rfl | hp
          · exact N' _ (by simp)
          · have h2 := hget p hp
            have h3 := (N₁ p (List.mem_cons_of_mem _ (List.mem_cons_of_mem _ (List.mem_append_left _ hp)))).2
            rcases List.mem_cons.mp (hown p hp) with e1 | e1
            · rw [e1, hoi] at h2
              have : p = (s.heap.objs.size, oi) := Prod.ext e1 (Option.some.inj h2).symm
              rw [this]; exact N' _ (by simp)
            · have e1 := List.mem_singleton.mp e1
              rw [e1, hlo] at h2
              have := hJl (i + 1) zs nx h' j' F'.keep fun p hp => N' p (List.mem_append_right _ hp)
              exact ⟨by rw [e1, this]; exact h2, h3⟩
      · exact N' _ (List.mem_append_right _ hp)
    refine wpAny_mono (turn s.heap.objs.size oi C D i v ys k oc m₁ news₁ hh' tk' hlt hC' hD' F.ns.lt hP' hJ (fun p hp => ⟨fun e => (ho p hp).1 (List.mem_singleton.mpr e), (ho p hp).2⟩) F₁ N₂ hn₁ hm₁) (fun ok s₃ h₃ => ?_) fun _ _ e => e
    cases ok with
    | true => rw [if_pos rfl] at h₃ ⊢; exact wpAny_mono h₃ (fun y s₄ h₄ => fin _ _ h₄) fun _ _ e => e
    | false => exact fin _ _ h₃
  · intro D h' tk ys k nx hD F' N' ho hJ
    have hD' : s.heap.objs.size < D := by have : (s.heap.push _).objs.size ≤ D := hD; rw [Heap.size_push] at this; exact this
    exact done D h' tk ys k nx (fun p hp => Nat.lt_trans (hlt p hp) hD') F' N' (fun p hp => (ho p hp).2) hJ
end
end
section
theorem fresh9 : True := by
  w_top off
  trivial
/-- what a call that makes things promises -/
def Makes (prog : Program) (w : World) (K : Frag) (f : Addr) (d u : Nat) (vs : List Value) (s : Shared) (P : List (Addr × Obj) → Value → Prop) : Prop :=
  ∀ (p : Program) (loose : List Str) (mean : ExcName → Option Value) (mg mb : Str → Option Value) (dp un : Nat) (gd : Option (List Code)) (cn : Str) (cs : Scope) (a : Addr) (ccd : Value) (cl : List (Str × Addr)) (outer : List Env) (A₀ : Around) (base h₀ : Heap) (L : Addr) (m : Str → Option Value)
    (Q E : Value → Shared → Prop),
    Below A₀ base outer h₀ → Fr h₀ L s.heap m → K.In h₀ → Top p loose mean mg mb h₀ → cs.kind = .function → dp + d < recursionLimit → un + u < cLine →
    (∀ v h' tk' nw, Ext s.heap h' → (∀ p ∈ nw, h'.get? p.1 = some p.2 ∧ s.heap.get? p.1 = none) → P nw v → Q v { s with heap := h', toks := tk' }) →
    wpAny (model prog w) (ktrTop dp un gd cn cs L a ccd cl outer) (call (.ref f) vs) Q E s
/-- every heap that holds them has it -/
def Frz (nw : List (Addr × Obj)) (P : Heap → Prop) : Prop := ∀ h : Heap, (∀ p ∈ nw, h.get? p.1 = some p.2) → P h
theorem Frz.mono {nw nw' : List (Addr × Obj)} {P : Heap → Prop} (x : Frz nw P) (k : ∀ p ∈ nw, p ∈ nw') : Frz nw' P := fun h hp => x h fun p hp' => hp p (k p hp')
section
variable {prog : Program} {w : World} {A : Around} {E : Value → Shared → Prop} {s : Shared} {h₀ : Heap} {L d : Addr} {m : Str → Option Value} {news : List (Addr × Obj)} {o : Obj} {g : Obj → List (Addr × Obj)}
theorem setItem_led {kvs : List (Int × Value)} {k : Int} {t : Tok} {v : Value} {Q : Unit → Shared → Prop} (F : Fr h₀ L s.heap m) (N : News h₀ L s.heap news) (U : UpdF d o news g) (hd : o.IsDictOf (intKind prog w) kvs) (hz : kvs.length ≤ 1000)
    (h : ∀ h' o', Fr h₀ L h' m → News h₀ L h' (g o') → o'.IsDictOf (intKind prog w) (stored kvs k v) → Q () { s with heap := h', toks := s.toks + 1 }) : wpAny (model prog w) A (setItem (.ref d) (.int k t) v) Q E s := by
  obtain ⟨pre, post, rfl, hg, a, b⟩ := U.split
  have hm := N (d, o) (List.mem_append_right _ (.head _))
  refine wpAny_setItem_pairs (knd := intKind prog w) (k := k) (hsz := by rw [sizeLine_eq]; omega) (intKind_is _ _ _ _) (Heap.dictOf_iff.mpr ⟨o, hm.1, hd⟩) fun h' hmm hs => ?_
  obtain ⟨o', ho', hd'⟩ := Heap.dictOf_iff.mp hmm
  exact h h' o' (F.change hs hm.2.1 hm.2.2) (hg o' ▸ N.setIn a b hs ho') hd'
theorem sorted_led {V : Value → Prop} {keys : List Int} {kvs : List (Int × Value)} {Q : Value → Shared → Prop} (hh : A.handled = none) (F : Fr h₀ L s.heap m) (N : News h₀ L s.heap news) (hm : (d, o) ∈ news) (hd : o.IsDictOf (intKind prog w) kvs) (lo : (d == sysModules) = false) (hc : ConstV V keys kvs) (hz : keys.length < 64)
    (h : ∀ D h' tk vs ns c, Fr h₀ L h' m → News h₀ L h' ((D, listOf (List.toArray vs) c) :: news) → (∀ q ∈ news, q.1 < D) → IntsAre vs ns → ns.Pairwise (· < ·) → (∀ g, g ∈ ns ↔ g ∈ keys) → ns.length ≤ keys.length → Q (.ref D) { s with heap := h', toks := tk }) :
    wpAny (model prog w) A (call (.builtin "sorted") [.ref d]) Q E s := sorted_dict hh F N (Heap.dictOf_iff.mpr ⟨o, (N _ hm).1, hd⟩) lo hc hz h
end
section
local macro_rules | `(tactic| walk_at "exec For Name Name cons nil") => `(tactic| (k_here; (rename Fr _ _ _ _ => lF'); (with_unfolding_all refine' For_invVF lF' ?k1 ?k2 ?_ ?k4 ?k5; (case k1 => exact rfl); (case k2 => exact rfl); (case k4 => (intro _; with_unfolding_all rfl)); (case k5 => exact PassesOwn.never); k_whole); k_fold))
local macro_rules | `(tactic| walk_at "setItem ref int") => `(tactic| (k_here; k_dflt (refine' setItem_led ?F ?N ?U ?d ?z ?_; (case F => k_asm); (case N => k_asm); (case U => k_updF); (case d => assumption); (case z => assumption)); intro h' o' F' N' d'; (try dsimp only at N'); (try k_sweep)))
local macro_rules | `(tactic| walk_at "call builtin:sorted") => `(tactic| (k_here; k_dflt (refine' sorted_led rfl ?F ?N ?m ?d ?l ?c ?z ?_; (case F => k_asm); (case N => k_asm); (case m => k_mem); (case d => assumption); (case l => assumption); (case c => assumption); (case z => assumption)); intro D' h' tk' vs' ns' c' F' N' l1 hi' hs' hm' hz'; (try k_lt l1); (try k_sweep)))
def covJ (prog : Program) (w : World) (ns : List Int) (d : Addr) (i : Nat) (m₁ : Str → Option Value) (nx : List (Addr × Obj)) : Prop :=
  ∃ o kvs, nx = [(d, o)] ∧ o.IsDictOf (intKind prog w) kvs ∧ ConstV (fun _ => True) (ns.take i) kvs ∧ m₁ (Str.ofString "found") = some (.ref d)
theorem coverage_makes {prog : Program} {w : World} {s : Shared} {la : Addr} {vs : List Value} {ns : List Int} (hl : s.heap.IsList la vs.toArray) (hi : IntsAre vs ns) (hz : ns.length < 64) :
    Makes prog w (HK w.params) 332 3 16 [.ref la] s (fun nw v => ∃ c xs, v = .ref c ∧ (∀ g, g ∈ xs ↔ g ∈ ns) ∧ Frz nw (fun h => CovOf h c xs)) := by
  intro p loose mean mg mb dp un gd cn cs a ccd cl outer A₀ base h₀ L m Q E B F X T hk hd hu hret
  walk_at "r_enter"
  obtain ⟨lo, hlo, hcl, ln, hld⟩ := hl
  k_steps
  rename News _ _ _ _ => Nq
  rename Fr _ _ _ _ => Fq
  refine iter_listJ (covJ prog w ns _) rfl hcl hld (fun _ _ _ _ _ k _ => k _ _ hlo) Fq Nq ⟨_, [], rfl, (by assumption), ConstV.nil, rfl⟩ ?_ ?_
  · rintro I it i v m₁ nx h₂ tk₂ hv ⟨o, kvs, rfl, c1, c2, c3⟩ o1 o2 F₂ N₂
    have hlen := hi.length
    have hin : i < ns.length := by rw [← hlen]; exact (List.getElem?_eq_some_iff.mp hv).1
    obtain ⟨t, ht⟩ := hi.get i ns[i] (by simp [hin])
    rw [hv] at ht
    have ht := Option.some.inj ht
    subst ht
    have hkz : kvs.length ≤ 1000 := by have := c2.1; rw [List.length_take] at this; omega
    simp only [List.forall_mem_cons, List.not_mem_nil, false_implies, implies_true, and_true] at o1
    replace o1 := neN o1
    k_unmd
    k_fold
    k_steps
    rename Fr _ _ _ _ => Fz
    rename News _ _ _ _ => Nz
    refine ⟨_, _, _, _, rfl, Fz, Nz, (by simp only [List.forall_mem_cons]; exact ⟨o1, fun _ hp => nomatch hp⟩), _, _, rfl, (by assumption), ?_, c3⟩
    rw [List.take_add_one, List.getElem?_eq_getElem hin]
    exact c2.snoc trivial
  · rintro m₁ nx h₂ tk₂ ⟨o, kvs, rfl, c1, c2, c3⟩ F₂ N₂
    rw [hi.length, List.take_length] at c2
    dsimp only
    k_steps
    rename News s.heap _ _ _ => kN
    rename (∀ g, g ∈ _ ↔ g ∈ ns) => hm
    rename (List.Pairwise (fun x1 x2 => x1 < x2) _) => hp
    rename (List.length _ ≤ List.length ns) => hq
    refine hret _ _ _ _ (Fr.keep (by assumption)) (fun p hp => ⟨(kN p hp).1, (kN p hp).2.2⟩) ⟨_, _, rfl, hm, fun h hh => ?_⟩
    refine ⟨_, _, _, _, _, ⟨hh _ (.head _), rfl, rfl, hh _ (.tail _ (.head _))⟩, ?_, ?_, ?_, ⟨_, hh _ (.tail _ (.tail _ (.head _))), rfl, _, rfl⟩, by assumption, hp, by omega⟩
    all_goals k_get
end
end
section
section
variable {prog : Program} {w : World} {A₀ A : Around} {s : Shared} {base h₀ : Heap} {outer : List Env} {L : Addr} {m mg mb : Str → Option Value} {env : Env} {K : Frag}
  {R : Result → Shared → Prop} {name qual : Str} {params : Arguments} {body : List Stmt} {scope : Scope} {dV kV doc pm cdv ct oc : Value} {an od : Option Addr} {osl : Array (Option Value)} {f : Addr} {args : Args} {binds : List (Str × Value)}
  {p : Program} {loose : List Str} {mean : ExcName → Option Value}
/-- entering a def with cells, the whole heap held fast -/
theorem code_readerC (B : Below A₀ base outer h₀) (F : Fr h₀ L s.heap m) (X₀ : K.In h₀) (T : Top p loose mean mg mb h₀) (hA : A.frames = some (env :: outer)) (hf : env.frame = some L) (hke : env.scope.kind = .function)
    (ho : K.lookup f = some ⟨oc, od, .func (fnOf name qual params body scope dV kV doc pm an cdv ct), osl⟩) (hcd : codeIn K cdv qual = true) (hroom : A.depth < recursionLimit)
    (hbind : BindsTo s (fnOf name qual params body scope dV kV doc pm an cdv ct) args binds) (hkind : (binds.all fun y => scope.names.lookup y.1 == some .local || scope.names.lookup y.1 == some .cell) = true)
    (hnd : ((cellsFrom 0 scope.names []).map (·.1)).Nodup)
    (h : ∀ L' h₁ tk cells, Fr s.heap L' h₁ (bindL (envOfC qual scope L' f cdv).kindOf binds fun _ => none) → News s.heap L' h₁ cells →
      CellsAre (bindC (envOfC qual scope L' f cdv).kindOf binds fun _ => none) (cellsFrom (L' + 1) scope.names []) cells → Below A base (env :: outer) s.heap → K.In s.heap → Top p loose mean mg mb s.heap →
      wpAny (model prog w) (A.deeper (envOfC qual scope L' f cdv)) (execs body (envOfC qual scope L' f cdv))
        (fun fl s' => R (.ok (.ret (match fl with | .ret v => v | _ => .none))) s') (fun _ _ => False)
        { s with heap := h₁, toks := tk })
    (hco : scope.isCoroutine = false) (hgen : scope.isGenerator = false) (hk : scope.kind = .function) : codeAny (model prog w) A (.call (.ref f) args) R s := by
  obtain ⟨FG, BG, st, lv⟩ := groundX (R := R) B F (News.nil (h₀ := h₀) (L := L) (h := s.heap)) hA hf hke
  have X := X₀.keeps F.keep
  have BG' : Below A base (env :: outer) s.heap := ⟨BG.stack, fun b o e => F.keep b o (B.stays b o e), (pushX B F hf hke).frames⟩
  refine codeAny_call_function hroom (X _ _ ho) rfl hco hgen rfl (codeRec_of X hcd) (hbind _ _ _ _ ?_)
  refine wpAny_newFunctionEnv_cells hk (kindsX hkind _) fun env' he s' x => ?_
  subst he
  refine ⟨(T.nolimit.keeps F.keep).keeps x.toInCall.keep, codeAny_func ?_⟩
  obtain ⟨h₁, tk, rfl, _⟩ := x.done
  have hk₁ := x.toInCall.keep
  obtain ⟨cells, NC, Y⟩ := Cl.news (h₀ := s.heap) (Nat.le_refl _) fun n c hm => ⟨x.cell n c (lookup_of_mem_nodup (cellsFrom_names scope.names 0 (s.heap.objs.size + 1) [] [] rfl ▸ hnd) hm), x.above n c hm⟩
  exact wpAny_mono (h s.heap.objs.size h₁ tk cells ⟨x.toInCall.ns, hk₁, Nat.le_refl _⟩ NC Y BG' X (T.keeps F.keep)) (fun fl s' hl => hl) fun _ _ y => y.elim
end
theorem ListComp_JF {prog : Program} {w : World} {A : Around} {E : Value → Shared → Prop} {s : Shared} {env : Env} {elt iter : Expr} {x : Str} {px : Pos} {ifs : List Expr} {scope : Scope} {cl : List (Str × Addr)} {pos : Pos} {Q : Value → Shared → Prop} {h₀ : Heap} {L : Addr} {m : Str → Option Value} (_F : Fr h₀ L s.heap m)
    (hclos : closureFor scope env = pure cl) (hcell : ∀ y ∈ scope.names, y.2 ≠ .cell) (hkind : scope.kind = .function)
    (hnames : ∀ y ∈ scope.names, y.2 = .local → scope.names.lookup y.1 = some .local) (hx : scope.names.lookup x = some .local)
    (h : wpAny (model prog w) A (eval iter env) (fun xv s₁ => wpAny (model prog w) A (pyIter xv) (fun it s₂ => CompAt prog w A h₀ L env scope cl x ifs elt (fun _ m => m) (fun D s' => Q (.ref D) s') it s₂) E s₁) E s)
    (hs : ∀ x, foldedSetIterable iter env x = pure x) :
    wpAny (model prog w) A (eval (.ListComp elt [⟨.Name x px, iter, ifs, 0⟩] scope pos) env) Q E s := ListComp_J h₀ L hclos hcell hkind hnames hx h hs
theorem compTests_one {prog : Program} {w : World} {A : Around} {c elt : PySem.Expr} {cenv : Env} {Qy : Value → Shared → Prop} {Qn : Shared → Prop} {s₁ : Shared}
    (h : wpAny (model prog w) A (isTrue c cenv (eval c cenv)) (fun ok s₂ => if ok = true then wpAny (model prog w) A (eval elt cenv) Qy (fun _ _ => False) s₂ else Qn s₂) (fun _ _ => False) s₁) : compTests A prog w [c] elt cenv Qy Qn s₁ := by
  unfold compTests
  rw [List.forIn_cons]
  refine wpAny_bind ?_
  rw [if_pos rfl]
  refine wpAny_bind (wpAny_mono h (fun ok s₂ h₂ => wpAny_pure ?_) fun _ _ e => e)
  dsimp only
  rw [List.forIn_nil]
  exact wpAny_pure h₂
theorem CompTurned.one {h₀ h' : Heap} {L t D C I : Nat} {mL : Str → Option Value} {ob dob oc it : Obj} {nx : List (Addr × Obj)} {J : List (Addr × Obj) → Prop} {s₁ : Shared} {tk : Nat} (F : Fr h₀ L h' mL) (N : News h₀ L h' ((t, ob) :: (D, dob) :: (C, oc) :: (I, it) :: nx)) (hD : D < t) (hC : C < t) (hI : I < t)
    (ho : ∀ p ∈ nx, p.1 ≠ I ∧ p.1 ≠ C ∧ p.1 ≠ D) (hJ : J ((t, ob) :: nx)) : CompTurned h₀ L mL [(D, dob), (C, oc), (I, it)] (fun b => b ≠ I ∧ b ≠ C ∧ b ≠ D) J s₁ { s₁ with heap := h', toks := tk } := by
  refine ⟨h', tk, (t, ob) :: nx, rfl, F, fun p hp => N p ?_, ?_, hJ⟩
  · simp only [List.cons_append, List.nil_append, List.mem_cons] at hp ⊢
    rcases hp with h | h | h | h | h <;> simp [h]
  · intro p hp
    rcases List.mem_cons.mp hp with rfl | hp
    · exact ⟨Nat.ne_of_gt hI, Nat.ne_of_gt hC, Nat.ne_of_gt hD⟩
    · exact ho p hp
theorem News.lay {h₀ h : Heap} {L : Addr} {e : Addr × Obj} {bs nx : List (Addr × Obj)} (N : News h₀ L h (e :: nx)) (hb : ∀ p ∈ bs, p ∈ nx) : News h₀ L h (e :: (bs ++ nx)) := fun p hp => by
  rcases List.mem_cons.mp hp with rfl | hp
  · exact N _ (.head _)
  · rcases List.mem_append.mp hp with hp | hp
    · exact N p (.tail _ (hb p hp))
    · exact N p (.tail _ hp)
theorem Frz.lay {P : Heap → Prop} {nx : List (Addr × Obj)} (x : Frz nx P) (e : Addr × Obj) (bs : List (Addr × Obj)) (_ : ∀ p ∈ bs, p ∈ nx) : Frz (e :: (bs ++ nx)) P := x.mono fun _ hp => .tail _ (List.mem_append_right _ hp)
theorem ldC_loc {prog : Program} {w : World} {A : Around} {E : Value → Shared → Prop} {s : Shared} {env : Env} {scope : Scope} {cl : List (Str × Addr)} {C L : Addr} {h h₀ : Heap} {oc : Obj} {m : Str → Option Value} {news : List (Addr × Obj)} {x : Str} {pos : Pos} {v : Value} {Q : Value → Shared → Prop}
    (hn : h.Ns C m) (hc : h.get? C = some oc) (N : News h₀ L s.heap news) (hm : (C, oc) ∈ news) (hv : m x = some v) (hq : Q v s)
    (hk : scope.kind = .function) (hx : (compEnvC scope cl C env).kindOf x = some .local) (hd : (x == ("__debug__" : Str)) = false) :
    wpAny (model prog w) A (eval (.Name x pos) (compEnvC scope cl C env)) Q E s :=
  wpAny_Name (wpAny_loadName_local (env := compEnvC scope cl C env) hk hx (hn.at' fun o e => by rw [hc] at e; cases e; exact (N _ hm).1) hv hq) hd
theorem ldC_cell {prog : Program} {w : World} {A : Around} {E : Value → Shared → Prop} {s : Shared} {env : Env} {scope : Scope} {cl : List (Str × Addr)} {C c L : Addr} {h₀ : Heap} {o : Obj} {news : List (Addr × Obj)} {x : Str} {pos : Pos} {v : Value} {Q : Value → Shared → Prop}
    (N : News h₀ L s.heap news) (hcl : cl.lookup x = some c) (hm : (c, o) ∈ news) (ho : o.data = .cell (some v)) (hq : Q v s)
    (hk : scope.kind = .function) (hx : (compEnvC scope cl C env).kindOf x = some .cell) (hd : (x == ("__debug__" : Str)) = false) :
    wpAny (model prog w) A (eval (.Name x pos) (compEnvC scope cl C env)) Q E s :=
  wpAny_Name (wpAny_loadName_cell (env := compEnvC scope cl C env) hk hx hcl ⟨o, (N _ hm).1, ho⟩ hq) hd
/-- what a comprehension of pairs has made -/
def pairJ (bs : List (Addr × Obj)) (c : Int) (K : Nat → List Int) (i : Nat) (ys : List Value) (nx : List (Addr × Obj)) : Prop := (∀ p ∈ bs, p ∈ nx) ∧ Frz nx (fun h => PairsOf h c ys (K i))
theorem PairsOf.snoc {h : Heap} {c k : Int} {ys : List Value} {keys : List Int} {a : Addr} {t u : Tok} (x : PairsOf h c ys keys) (ht : IsTup h a #[.int k t, .int c u]) : PairsOf h c (ys ++ [Value.ref a]) (keys ++ [k]) := by
  refine ⟨by simp [x.1], fun i v hv => ?_⟩
  by_cases hi : i < ys.length
  · rw [List.getElem?_append_left hi] at hv
    obtain ⟨a', k', t', u', e1, e2, e3⟩ := x.2 i v hv
    exact ⟨a', k', t', u', e1, e2, by rw [List.getElem?_append_left (by rw [← x.1]; exact hi)]; exact e3⟩
  · have hi' : i = ys.length := by
      have := (List.getElem?_eq_some_iff.mp hv).1
      simp at this; omega
    subst hi'
    simp at hv
    exact ⟨a, k, t, u, hv.symm, ht, by rw [x.1]; simp⟩
def outs (ns : List Int) (i : Nat) : List Int := ((List.range i).map (fun j : Nat => (j : Int))).filter fun g => !(ns.any (· == g))
theorem outs_succ (ns : List Int) (i : Nat) : outs ns (i + 1) = if (!(ns.any (· == (i : Int)))) = true then outs ns i ++ [(i : Int)] else outs ns i := by
  unfold outs
  rw [List.range_succ, List.map_append, List.filter_append, List.map_singleton, List.filter_cons, List.filter_nil]
  split <;> simp
theorem dict_cut {prog : Program} {w : World} {A : Around} {E : Value → Shared → Prop} {s : Shared} {h₀ : Heap} {L l n : Nat} {m : Str → Option Value} {nx bs : List (Addr × Obj)} {vs : List Value} {keys : List Int} {c : Int} {Q : Value → Shared → Prop} (hh : A.handled = none) (F : Fr h₀ L s.heap m) (N : News h₀ L s.heap ((l, listOf vs.toArray n) :: nx)) (hbig : h₀.NoLimit)
    (hp : Frz nx (fun h => PairsOf h c vs keys)) (hs : ∀ p ∈ bs, p ∈ nx) (hz : keys.length ≤ 1000)
    (h : ∀ d h' tk o kvs, Fr h₀ L h' m → News h₀ L h' ((d, o) :: bs) → (∀ p ∈ bs, p.1 < d) → (d == sysModules) = false → o.IsDictOf (intKind prog w) kvs → Const c keys kvs → Q (.ref d) { s with heap := h', toks := tk }) :
    wpAny (model prog w) A (call (.type "dict") [.ref l]) Q E s := by
  refine call_dict_pairs hh (N _ (.head _)).1 (hp s.heap fun p hp' => (N p (.tail _ hp')).1) hz fun h' tk kvs hk hd hc => ?_
  obtain ⟨o, ho, hdo⟩ := Heap.dictOf_iff.mp hd
  have N' : News h₀ L s.heap bs := fun p hp' => N p (.tail _ (hs p hp'))
  refine h _ h' tk o kvs (F.keeps hk) (fun p hp' => ?_) (fun p hp' => Heap.lt_size (N' p hp').1) (F.notModules (modules_low hbig)) hdo hc
  rcases List.mem_cons.mp hp' with rfl | hp'
  · exact ⟨ho, Nat.ne_of_gt F.ns.lt, next_is_new F⟩
  · exact ⟨hk _ _ (N' p hp').1, (N' p hp').2⟩
theorem makes_use {prog : Program} {w : World} {K : Frag} {f : Addr} {d u : Nat} {vs : List Value} {s : Shared} {P : List (Addr × Obj) → Value → Prop} {p : Program} {loose : List Str} {mean : ExcName → Option Value} {mg mb : Str → Option Value} {dp un : Nat} {gd : Option (List Code)} {cn : Str} {cs : Scope} {a : Addr} {ccd : Value} {cl : List (Str × Addr)} {outer : List Env} {A₀ : Around} {base h₀ : Heap} {L : Addr} {m : Str → Option Value} {news : List (Addr × Obj)}
    {Q E : Value → Shared → Prop} (C : Makes prog w K f d u vs s P)
    (B : Below A₀ base outer h₀) (F : Fr h₀ L s.heap m) (X : K.In h₀) (N : News h₀ L s.heap news) (T : Top p loose mean mg mb h₀) (hk : cs.kind = .function) (hd : dp + d < recursionLimit) (hu : un + u < cLine)
    (ret : ∀ v h' tk' nw, Fr h₀ L h' m → News h₀ L h' (news ++ nw) → Ext s.heap h' → (∀ p ∈ nw, s.heap.get? p.1 = none) → P nw v → Q v { s with heap := h', toks := tk' }) :
    wpAny (model prog w) (ktrTop dp un gd cn cs L a ccd cl outer) (call (.ref f) vs) Q E s :=
  C _ _ _ _ _ _ _ _ _ _ _ _ _ _ _ _ _ _ _ _ _ B F X T hk hd hu fun v h' tk' nw x q r => ret v h' tk' nw (F.keeps x) (fun p hp => by
    rcases List.mem_append.mp hp with hp | hp
    · exact N.grown x p hp
    · refine ⟨(q p hp).1, fun e => ?_, ?_⟩
      · obtain ⟨o, _, _, ho, _⟩ := F.ns
        have := (q p hp).2
        rw [e, ho] at this; cases this
      · cases e : h₀.get? p.1 with
        | none => rfl
        | some o => have := (q p hp).2; rw [F.keep _ _ e] at this; cases this) x (fun p hp => (q p hp).2) r
theorem len_base {prog : Program} {w : World} {A : Around} {E : Value → Shared → Prop} {s : Shared} {l : Addr} {vs : List Value} {ns : List Int} {Q : Value → Shared → Prop} (hl : s.heap.IsList l vs.toArray) (hi : IntsAre vs ns) (hz : ns.length < 64) (h : ∀ t, Q (.int ns.length t) { s with toks := s.toks + 1 + 1 }) :
    wpAny (model prog w) A (call (.builtin "len") [.ref l]) Q E s :=
  PyProof.Rows.len_list hl (by rw [List.size_toArray, hi.length]; omega) (by rw [List.size_toArray, hi.length]; exact h _)
theorem item_only {prog : Program} {w : World} {A : Around} {E : Value → Shared → Prop} {s : Shared} {l : Addr} {vs : List Value} {ns : List Int} {u : Tok} {value slice : PySem.Expr} {Q : Value → Shared → Prop} (hl : s.heap.IsList l vs.toArray) (hi : IntsAre vs ns) (h1 : (ns.length : Int) = 1) (h : ∀ n t, ns = [n] → Q (.int n t) s)
    (hs : subscripted slice false (.ref l) (.int 0 u) = operate [.ref l, .int 0 u] (getItem (.ref l) (.int 0 u)) := by with_unfolding_all rfl) : wpAny (model prog w) A (subscriptTail value slice (.ref l) (.int 0 u)) Q E s := by
  cases hi with
  | nil => simp at h1
  | @cons n t vs ns hi =>
    cases hi with
    | nil => exact tail_any hl.typeIs slot_list_getitem.lookup (wpAny_getItem_list hl (by decide) (by decide) (by simp) (h n t rfl)) hs
    | cons => simp at h1; omega
theorem outs_len (ns : List Int) (i : Nat) : (outs ns i).length ≤ i := by
  unfold outs
  exact Nat.le_trans (List.length_filter_le _ _) (by simp)
theorem TabI.of {prog : Program} {w : World} {h : Heap} {d : Addr} {o : Obj} {c : Int} {keys : List Int} {kvs : List (Int × Value)} (lo : (d == sysModules) = false) (ho : h.get? d = some o) (hd : o.IsDictOf (intKind prog w) kvs) (hc : Const c keys kvs) : TabI prog w h d (fun g => if g ∈ keys then c else 0) :=
  ⟨lo, valueAt kvs, (Heap.dictOf_iff.mpr ⟨o, ho, hd⟩).mapOf, fun g => by
    have q := hc.2 g
    cases e : valueAt kvs g with
    | none => rw [e] at q; exact if_neg q
    | some v => rw [e] at q; obtain ⟨hg, t, ht⟩ := q; refine ⟨t, ?_⟩; dsimp only; rw [if_pos hg]; exact ht⟩
theorem mem_outs {ns : List Int} {g : Int} (h0 : 0 ≤ g) (h6 : g < 6) : g ∈ outs ns 6 ↔ g ∉ ns := by
  unfold outs
  rw [List.mem_filter]
  simp only [List.mem_map, List.mem_range, Bool.not_eq_true', List.any_eq_false, beq_iff_eq]
  constructor
  · rintro ⟨_, h⟩ hm; exact h g hm rfl
  · intro h; exact ⟨⟨g.toNat, by omega, by omega⟩, fun x hx e => h (e ▸ hx)⟩
theorem spelled_sets {ns xs : List Int} (hm : ∀ g, g ∈ xs ↔ g ∈ ns) : ∀ S ∈ [(fun g : Int => decide ((if g ∈ ns then (4 : Int) else 0) = 4)), (fun g : Int => decide ((if g ∈ outs ns 6 then (3 : Int) else 0) = 0)), (fun g : Int => decide (g ∈ xs))], ∀ g : Int, 0 ≤ g → g < 6 → S g = decide (g ∈ ns) := by
  intro S hS g h0 h6
  simp only [List.mem_cons, List.not_mem_nil, or_false] at hS
  rcases hS with rfl | rfl | rfl
  · by_cases q : g ∈ ns <;> simp [q]
  · have := mem_outs (ns := ns) h0 h6
    by_cases q : g ∈ ns <;> simp [q, this]
  · simp [hm]
theorem spelled_sets4 {ns xs : List Int} {n : Int} (hm : ∀ g, g ∈ xs ↔ g ∈ ns) (e : ns = [n]) : ∀ S ∈ [(fun g : Int => decide ((if g ∈ ns then (4 : Int) else 0) = 4)), (fun g : Int => decide ((if g ∈ outs ns 6 then (3 : Int) else 0) = 0)), (fun g : Int => decide (g ∈ xs)), (fun g : Int => decide (n = g))], ∀ g : Int, 0 ≤ g → g < 6 → S g = decide (g ∈ ns) := by
  intro S hS g h0 h6
  rw [List.mem_cons, List.mem_cons, List.mem_cons, List.mem_singleton] at hS
  rcases hS with h | h | h | rfl
  · exact spelled_sets hm S (by rw [h]; exact .head _) g h0 h6
  · exact spelled_sets hm S (by rw [h]; exact .tail _ (.head _)) g h0 h6
  · exact spelled_sets hm S (by rw [h]; exact .tail _ (.tail _ (.head _))) g h0 h6
  · rw [e]; simp [eq_comm]
theorem at_led {h : Heap} {nw : List (Addr × Obj)} {d : Addr} {o : Obj} (hh : ∀ p ∈ nw, h.get? p.1 = some p.2) (i : Nat) (e : nw[i]? = some (d, o)) : h.get? d = some o := hh _ (List.mem_of_getElem? e)
end
section
theorem fresh10 : True := by
  w_top off
  trivial
local macro_rules | `(tactic| walk_at "r_enterC") => `(tactic| (refine wpAny_call ?_; k_dflt (refine' code_readerC ?k1 ?k2 ?k3 ?k5 ?kA ?kF ?kK ?k6 ?k7 ?k8 ?k9 ?kB ?kD ?_ ?c2 ?c3 ?c4; (case kA => exact rfl); (case kF => exact rfl); (case kK => assumption); (case k1 => k_asm); (case k2 => k_asm); (case k3 => k_asm); (case k5 => k_asm); (case k6 => k_is); (case k7 => k_is); (case k8 => (show _ < recursionLimit; dsimp only [ktrTop]; omega)); (case k9 => exact BindsTo.of_eq rfl); (case kB => exact rfl); (case kD => decide +kernel); (case c2 => exact rfl); (case c3 => exact rfl); (case c4 => exact rfl); k_whole); intro L' h' tk' cells' F' N' Y' B' X' T'; k_cells Y'; (try simp only [List.cons_append, List.nil_append] at N'); (try dsimp only); (try k_fold)))
section
local macro_rules | `(tactic| walk_at "eval ListComp") => `(tactic| (k_here; (rename Fr _ _ _ _ => lF'); k_dflt (refine' ListComp_JF lF' ?hclos ?hcell ?hkind ?hnames ?hx ?_ ?hs; (case hclos => with_unfolding_all rfl); (case hcell => decide); (case hkind => with_unfolding_all rfl); (case hnames => decide); (case hx => with_unfolding_all rfl); (case hs => intro _; with_unfolding_all rfl)); (try k_fold)))
local macro_rules | `(tactic| walk_at "eval Name") => `(tactic| (k_here; k_inBlock; k_dflt (refine' ldC_loc ?n ?c ?N ?m ?v ?_ ?k ?x ?d; (case k => rfl); (case x => rfl); (case n => assumption); (case c => assumption); (case N => k_asm); (case m => k_mem); (case v => assumption); (case d => decide))))
local macro_rules | `(tactic| walk_at "eval Name") => `(tactic| (k_here; k_inBlock; k_dflt (refine' ldC_cell ?N ?c ?m ?o ?_ ?k ?x ?d; (case k => rfl); (case x => rfl); (case N => k_asm); (case c => rfl); (case m => first | k_mem | (refine List.Mem.tail _ (List.Mem.tail _ (List.Mem.tail _ ?_)); apply_assumption; k_mem)); (case o => assumption); (case d => decide))))
local macro_rules | `(tactic| walk_at "compareOp NotIn int ref") => `(tactic| (k_here; k_dflt (refine' notin_list_ints ?l ?i ?_; (case l => exact ⟨_, Fr.keep (by k_asm) _ _ (by assumption), rfl, _, rfl⟩); (case i => assumption))))
local macro_rules | `(tactic| walk_at "call type:dict") => `(tactic| (k_here; k_dflt (refine' dict_cut rfl ?F ?N ?b ?p ?s ?z ?_; (case F => k_asm); (case N => k_asm); (case b => exact Top.nolimit (by k_asm)); (case p => assumption); (case s => assumption); (case z => first | exact Nat.le_trans (outs_len _ _) (by decide) | omega)); intro d' h' tk' o' kvs' F' N' l1 lo' hd' hc'; (try k_lt l1); (try k_sweep)))
local macro_rules | `(tactic| walk_at "call ref") => `(tactic| (k_here; k_dflt (refine' makes_use (coverage_makes ?c ?d ?e) ?k1 ?k2 ?k3 ?k4 ?k5 ?k6 ?k7 ?k8 ?_; (case c => exact ⟨_, Fr.keep (by k_asm) _ _ (by assumption), rfl, _, rfl⟩); (case d => assumption); (case e => assumption); walk_at "r_prem"); intro v' h' tk' nw' F' N' x' q' p'; (try simp only [List.cons_append, List.nil_append] at N'); obtain ⟨c', xs', hv', hm', hf'⟩ := p'; subst hv'; (try k_sweep)))
local macro_rules | `(tactic| walk_at "call builtin:len") => `(tactic| (k_here; k_dflt (refine' len_base ?l ?i ?z ?_; (case l => exact ⟨_, Fr.keep (by k_asm) _ _ (by assumption), rfl, _, rfl⟩); (case i => assumption); (case z => assumption)); intro t'))
local macro_rules | `(tactic| walk_at "subscriptTail") => `(tactic| (k_here; (with_reducible show wpAny _ _ (subscriptTail _ _ (Value.ref _) (Value.int 0 _)) _ _ _); k_dflt (refine' item_only ?l ?i ?z ?_ ?s; (case l => exact ⟨_, Fr.keep (by k_asm) _ _ (by assumption), rfl, _, rfl⟩); (case i => assumption); (case z => assumption); (case s => with_unfolding_all rfl)); intro n' t' e'))
theorem spelled_makes {prog : Program} {w : World} {s : Shared} {la ln : Nat} {vs : List Value} {ns : List Int} (hl : s.heap.get? la = some (listOf vs.toArray ln)) (hi : IntsAre vs ns) (hz : ns.length < 64) :
    Makes prog w (HK w.params) 392 6 24 [.ref la] s (fun nw v => ∃ a n ws Ss, v = .ref a ∧ (a, listOf ws.toArray n) ∈ nw ∧ 3 ≤ ws.length ∧ ws.length ≤ 4 ∧ (∀ S ∈ Ss, ∀ g : Int, 0 ≤ g → g < 6 → S g = decide (g ∈ ns)) ∧ Frz nw (fun h => TestsAre prog w h ws Ss)) := by
  intro p loose mean mg mb dp un gd cn cs a ccd cl outer A₀ base h₀ L m Q E B F X T hk hd hu hret
  walk_at "r_enterC"
  rename (Obj.data _ = _) => d1'
  replace d1' : _ = Data.cell (some (Value.ref la)) := d1'
  k_steps
  rename Fr _ _ _ _ => Fq
  rename News _ _ _ _ => Nq
  rename IsRange _ _ _ _ _ _ _ _ => Rq
  refine comp_rangeJ (n := 6) (pairJ _ 3 (outs ns)) rfl Rq (by decide) (by decide) (by decide) Fq Nq ⟨fun _ hp => hp, fun h hp => ⟨rfl, fun i v hv => by cases hv⟩⟩ ?_ ?_
  · rintro I it C D i t ys k oc m₁ nx h₂ tk₂ l1 lC lD lL hin ⟨j1, j2⟩ ho F₂ N₂ hn₂ hm₂
    have hC₂ := (N₂ _ (.tail _ (.head _))).1
    rw [Int.zero_add] at hm₂
    refine compTests_one ?_
    k_fold
    k_steps
    · rename (List.any _ _ = true) => q
      exact ⟨_, _, nx, rfl, F₂, N₂, ho, j1, by rw [outs_succ, if_neg (by rw [q]; decide)]; exact j2⟩
    · rename (List.any _ _ = false) => q
      rename Fr _ _ _ _ => Fz
      rename News _ _ _ _ => Nz
      rename (_ < _ ∧ _) => l2
      refine CompTurned.one Fz Nz l2.1 l2.2.1 l2.2.2.1 ho ⟨fun p hp => .tail _ (j1 p hp), ?_⟩
      rw [outs_succ, if_pos (by rw [q]; decide)]
      exact fun h hp => (j2 h fun p hp' => hp p (.tail _ hp')).snoc ⟨_, hp _ (.head _), rfl, _, rfl⟩
  · intro D h₂ tk₂ ys k nx l1 F₂ N₂ ho ⟨j1, j2⟩
    k_steps
    rename Fr _ _ _ _ => Fq
    rename News _ _ _ _ => Nq
    refine comp_listJ (pairJ _ 4 (fun i => ns.take i)) rfl rfl rfl (by rw [hi.length]; omega) (fun _ _ _ _ _ k _ => k _ _ hl) Fq Nq ⟨fun _ hp => hp, fun h hp => ⟨rfl, fun i v hv => by cases hv⟩⟩ ?_ ?_
    · rintro I it C D i v ys k oc m₁ nx h₂ tk₂ l1 lC lD lL hv ⟨j1, j2⟩ ho F₂ N₂ hn₂ hm₂
      have hC₂ := (N₂ _ (.tail _ (.head _))).1
      have hin : i < ns.length := by rw [← hi.length]; exact (List.getElem?_eq_some_iff.mp hv).1
      obtain ⟨t, ht⟩ := hi.get i ns[i] (by simp [hin])
      rw [hv] at ht
      have ht := Option.some.inj ht
      subst ht
      refine compTests_nil ?_
      k_fold
      k_steps
      rename Fr _ _ _ _ => Fz
      rename News _ _ _ _ => Nz
      rename (_ < _ ∧ _) => l2
      refine CompTurned.one Fz Nz l2.1 l2.2.1 l2.2.2.1 ho ⟨fun p hp => .tail _ (j1 p hp), ?_⟩
      show Frz _ (fun h => PairsOf h 4 _ (ns.take (i + 1)))
      rw [List.take_add_one, List.getElem?_eq_getElem hin]
      exact fun h hp => (j2 h fun p hp' => hp p (.tail _ hp')).snoc ⟨_, hp _ (.head _), rfl, _, rfl⟩
    · intro D h₂ tk₂ ys k nx l1 F₂ N₂ ho ⟨j1, j2⟩
      rw [hi.length, show (fun i => List.take i ns) ns.length = ns from List.take_length] at j2
      k_steps
      · rename News s.heap _ _ _ => kN
        rename (∀ g, g ∈ _ ↔ g ∈ ns) => hm
        rename (ns = _) => e
        rename (Frz _ _) => hf
        refine hret _ _ _ _ (Fr.keep (by assumption)) (fun p hp => ⟨(kN p hp).1, (kN p hp).2.2⟩) ⟨_, _, [_, _, _, _], _, rfl, .head _, Nat.le_of_ble_eq_true rfl, Nat.le_of_ble_eq_true rfl, spelled_sets4 hm e, fun h hh => ?_⟩
        refine .cons (.cls rfl ⟨_, at_led hh 8 rfl, rfl, _, rfl⟩ ⟨_, _, _, _, ⟨at_led hh 9 rfl, rfl, rfl, at_led hh 10 rfl⟩, ?_, ?_, TabI.of ?_ (at_led hh 11 rfl) (by assumption) (by assumption)⟩ fun _ => rfl) (.cons (.cls rfl ⟨_, at_led hh 5 rfl, rfl, _, rfl⟩ ⟨_, _, _, _, ⟨at_led hh 6 rfl, rfl, rfl, at_led hh 7 rfl⟩, ?_, ?_, TabI.of ?_ (at_led hh 12 rfl) (by assumption) (by assumption)⟩ fun _ => rfl) (.cons (.cov rfl ⟨_, at_led hh 4 rfl, rfl, _, rfl⟩ (hf h fun p hp => hh p (List.mem_of_mem_drop (i := 14) hp)) fun _ => rfl) (.cons (.glyph rfl ⟨_, at_led hh 2 rfl, rfl, _, rfl⟩ fun _ => rfl) .nil)))
        all_goals first | assumption | k_get
      · rename News s.heap _ _ _ => kN
        rename (∀ g, g ∈ _ ↔ g ∈ ns) => hm
        rename (Frz _ _) => hf
        refine hret _ _ _ _ (Fr.keep (by assumption)) (fun p hp => ⟨(kN p hp).1, (kN p hp).2.2⟩) ⟨_, _, [_, _, _], _, rfl, .head _, Nat.le_of_ble_eq_true rfl, Nat.le_of_ble_eq_true rfl, spelled_sets hm, fun h hh => ?_⟩
        refine .cons (.cls rfl ⟨_, at_led hh 7 rfl, rfl, _, rfl⟩ ⟨_, _, _, _, ⟨at_led hh 8 rfl, rfl, rfl, at_led hh 9 rfl⟩, ?_, ?_, TabI.of ?_ (at_led hh 10 rfl) (by assumption) (by assumption)⟩ fun _ => rfl) (.cons (.cls rfl ⟨_, at_led hh 4 rfl, rfl, _, rfl⟩ ⟨_, _, _, _, ⟨at_led hh 5 rfl, rfl, rfl, at_led hh 6 rfl⟩, ?_, ?_, TabI.of ?_ (at_led hh 11 rfl) (by assumption) (by assumption)⟩ fun _ => rfl) (.cons (.cov rfl ⟨_, at_led hh 3 rfl, rfl, _, rfl⟩ (hf h fun p hp => hh p (List.mem_of_mem_drop (i := 13) hp)) fun _ => rfl) .nil))
        all_goals first | assumption | k_get
end
end
section
def PoolObj (o : Obj) : Prop := ∃ vals n xs, o = listOf (List.toArray vals) n ∧ IntsAre vals xs ∧ xs.length ≤ 1000
theorem take_use {prog : Program} {w : World} {p : Program} {loose : List Str} {mean : ExcName → Option Value} {mg mb : Str → Option Value} {dp un : Nat} {gd : Option (List Code)} {cn : Str} {cs : Scope} {a : Addr} {ccd : Value} {cl : List (Str × Addr)} {outer : List Env} {A₀ : Around} {base h₀ : Heap} {L : Addr} {m : Str → Option Value} {news : List (Addr × Obj)} {s : Shared}
    {pa : Addr} {many : Int} {t : Tok} {po : Obj} {g : Obj → List (Addr × Obj)} {Q E : Value → Shared → Prop}
    (B : Below A₀ base outer h₀) (F : Fr h₀ L s.heap m) (X : (HK w.params).In h₀) (N : News h₀ L s.heap news) (T : Top p loose mean mg mb h₀) (hk : cs.kind = .function) (hd : dp + 1 < recursionLimit) (hu : un + 4 < cLine)
    (U : UpdF pa po news g) (hp : PoolObj po) (hm : 0 < many) (hm' : many < 100)
    (ret : ∀ d u h' tk' po', Fr h₀ L h' m → News h₀ L h' (g po') → PoolObj po' → 0 ≤ d → d < many → Q (.int d u) { s with heap := h', toks := tk' }) :
    wpAny (model prog w) (ktrTop dp un gd cn cs L a ccd cl outer) (call (.ref 387) [.ref pa, .int many t]) Q E s := by
  obtain ⟨pre, post, rfl, hg, h1, h2⟩ := U.split
  have hN := N (pa, po) (List.mem_append_right _ (.head _))
  obtain ⟨vals, n, xs, rfl, hi, hz⟩ := hp
  refine take_writes ⟨vals, n, xs, hN.1, hi, hz⟩ hm hm' _ _ _ _ _ _ _ _ _ _ _ _ _ _ _ _ _ _ _ _ _ B F X T hk hd hu hN.2.1 hN.2.2 fun v h' tk' x q => ?_
  obtain ⟨⟨vals', n', xs', e, i', z'⟩, d, u, rfl, d0, d1⟩ := q
  refine ret d u h' tk' (listOf vals'.toArray n') ⟨F.ns.at fun o e => x L o (fun hb => hN.2.1 hb.symm) e, fun b o e => x b o (fun hb => ?_) (F.keep b o e), F.above⟩ (hg _ ▸ fun q hq => ?_) ⟨vals', n', xs', rfl, i', z'⟩ d0 d1
  · rw [hb] at e
    have := hN.2.2
    rw [this] at e
    cases e
  · rcases List.mem_append.mp hq with hq | hq
    · exact ⟨x _ _ (h1 q hq) (N q (List.mem_append_left _ hq)).1, (N q (List.mem_append_left _ hq)).2⟩
    · rcases List.mem_cons.mp hq with rfl | hq
      · exact ⟨e, hN.2⟩
      · have := N q (List.mem_append_right _ (.tail _ hq))
        exact ⟨x _ _ (h2 q hq) this.1, this.2⟩
end
section
def holdJ (nx₀ : List (Addr × Obj)) (P : Nat → List Value → Prop) (i : Nat) (ys : List Value) (nx : List (Addr × Obj)) : Prop := nx = nx₀ ∧ P i ys
def lawDef : List Stmt × Scope := match PySem.Challenge.pw_pb0192_01.main.body.getD 38 (.Pass default) with | .FunctionDef _ _ body _ _ _ scope _ _ _ => (body, scope) | _ => ([], default)
def Stop (p : Prop) : Prop := p
theorem For_stop {prog : Program} {w : World} {A : Around} {E : Value → Shared → Prop} {s : Shared} {h₀ : Heap} {env : Env} {x : Str} {body : List Stmt} {Q : Flow → Shared → Prop} {m : Str → Option Value} {px pos : Pos} {iter : PySem.Expr} (F : Fr h₀ env.locals s.heap m) (hx : env.kindOf x = some .local)
    (hp : (env.scope.kind == .class || (env.scope.kind == .module && env.locals != env.globals)) = false)
    (h : wpAny (model prog w) A (eval iter env) (fun xv s₁ => Stop (wpAny (model prog w) A (pyIter xv) (fun it s₂ => LoopAtV prog w A h₀ env x body Q E it s₂) E s₁)) E s)
    (hs : ∀ x, foldedSetIterable iter env x = pure x) (hE : PassesOwn (model prog w) A env E) :
    wpAny (model prog w) A (exec (.For (.Name x px) iter body [] pos) env) Q E s := For_invVF F hx hp h hs hE
end
section
/-- what a turn of a loop with any target leaves -/
def TurnedN (h₀ : Heap) (L : Addr) (I : Addr) (it : Obj) (J : (Str → Option Value) → List (Addr × Obj) → Prop) (s₁ : Shared) (f : Flow) (s₂ : Shared) : Prop :=
  f = .next ∧ ∃ h' tk m' nx, s₂ = { s₁ with heap := h', toks := tk } ∧ Fr h₀ L h' m' ∧ News h₀ L h' ((I, it) :: nx) ∧ (∀ p ∈ nx, p.1 ≠ I) ∧ J m' nx
section
variable {prog : Program} {w : World} {A : Around} {E : Value → Shared → Prop} {s : Shared} {env : Env} {h₀ : Heap} {target : PySem.Expr} {body : List Stmt} {Q : Flow → Shared → Prop}
theorem iter_listT {ax : Addr} {lo : Obj} {vs : List Value} {n : Nat} {m₀ : Str → Option Value} {news : List (Addr × Obj)} (J : Nat → (Str → Option Value) → List (Addr × Obj) → Prop)
    (hh : A.handled = none) (hcls : lo.cls = .type "list") (hdat : lo.data = .seq vs.toArray n)
    (hJl : ∀ i m₁ news₁ h, J i m₁ news₁ → Ext h₀ h → News h₀ env.locals h news₁ → h.get? ax = some lo)
    (F : Fr h₀ env.locals s.heap m₀) (N : News h₀ env.locals s.heap news) (hj : J 0 m₀ news)
    (turn : ∀ I it i v m₁ news₁ (s₁ : Shared), vs[i]? = some v → J i m₁ news₁ → (∀ p ∈ news₁, p.1 ≠ I) → (∀ p ∈ news, p.1 < I) → Fr h₀ env.locals s₁.heap m₁ → News h₀ env.locals s₁.heap ((I, it) :: news₁) →
      wpAny (model prog w) A (assign target env v) (fun _ s₃ => wpAny (model prog w) A (execs body env) (TurnedN h₀ env.locals I it (J (i + 1)) s₁) E s₃) E s₁)
    (done : ∀ m₁ news₁ h tk, J vs.length m₁ news₁ → Fr h₀ env.locals h m₁ → News h₀ env.locals h news₁ → Q .next { s with heap := h, toks := tk }) :
    wpAny (model prog w) A (pyIter (.ref ax)) (fun it s₂ => LoopAtT prog w A h₀ env target body Q E it s₂) E s := by
  have hol := hJl 0 m₀ news s.heap hj F.keep N
  have hls : s.heap.IsList ax vs.toArray := ⟨lo, hol, hcls, n, hdat⟩
  have hne : ax ≠ s.heap.objs.size := Nat.ne_of_lt (Heap.lt_size hol)
  have hnew := next_is_new F
  have hlt : ∀ p ∈ news, p.1 < s.heap.objs.size := fun p hp => Heap.lt_size (N p hp).1
  refine wpAny_pyIter_list hls ?_
  have W := Walks.list (prog := prog) (w := w) hh s.heap.objs.size ax hne vs.toArray
  rw [List.size_toArray] at W
  refine ⟨_, _, _, vs.length, _, _, m₀, news, J, rfl, W, ?_, ?_, ?_, ⟨⟨_, Heap.get?_push_size _ rfl, rfl, rfl⟩, hls.push _⟩, F.push _, (fun p hp => ⟨Heap.get?_push_of_some _ (N p hp).1, (N p hp).2⟩), fun i s' v Q' st hQ' => letGo_listiter st.1 hQ', hj, ?_, ?_⟩
  · intro hm
    obtain ⟨oL, _, _, hL, _⟩ := F.ns
    rcases List.mem_cons.mp hm with e | hm
    · exact absurd F.ns.lt (e ▸ Nat.lt_irrefl _)
    · have e := List.mem_singleton.mp hm
      have q : s.heap.Ns ax m₀ := e ▸ F.ns
      obtain ⟨o, es, ep, ho, hd, _⟩ := q
      rw [hol] at ho
      cases ho
      rw [hdat] at hd
      cases hd
  · intro b hb
    rw [List.mem_singleton.mp hb]
    exact hnew
  · intro p hp hI
    exact absurd (hlt p hp) ((List.mem_singleton.mp hI) ▸ Nat.lt_irrefl _)
  · rintro i v m₁ news₁ s₁ own hin hP hJ hoff hown hget hall hst F₁ N₁
    obtain ⟨⟨oi, hoi, _⟩, _⟩ := hst
    have hI : (s.heap.objs.size, oi) ∈ own := hall _ (.head _) hnew oi hoi
    have N₂ : News h₀ env.locals s₁.heap ((s.heap.objs.size, oi) :: news₁) := fun p hp => by
      rcases List.mem_cons.mp hp with rfl | hp
      · exact N₁ _ (List.mem_append_left _ hI)
      · exact N₁ _ (List.mem_append_right _ hp)
    have hlo := hJl i m₁ news₁ s₁.heap hJ F₁.keep fun p hp => N₁ p (List.mem_append_right _ hp)
    have hP' : vs[i]? = some v := by simpa using hP
    refine wpAny_mono (turn s.heap.objs.size oi i v m₁ news₁ s₁ hP' hJ (fun p hp e => hoff p hp (List.mem_singleton.mpr e)) hlt F₁ N₂) (fun _ s₃ q₃ => wpAny_mono q₃ (fun f s₂ q => ?_) fun _ _ e => e) fun _ _ e => e
    obtain ⟨e0, h', tk, m', nx, e, F', N', ho, r⟩ := q
    refine ⟨e0, h', tk, m', nx, e, F', fun p hp => ?_, fun p hp hI => ho p hp (List.mem_singleton.mp hI), r⟩
    rcases List.mem_append.mp hp with hp | hp
    · have h2 := hget p hp
      have h3 := (N₁ p (List.mem_append_left _ hp)).2
      rcases List.mem_cons.mp (hown p hp) with e1 | e1
      · rw [e1, hoi] at h2
        have : p = (s.heap.objs.size, oi) := Prod.ext e1 (Option.some.inj h2).symm
        rw [this]; exact N' _ (List.mem_cons_self ..)
      · have e1 := List.mem_singleton.mp e1
        rw [e1, hlo] at h2
        have := hJl (i + 1) m' nx h' r F'.keep fun p hp => N' p (List.mem_cons_of_mem _ hp)
        exact ⟨by rw [e1, this]; exact h2, h3⟩
    · exact N' _ (List.mem_cons_of_mem _ hp)
  · rintro h' tk m' news' F' N' _ hJ
    exact done m' news' h' tk hJ F' N'
end
theorem Frz.now {fz nx : List (Addr × Obj)} {P : Heap → Prop} {h₀ h : Heap} {L : Addr} (x : Frz fz P) (N : News h₀ L h nx) (k : ∀ p ∈ fz, p ∈ nx) : P h := x h fun p hp => (N p (k p hp)).1
theorem ne_same {prog : Program} {w : World} {A : Around} {E : Value → Shared → Prop} {s : Shared} {a b : Value} {d : PyData} {as bs : List Addr} {Q : Value → Shared → Prop}
    (ra : Reads s.heap a d as) (rb : Reads s.heap b d bs) (ha : d.canLay0 = true) (hu : A.units + d.depth < cLine) (h : Q (.bool false) s) :
    wpAny (model prog w) A (compareOp .NotEq a b) Q E s :=
  PySem.SeqAt.compareNe_reads ra rb ha ha (by rw [Nat.min_self]; exact hu) (by rw [PySem.SeqAt.eqv_refl d ha]; exact h)
theorem bools_read {h : Heap} {vs : List Value} {bs : List Bool} (e : vs = bs.map Value.bool) : ReadsAll h vs (bs.map PyData.bool) [] := by
  subst e
  induction bs with
  | nil => exact .nil
  | cons b r ih => exact .cons (as := []) (.bool b) ih
theorem bools_lay (bs : List Bool) : (PyData.list (bs.map PyData.bool)).canLay0 = true ∧ (PyData.list (bs.map PyData.bool)).depth = 1 := by
  have : PyData.canLayAll0 (bs.map PyData.bool) = true ∧ PyData.depthAll (bs.map PyData.bool) = 0 := by
    induction bs with
    | nil => exact ⟨rfl, rfl⟩
    | cons b r ih => simp [PyData.canLayAll0, PyData.canLay0, PyData.depthAll, PyData.depth, ih]
  simp [PyData.canLay0, PyData.depth, this]
theorem ne_bools {prog : Program} {w : World} {A : Around} {E : Value → Shared → Prop} {s : Shared} {a b : Addr} {xs ys : List Value} {bs : List Bool} {Q : Value → Shared → Prop}
    (ha : s.heap.IsList a xs.toArray) (hb : s.heap.IsList b ys.toArray) (hx : xs = bs.map Value.bool) (hy : ys = bs.map Value.bool) (hu : A.units + 64 < cLine) (h : Q (.bool false) s) :
    wpAny (model prog w) A (compareOp .NotEq (.ref a) (.ref b)) Q E s := by
  obtain ⟨o, h1, h2, n, h3⟩ := ha
  obtain ⟨o', k1, k2, n', k3⟩ := hb
  exact ne_same (d := .list (bs.map PyData.bool)) (.list h1 h2 h3 (bools_read hx)) (.list k1 k2 k3 (bools_read hy)) (bools_lay bs).1 (by rw [(bools_lay bs).2]; omega) h
def outData : Option (List Int) → PyData
  | none => .none
  | some l => .list (l.map PyData.int)
theorem ints_reads {h : Heap} : ∀ {vs : List Value} {l : List Int}, IntsAre vs l → ReadsAll h vs (l.map PyData.int) []
  | _, _, .nil => .nil
  | _, _, .cons _ t r => .cons (as := []) (.int _ t) (ints_reads r)
theorem out_reads {h : Heap} {v : Value} {o : Option (List Int)} (x : OutIs h v o) : ∃ as, Reads h v (outData o) as := by
  cases o with
  | none => rw [show v = .none from x]; exact ⟨_, .none⟩
  | some l =>
    obtain ⟨a, vs, rfl, ⟨ob, h1, h2, n, h3⟩, hi⟩ := x
    exact ⟨_, .list h1 h2 h3 (ints_reads hi)⟩
theorem ints_lay (l : List Int) : PyData.canLayAll0 (l.map PyData.int) = true ∧ PyData.depthAll (l.map PyData.int) = 0 := by
  induction l with
  | nil => exact ⟨rfl, rfl⟩
  | cons b r ih => simp [PyData.canLayAll0, PyData.canLay0, PyData.depthAll, PyData.depth, ih]
theorem out_lay (o : Option (List Int)) : (outData o).canLay0 = true ∧ (outData o).depth ≤ 1 := by
  cases o with
  | none => exact ⟨rfl, by decide⟩
  | some l => simp [outData, PyData.canLay0, PyData.depth, ints_lay]
theorem OutIs.ext {h h' : Heap} {v : Value} {o : Option (List Int)} (x : OutIs h v o) (k : Ext h h') : OutIs h' v o := by
  cases o with
  | none => exact x
  | some l => obtain ⟨a, vs, e, hl, hi⟩ := x; exact ⟨a, vs, e, isList_ext hl k, hi⟩
theorem ne_outs {prog : Program} {w : World} {A : Around} {E : Value → Shared → Prop} {s : Shared} {a b : Value} {o o' : Option (List Int)} {Q : Value → Shared → Prop}
    (ha : OutIs s.heap a o) (hb : OutIs s.heap b o') (e : o = o') (hu : A.units + 64 < cLine) (h : Q (.bool false) s) : wpAny (model prog w) A (compareOp .NotEq a b) Q E s := by
  subst e
  obtain ⟨_, ra⟩ := out_reads ha
  obtain ⟨_, rb⟩ := out_reads hb
  exact ne_same ra rb (out_lay o).1 (by have := (out_lay o).2; omega) h
theorem ne_pairs {prog : Program} {w : World} {A : Around} {E : Value → Shared → Prop} {s : Shared} {a b : Addr} {x y x' y' : Int} {t u t' u' : Tok} {Q : Value → Shared → Prop}
    (ha : IsTup s.heap a #[.int x t, .int y u]) (hb : IsTup s.heap b #[.int x' t', .int y' u']) (e : x = x') (e' : y = y') (hu : A.units + 64 < cLine) (h : Q (.bool false) s) :
    wpAny (model prog w) A (compareOp .NotEq (.ref a) (.ref b)) Q E s := by
  subst e e'
  obtain ⟨o, h1, h2, n, h3⟩ := ha
  obtain ⟨o', k1, k2, n', k3⟩ := hb
  exact ne_same (d := .tuple [.int x, .int y]) (.tuple h1 h2 h3 (.cons (as := []) (.int _ _) (.cons (as := []) (.int _ _) .nil))) (.tuple k1 k2 k3 (.cons (as := []) (.int _ _) (.cons (as := []) (.int _ _) .nil))) rfl (by show _ + 1 < _; omega) h
def lawStmt (i : Nat) : Stmt := lawDef.1.getD i (.Pass default)
theorem tuple5_pick {prog : Program} {w : World} {A : Around} {E : Value → Shared → Prop} {s : Shared} {D : Addr} {d : Int} {u : Tok} {k0 k1 k2 k3 k4 : Str} {t0 t1 t2 t3 t4 : Tok} {value slice : PySem.Expr} {Q : Value → Shared → Prop} (ht : IsTup s.heap D #[.str k0 t0, .str k1 t1, .str k2 t2, .str k3 t3, .str k4 t4]) (h0 : 0 ≤ d) (h5 : d < 5) (h : ∀ k t, Q (.str k t) s)
    (hs : subscripted slice false (.ref D) (.int d u) = operate [.ref D, .int d u] (getItem (.ref D) (.int d u)) := by with_unfolding_all rfl) (hg : ∀ r, letTemporaryGo value (.ref D) r = pure () := by intro _; with_unfolding_all rfl) :
    wpAny (model prog w) A (subscriptTail value slice (.ref D) (.int d u)) Q E s := by
  have : d = 0 ∨ d = 1 ∨ d = 2 ∨ d = 3 ∨ d = 4 := by omega
  rcases this with rfl | rfl | rfl | rfl | rfl
  · exact item_tuple ht (by decide) (by decide) (j := 0) rfl rfl (h _ _) hs hg
  · exact item_tuple ht (by decide) (by decide) (j := 1) rfl rfl (h _ _) hs hg
  · exact item_tuple ht (by decide) (by decide) (j := 2) rfl rfl (h _ _) hs hg
  · exact item_tuple ht (by decide) (by decide) (j := 3) rfl rfl (h _ _) hs hg
  · exact item_tuple ht (by decide) (by decide) (j := 4) rfl rfl (h _ _) hs hg
theorem range_one {d : Int} (h0 : 0 ≤ d) (h8 : d < 8) : Builtin.Range.small 0 (1 + d) 1 = true ∧ Builtin.Range.rangeSize 0 (1 + d) 1 = (((1 + d).toNat : Nat) : Int) := by
  have : d = 0 ∨ d = 1 ∨ d = 2 ∨ d = 3 ∨ d = 4 ∨ d = 5 ∨ d = 6 ∨ d = 7 := by omega
  rcases this with rfl | rfl | rfl | rfl | rfl | rfl | rfl | rfl <;> decide
end
section
def rowJ (ia pa : Addr) (cells : List (Addr × Obj)) (offs : List Addr) (i : Nat) (m₁ : Str → Option Value) (nx : List (Addr × Obj)) : Prop :=
  ∃ vals n row po fz, nx = (ia, listOf (List.toArray vals) n) :: (pa, po) :: (cells ++ fz) ∧ OwnOff fz offs ∧ PoolObj po ∧ Frz fz (fun h => RowAt h vals row) ∧ vals.length = i ∧ row.length = i ∧ (∀ c ∈ row, 0 ≤ c.glyph ∧ c.glyph < 6) ∧ m₁ (Str.ofString "infos") = some (.ref ia)
theorem row_turn {hb h' : Heap} {L D x d I ia pa c1 c2 c3 i tk : Nat} {tup it o1 o2 o3 po lo lo0 po0 : Obj} {es : List DictEntry} {k : Nat} {vals : List Value} {row : List Cell} {fz : List (Addr × Obj)} {m' : Str → Option Value} {g mk : Int} {kd : Str} {tg tm tk' : Tok} {s₁ : Shared} {Q : Flow → Shared → Prop}
    (F : Fr hb L h' m') (N : News hb L h' ((D, tup) :: (x, instObj 179 d) :: (d, dictOf es k) :: (I, it) :: (ia, lo) :: (pa, po) :: (c1, o1) :: (c2, o2) :: (c3, o3) :: fz)) (lo' : ∃ n, lo = listOf (List.toArray (vals ++ [Value.ref x])) n)
    (ld : I < d ∧ ia < d ∧ pa < d ∧ c1 < d ∧ c2 < d ∧ c3 < d ∧ AllLt d fz) (lx : d < x) (ho : ∀ p ∈ (ia, lo0) :: (pa, po0) :: (c1, o1) :: (c2, o2) :: (c3, o3) :: fz, p.1 ≠ I) (q1 : OwnOff fz [ia, pa, c1, c2, c3]) (q2 : PoolObj po) (q3 : Frz fz (fun h => RowAt h vals row)) (q4 : vals.length = i) (q5 : row.length = i)
    (q6 : ∀ c ∈ row, 0 ≤ c.glyph ∧ c.glyph < 6) (hm : m' (Str.ofString "infos") = some (.ref ia)) (g0 : 0 ≤ g) (g6 : g < 6) (e1 : getL "glyph" es = some (some (.int g tg))) (e2 : getL "mask" es = some (some (.int mk tm))) (e3 : getL "kind" es = some (some (.str kd tk'))) :
    Turned hb L I it (rowJ ia pa [(c1, o1), (c2, o2), (c3, o3)] [ia, pa, c1, c2, c3] (i + 1)) s₁ Q .next { s₁ with heap := h', toks := tk } := by
  obtain ⟨n', rfl⟩ := lo'
  obtain ⟨ld1, ld2, ld3, ld4, ld5, ld6, ld7⟩ := ld
  refine ⟨h', tk, m', _, rfl, F, ?_, ?_, vals ++ [.ref x], n', row ++ [⟨g, mk, kd⟩], po, (x, instObj 179 d) :: (d, dictOf es k) :: fz, rfl, ?_, q2, ?_, by simp [q4], by simp [q5], ?_, hm⟩
  · intro p hp
    refine N p ?_
    simp only [List.cons_append, List.nil_append, List.mem_cons] at hp ⊢
    rcases hp with e | e | e | e | e | e | e | e | e <;> simp [e]
  · intro p hp
    simp only [List.cons_append, List.nil_append, List.mem_cons] at hp
    rcases hp with rfl | rfl | rfl | rfl | rfl | rfl | rfl | hp
    · exact ho (ia, lo0) (.head _)
    · exact ho (pa, po0) (.tail _ (.head _))
    · exact ho _ (.tail _ (.tail _ (.head _)))
    · exact ho _ (.tail _ (.tail _ (.tail _ (.head _))))
    · exact ho _ (.tail _ (.tail _ (.tail _ (.tail _ (.head _)))))
    · exact Nat.ne_of_gt (Nat.lt_trans ld1 lx)
    · exact Nat.ne_of_gt ld1
    · exact ho _ (.tail _ (.tail _ (.tail _ (.tail _ (.tail _ hp)))))
  · intro p hp b hb
    rcases List.mem_cons.mp hp with rfl | hp
    · refine Nat.ne_of_gt (Nat.lt_trans ?_ lx)
      simp only [List.mem_cons, List.not_mem_nil, or_false] at hb
      rcases hb with rfl | rfl | rfl | rfl | rfl <;> assumption
    · rcases List.mem_cons.mp hp with rfl | hp
      · refine Nat.ne_of_gt ?_
        simp only [List.mem_cons, List.not_mem_nil, or_false] at hb
        rcases hb with rfl | rfl | rfl | rfl | rfl <;> assumption
      · exact q1 p hp b hb
  · intro h hh
    have hr := q3 h fun p hp => hh p (.tail _ (.tail _ hp))
    have hi : InfoAt h (.ref x) ⟨g, mk, kd⟩ := ⟨x, _, es, k, tg, tm, tk', rfl, ⟨hh _ (.head _), rfl, rfl, hh _ (.tail _ (.head _))⟩, e1, e2, e3⟩
    clear hh q3 q4 q5 q6 N
    induction hr with
    | nil => exact .cons hi .nil
    | cons a _ ih => exact .cons a ih
  · intro c hc
    rcases List.mem_append.mp hc with hc | hc
    · exact q6 c hc
    · rw [List.mem_singleton.mp hc]; exact ⟨g0, g6⟩
end
section
theorem fresh11 : True := by
  w_top off
  trivial
section
local macro_rules | `(tactic| walk_at "r_prem") => `(tactic| ((case k1 => k_asm); (case k2 => k_asm); (case k3 => k_asm); (case k4 => k_asm); (case k5 => k_asm); (case k6 => first | exact rfl | assumption); (case k7 => exact Nat.le_of_ble_eq_true rfl); (case k8 => exact Nat.le_of_ble_eq_true rfl)))
local macro_rules | `(tactic| walk_at "call ref") => `(tactic| (k_here; k_dflt (refine' take_use ?k1 ?k2 ?k3 ?k4 ?k5 ?k6 ?k7 ?k8 ?U ?p ?m1 ?m2 ?_; walk_at "r_prem"; (case U => k_updF); (case p => assumption); (case m1 => decide); (case m2 => decide)); intro d' u' h' tk' po' F' N' p' lo' hi'; (try dsimp only at N'); (try k_sweep)))
local macro_rules | `(tactic| walk_at "exec For Name Call cons nil") => `(tactic| (k_here; (rename Fr _ _ _ _ => lF'); (with_unfolding_all refine' For_stop lF' ?k1 ?k2 ?_ ?k4 ?k5; (case k1 => exact rfl); (case k2 => exact rfl); (case k4 => (intro _; with_unfolding_all rfl)); (case k5 => exact PassesOwn.never); k_whole); k_fold))
local macro_rules | `(tactic| walk_at "subscriptTail") => `(tactic| (k_here; (with_reducible show wpAny _ _ (subscriptTail _ _ (Value.ref _) (Value.int _ _)) _ _ _); k_dflt (refine' tuple5_pick ?t ?a ?b ?_ ?s ?g; (case t => exact ⟨_, (News.get (by k_asm) (by k_mem)), rfl, _, rfl⟩); (case a => assumption); (case b => assumption); (case s => with_unfolding_all rfl); (case g => intro _; with_unfolding_all rfl)); intro k' t'))
theorem law_B {prog : Program} {w : World} {p : Program} {loose : List Str} {mean : ExcName → Option Value} {mg mb : Str → Option Value} {h : Heap} {fa : Addr} {ia pa : Nat} {cd : Value} {o1 o2 o3 po : Obj} {c1 c2 c3 : Nat} {s : Shared} {m : Str → Option Value} {Q : Flow → Shared → Prop}
    (KX : (HK w.params).In h) (T : Top p loose mean mg mb h) (K0 : Below callerA h [] h) (F : Fr h h.objs.size s.heap m) (hm : m (Str.ofString "infos") = some (.ref ia)) (hc1 : c1 = h.objs.size + 1 + 1 + 1) (hc2 : c2 = h.objs.size + 1 + 1) (hc3 : c3 = h.objs.size + 1)
    (N : News h h.objs.size s.heap [(ia, listOf #[] 0), (pa, po), (c1, o1), (c2, o2), (c3, o3)]) (l1 : pa < ia) (l2 : c1 < pa) (d3 : o3.data = .cell (some (.ref pa))) (hp : PoolObj po)
    (hq : ∀ h' tk' m' vals n row po' fz, Fr h h.objs.size h' m' → m' (Str.ofString "infos") = some (.ref ia) → News h h.objs.size h' ((ia, listOf (List.toArray vals) n) :: (pa, po') :: (c1, o1) :: (c2, o2) :: (c3, o3) :: fz) → OwnOff fz [ia, pa, c1, c2, c3] → PoolObj po' → Frz fz (fun h => RowAt h vals row) → row.length = vals.length → 1 ≤ row.length → row.length ≤ 8 → (∀ c ∈ row, 0 ≤ c.glyph ∧ c.glyph < 6) → Q .next { s with heap := h', toks := tk' }) :
    wpAny (model prog w) (callerA.deeper (envOfC "law" lawDef.2 h.objs.size fa cd)) (exec (lawStmt 2) (envOfC "law" lawDef.2 h.objs.size fa cd)) Q (fun _ _ => False) s := by
  show wpAny _ (Around.deeper _ (envOfC _ ⟨_, _, _, _, _⟩ _ _ _)) (exec (.For _ _ (_ :: _ :: _ :: _ :: []) [] _) (envOfC _ ⟨_, _, _, _, _⟩ _ _ _)) _ _ _
  subst hc1 hc2 hc3
  k_steps
  unfold Stop
  rename Fr _ _ _ _ => Fq
  rename News _ _ _ _ => Nq
  rename IsRange _ _ _ _ _ _ _ _ => Rq
  rename PoolObj _ => hpo
  rename (_ < (8 : Int)) => d8
  rename ((0 : Int) ≤ _) => d0
  clear hp
  refine iter_rangeJ (rowJ ia pa [(h.objs.size + 1 + 1 + 1, o1), (h.objs.size + 1 + 1, o2), (h.objs.size + 1, o3)] [ia, pa, h.objs.size + 1 + 1 + 1, h.objs.size + 1 + 1, h.objs.size + 1]) rfl Rq (range_one d0 d8).1 (range_one d0 d8).2 Fq Nq ⟨[], 0, [], _, [], rfl, (fun _ hp => nomatch hp), hpo, (fun _ _ => .nil), rfl, rfl, (fun _ hc => nomatch hc), hm⟩ ?_ ?_
  · rintro I it i t m₁ nx h₂ tk₂ hin ⟨vals, n, row, po, fz, rfl, q1, q2, q3, q4, q5, q6, q7⟩ ho l1 F₂ N₂
    dsimp only [List.cons_append, List.nil_append] at N₂ ho
    k_lt l1
    k_unmd
    k_fold
    k_steps
    · rename Fr _ _ _ _ => Fz
      rename News _ _ _ _ => Nz
      refine' row_turn Fz Nz ?lo ?ld ?lx ho q1 ?q2 q3 q4 q5 q6 ?hm ?g0 ?g6 ?e1 ?e2 ?e3
      case lo => exact ⟨_, congrArg (fun a => listOf a _) (List.push_toArray _ _)⟩
      case hm => exact q7
      case ld => assumption
      case lx => assumption
      case q2 => assumption
      case e1 => k_get
      case e2 => k_get
      case e3 => k_get
      all_goals assumption
  · rintro m₁ nx h₂ tk₂ ⟨vals, n, row, po, fz, rfl, q1, q2, q3, q4, q5, q6, q7⟩ F₂ N₂
    exact hq _ _ _ _ _ _ _ _ F₂ q7 N₂ q1 q2 q3 (by omega) (by omega) (by omega) q6
end
end
section
theorem fresh12 : True := by
  w_top off
  trivial
theorem allLt_all {d : Nat} : ∀ {l : List (Addr × Obj)}, AllLt d l → ∀ p ∈ l, p.1 < d
  | [], _, _, hp => nomatch hp
  | _ :: _, h, p, hp => by
    rcases List.mem_cons.mp hp with rfl | hp
    · exact h.1
    · exact allLt_all h.2 p hp
theorem scene_pick {hb h' : Heap} {L wa ia pa c1 c2 c3 : Nat} {lw li po o1 o2 o3 : Obj} {nx pre fz : List (Addr × Obj)} (k : Nat) (N : News hb L h' ((wa, lw) :: nx)) (hd : nx.drop k = (ia, li) :: (pa, po) :: (c1, o1) :: (c2, o2) :: (c3, o3) :: fz) (ht : nx.take k = pre)
    (hfz : OwnOff fz [ia, pa, c1, c2, c3]) (l1 : pa < ia) (l2 : c1 < pa) (l3 : c2 < c1) (l4 : c3 < c2) (lz : AllLt wa nx) (g1 : ∀ p ∈ pre, @LT.lt Nat _ pa p.1) :
    News hb L h' ((wa, lw) :: (pa, po) :: (c1, o1) :: (c2, o2) :: (c3, o3) :: (pre ++ (ia, li) :: fz)) ∧ OwnOff (pre ++ (ia, li) :: fz) [wa, pa, c1, c2, c3] ∧ pa < wa := by
  have e : nx = pre ++ (ia, li) :: (pa, po) :: (c1, o1) :: (c2, o2) :: (c3, o3) :: fz := by rw [← ht, ← hd, List.take_append_drop]
  subst e
  have lz' := allLt_all lz
  have lw' : ∀ p ∈ pre ++ (ia, li) :: fz, p.1 < wa := fun p hp => lz' p (by
    rcases List.mem_append.mp hp with hp | hp
    · exact List.mem_append_left _ hp
    · rcases List.mem_cons.mp hp with rfl | hp
      · exact List.mem_append_right _ (.head _)
      · exact List.mem_append_right _ (.tail _ (.tail _ (.tail _ (.tail _ (.tail _ hp))))))
  refine ⟨fun p hp => N p ?_, fun p hp b hb => ?_, lz' (pa, po) (List.mem_append_right _ (.tail _ (.head _)))⟩
  · simp only [List.mem_cons, List.mem_append] at hp ⊢
    rcases hp with e | e | e | e | e | e | e | e <;> simp [e]
  · have hw := lw' p hp
    simp only [List.mem_cons, List.not_mem_nil, or_false] at hb
    rcases List.mem_append.mp hp with hp | hp
    · have := g1 p hp
      rcases hb with rfl | rfl | rfl | rfl | rfl <;> refine neN ?_ <;> (have hw : @LT.lt Nat _ p.1 _ := hw) <;> omega
    · rcases List.mem_cons.mp hp with rfl | hp
      · rcases hb with rfl | rfl | rfl | rfl | rfl <;> refine neN ?_ <;> (have hw : @LT.lt Nat _ ia _ := hw) <;> dsimp only <;> omega
      · rcases hb with rfl | hb
        · exact Nat.ne_of_lt hw
        · exact hfz p hp b (by simp only [List.mem_cons, List.not_mem_nil, or_false]; exact .inr hb)
section
local macro_rules | `(tactic| walk_at "r_prem") => `(tactic| ((case k1 => k_asm); (case k2 => k_asm); (case k3 => k_asm); (case k4 => k_asm); (case k5 => k_asm); (case k6 => first | exact rfl | assumption); (case k7 => exact Nat.le_of_ble_eq_true rfl); (case k8 => exact Nat.le_of_ble_eq_true rfl)))
local macro_rules | `(tactic| walk_at "call ref") => `(tactic| (k_here; k_dflt (refine' take_use ?k1 ?k2 ?k3 ?k4 ?k5 ?k6 ?k7 ?k8 ?U ?p ?m1 ?m2 ?_; walk_at "r_prem"; (case U => k_updF); (case p => assumption); (case m1 => decide); (case m2 => decide)); intro d' u' h' tk' po' F' N' p' lo' hi'; (try dsimp only at N'); (try k_sweep)))
theorem law_C {prog : Program} {w : World} {p : Program} {loose : List Str} {mean : ExcName → Option Value} {mg mb : Str → Option Value} {h : Heap} {fa : Addr} {ia pa n : Nat} {cd : Value} {o1 o2 o3 po : Obj} {c1 c2 c3 : Nat} {s : Shared} {m : Str → Option Value} {Q : Flow → Shared → Prop} {rest : List Stmt} {vals : List Value} {row : List Cell} {fz : List (Addr × Obj)}
    (KX : (HK w.params).In h) (T : Top p loose mean mg mb h) (K0 : Below callerA h [] h) (F : Fr h h.objs.size s.heap m) (hm : m (Str.ofString "infos") = some (.ref ia)) (hc1 : c1 = h.objs.size + 1 + 1 + 1) (hc2 : c2 = h.objs.size + 1 + 1) (hc3 : c3 = h.objs.size + 1)
    (N : News h h.objs.size s.heap ((ia, listOf (List.toArray vals) n) :: (pa, po) :: (c1, o1) :: (c2, o2) :: (c3, o3) :: fz)) (hfz : OwnOff fz [ia, pa, c1, c2, c3]) (l1 : pa < ia) (l2 : c1 < pa) (d3 : o3.data = .cell (some (.ref pa))) (hp : PoolObj po) (hrow : Frz fz (fun h => RowAt h vals row)) (hz : row.length ≤ 8)
    (hq : ∀ h' tk' m' wa sc po' fz' mask, Fr h h.objs.size h' m' → m' (Str.ofString "infos") = some (.ref ia) → m' (Str.ofString "scene") = some (.ref sc) → m' (Str.ofString "ways") = some (.ref wa) → News h h.objs.size h' ((wa, listOf #[] 0) :: (pa, po') :: (c1, o1) :: (c2, o2) :: (c3, o3) :: fz') → OwnOff fz' [wa, pa, c1, c2, c3] → pa < wa → PoolObj po' → Frz fz' (fun h => SceneAt prog w h sc row mask ∧ h.get? ia = some (listOf (List.toArray vals) n)) →
      wpAny (model prog w) (callerA.deeper (envOfC "law" lawDef.2 h.objs.size fa cd)) (execs rest (envOfC "law" lawDef.2 h.objs.size fa cd)) Q (fun _ _ => False) { s with heap := h', toks := tk' }) :
    wpAny (model prog w) (callerA.deeper (envOfC "law" lawDef.2 h.objs.size fa cd)) (execs (lawStmt 3 :: lawStmt 4 :: lawStmt 5 :: rest) (envOfC "law" lawDef.2 h.objs.size fa cd)) Q (fun _ _ => False) s := by
  show wpAny _ (Around.deeper _ (envOfC _ ⟨_, _, _, _, _⟩ _ _ _)) (execs (.Assign _ _ _ :: .Assign _ _ _ :: .Assign _ _ _ :: rest) (envOfC _ ⟨_, _, _, _, _⟩ _ _ _)) _ _ _
  replace hq : ∀ h' tk' m' wa sc po' fz' mask, Fr h h.objs.size h' m' → m' (Str.ofString "infos") = some (.ref ia) → m' (Str.ofString "scene") = some (.ref sc) → m' (Str.ofString "ways") = some (.ref wa) → News h h.objs.size h' ((wa, listOf #[] 0) :: (pa, po') :: (c1, o1) :: (c2, o2) :: (c3, o3) :: fz') → OwnOff fz' [wa, pa, c1, c2, c3] → pa < wa → PoolObj po' → Frz fz' (fun h => SceneAt prog w h sc row mask ∧ h.get? ia = some (listOf (List.toArray vals) n)) →
      wpAny (model prog w) (callerA.deeper (envOfC "law" ⟨_, _, _, _, _⟩ h.objs.size fa cd)) (execs rest (envOfC "law" ⟨_, _, _, _, _⟩ h.objs.size fa cd)) Q (fun _ _ => False) { s with heap := h', toks := tk' } := hq
  subst hc1 hc2 hc3
  try k_fold
  k_steps
  · rename Fr _ _ _ _ => Fz
    rename News _ _ _ _ => Nz
    rename PoolObj _ => pz
    rename (_ < _ ∧ _) => lz
    obtain ⟨N9, O9, L9⟩ := scene_pick 20 Nz rfl (by dsimp only [List.take_succ_cons, List.take_zero]) hfz l1 l2 (Nat.lt_succ_self _) (Nat.lt_succ_self _) lz (by repeat (first | exact List.forall_mem_nil _ | refine List.forall_mem_cons.mpr ⟨ltN (by dsimp only; omega), ?_⟩))
    exact hq _ _ _ _ _ _ _ _ Fz hm rfl rfl N9 O9 L9 pz fun h' hh => ⟨⟨_, _, _, _, _, _, _, ⟨at_led hh 1 rfl, rfl, rfl, at_led hh 2 rfl⟩, by k_get, by k_get, by k_get, by k_get, ⟨_, _, _, _, _, ⟨at_led hh 15 rfl, rfl, rfl, at_led hh 16 rfl⟩, by k_get, ⟨_, at_led hh 20 rfl, rfl, _, rfl⟩, hrow h' fun p hp => hh p (List.mem_append_right _ (.tail _ hp)), by omega⟩, ⟨_, _, _, _, ⟨at_led hh 6 rfl, rfl, rfl, at_led hh 7 rfl⟩, by k_get, by k_get, ⟨_, _, _, _, ⟨at_led hh 12 rfl, rfl, rfl, at_led hh 13 rfl⟩, by k_get, by k_get, TabI.of (c := 0) (keys := []) (kvs := []) (by assumption) (at_led hh 14 rfl) (by assumption) ConstV.nil⟩⟩, ⟨_, _, _, _, ⟨at_led hh 17 rfl, rfl, rfl, at_led hh 18 rfl⟩, by k_get⟩⟩, hh _ (List.mem_append_right _ (.head _))⟩
end
end
section
theorem set_led {prog : Program} {w : World} {A : Around} {E : Value → Shared → Prop} {s : Shared} {h₀ : Heap} {L D n : Nat} {m : Str → Option Value} {news : List (Addr × Obj)} {vs : List Value} {ns : List Int} {Q : Value → Shared → Prop}
    (hh : A.handled = none) (F : Fr h₀ L s.heap m) (N : News h₀ L s.heap news) (hm : (D, listOf vs.toArray n) ∈ news) (hv : IntsAre vs ns) (hr : ∀ n ∈ ns, 0 ≤ n ∧ n < 6) (hz : ns.length ≤ 3)
    (h : ∀ d h' tk P es ep, Fr h₀ L h' m → News h₀ L h' ((d, setObj es ep (tab P (ledOf w))) :: news) → (∀ q ∈ news, q.1 < d) → P ∈ subs → EsIs es.toList P → Q (.ref d) { s with heap := h', toks := tk }) :
    wpAny (model prog w) A (call (.type "set") [.ref D]) Q E s := by
  refine call_set_exact hh (N _ hm).1 hv hr (by rw [hv.length]; exact hz) fun h' tk P es ep ho hP hes hk => ?_
  refine h _ h' tk P es ep (F.keeps hk) (fun p hp => ?_) (fun p hp => Heap.lt_size (N p hp).1) hP hes
  rcases List.mem_cons.mp hp with rfl | hp
  · exact ⟨ho, Nat.ne_of_gt F.ns.lt, next_is_new F⟩
  · exact ⟨hk _ _ (N p hp).1, (N p hp).2⟩
theorem sorted_setled {prog : Program} {w : World} {A : Around} {E : Value → Shared → Prop} {s : Shared} {h₀ : Heap} {L a : Nat} {m : Str → Option Value} {news : List (Addr × Obj)} {es : Array (Int × Value)} {ep : Nat} {P : List Nat} {Q : Value → Shared → Prop} (hh : A.handled = none) (F : Fr h₀ L s.heap m) (N : News h₀ L s.heap news) (ho : (a, setObj es ep (tab P (ledOf w))) ∈ news) (hP : P ∈ subs) (hes : EsIs es.toList P)
    (h : ∀ D h' tk vs ns c, Fr h₀ L h' m → News h₀ L h' ((D, listOf (List.toArray vs) c) :: news) → (∀ q ∈ news, q.1 < D) → IntsAre vs ns → ns.length ≤ 3 → Q (.ref D) { s with heap := h', toks := tk }) :
    wpAny (model prog w) A (call (.builtin "sorted") [.ref a]) Q E s := sorted_set hh F N (N _ ho).1 hP hes h
/-- one way: the tests that spell one set -/
def WayIn (prog : Program) (w : World) (fz : List (Addr × Obj)) (v : Value) (ns : List Int) : Prop :=
  ∃ a n ws Ss, v = .ref a ∧ (a, listOf (List.toArray ws) n) ∈ fz ∧ 3 ≤ ws.length ∧ ws.length ≤ 4 ∧ (∀ S ∈ Ss, ∀ g : Int, 0 ≤ g → g < 6 → S g = decide (g ∈ ns)) ∧ Frz fz (fun h => TestsAre prog w h ws Ss)
theorem WayIn.mono {prog : Program} {w : World} {fz fz' : List (Addr × Obj)} {v : Value} {ns : List Int} (x : WayIn prog w fz v ns) (k : ∀ p ∈ fz, p ∈ fz') : WayIn prog w fz' v ns :=
  let ⟨a, n, ws, Ss, e, m, a1, a2, a3, a4⟩ := x; ⟨a, n, ws, Ss, e, k _ m, a1, a2, a3, a4.mono k⟩
inductive WaysIn (prog : Program) (w : World) (fz : List (Addr × Obj)) : List Value → List (List Int) → Prop
  | nil : WaysIn prog w fz [] []
  | cons {v : Value} {ns : List Int} {vs : List Value} {nss : List (List Int)} : WayIn prog w fz v ns → WaysIn prog w fz vs nss → WaysIn prog w fz (v :: vs) (ns :: nss)
theorem WaysIn.mono {prog : Program} {w : World} {fz fz' : List (Addr × Obj)} {vs : List Value} {nss : List (List Int)} (x : WaysIn prog w fz vs nss) (k : ∀ p ∈ fz, p ∈ fz') : WaysIn prog w fz' vs nss := by
  induction x with
  | nil => exact .nil
  | cons a _ ih => exact .cons (a.mono k) ih
theorem WaysIn.snoc {prog : Program} {w : World} {fz : List (Addr × Obj)} {v : Value} {ns : List Int} {vs : List Value} {nss : List (List Int)} (x : WaysIn prog w fz vs nss) (y : WayIn prog w fz v ns) : WaysIn prog w fz (vs ++ [v]) (nss ++ [ns]) := by
  induction x with
  | nil => exact .cons y .nil
  | cons a _ ih => exact .cons a ih
theorem WaysIn.length {prog : Program} {w : World} {fz : List (Addr × Obj)} {vs : List Value} {nss : List (List Int)} (x : WaysIn prog w fz vs nss) : vs.length = nss.length := by
  induction x with
  | nil => rfl
  | cons _ _ ih => simp [ih]
theorem WaysIn.get {prog : Program} {w : World} {fz : List (Addr × Obj)} {vs : List Value} {nss : List (List Int)} (x : WaysIn prog w fz vs nss) : ∀ {i : Nat} {v : Value}, vs[i]? = some v → ∃ ns, nss[i]? = some ns ∧ WayIn prog w fz v ns := by
  induction x with
  | nil => intro i v e; cases e
  | cons a _ ih =>
    intro i v e
    cases i with
    | zero => cases e; exact ⟨_, rfl, a⟩
    | succ i => exact ih e
/-- tests that tell what the sets tell -/
def SetsAre (Ss : List (Int → Bool)) (nss : List (List Int)) : Prop := Ss.length = nss.length ∧ ∀ (j : Nat) S ns, Ss[j]? = some S → nss[j]? = some ns → ∀ g : Int, 0 ≤ g → g < 6 → S g = decide (g ∈ ns)
theorem SetsAre.snoc {Ss : List (Int → Bool)} {nss : List (List Int)} {S : Int → Bool} {ns : List Int} (x : SetsAre Ss nss) (y : ∀ g : Int, 0 ≤ g → g < 6 → S g = decide (g ∈ ns)) : SetsAre (Ss ++ [S]) (nss ++ [ns]) := by
  refine ⟨by simp [x.1], fun j S' ns' e e' => ?_⟩
  by_cases hj : j < Ss.length
  · rw [List.getElem?_append_left hj] at e
    rw [List.getElem?_append_left (by rw [← x.1]; exact hj)] at e'
    exact x.2 j S' ns' e e'
  · have hj' : j = Ss.length := by
      have := (List.getElem?_eq_some_iff.mp e).1
      simp at this; omega
    subst hj'
    simp at e
    rw [x.1] at e'
    simp at e'
    subst e e'
    exact y
theorem SetsAre.same {Ss Ss' : List (Int → Bool)} {nss : List (List Int)} (x : SetsAre Ss nss) (y : SetsAre Ss' nss) {g : Int} (h0 : 0 ≤ g) (h6 : g < 6) : Ss.map (· g) = Ss'.map (· g) := by
  apply List.ext_getElem
  · simp [x.1, y.1]
  · intro j h1 h2
    simp only [List.length_map] at h1 h2
    have h3 : j < nss.length := by rw [← x.1]; exact h1
    rw [List.getElem_map, List.getElem_map, x.2 j _ _ (List.getElem?_eq_getElem h1) (List.getElem?_eq_getElem h3) g h0 h6, y.2 j _ _ (List.getElem?_eq_getElem h2) (List.getElem?_eq_getElem h3) g h0 h6]
theorem TestsAre.snoc {prog : Program} {w : World} {h : Heap} {vs : List Value} {Ss : List (Int → Bool)} {v : Value} {S : Int → Bool} (x : TestsAre prog w h vs Ss) (y : TestIs prog w h v S) : TestsAre prog w h (vs ++ [v]) (Ss ++ [S]) := by
  induction x with
  | nil => exact .cons y .nil
  | cons a _ ih => exact .cons a ih
theorem spelled_use {prog : Program} {w : World} {p : Program} {loose : List Str} {mean : ExcName → Option Value} {mg mb : Str → Option Value} {dp un : Nat} {gd : Option (List Code)} {cn : Str} {cs : Scope} {a : Addr} {ccd : Value} {cl : List (Str × Addr)} {outer : List Env} {A₀ : Around} {base h₀ : Heap} {L : Addr} {m : Str → Option Value} {s : Shared}
    {x1 x2 x3 x4 x5 x6 la ln : Nat} {y1 y2 y3 y4 y5 y6 : Obj} {fz : List (Addr × Obj)} {vs : List Value} {ns : List Int} {Q E : Value → Shared → Prop}
    (B : Below A₀ base outer h₀) (F : Fr h₀ L s.heap m) (X : (HK w.params).In h₀) (N : News h₀ L s.heap ((x1, y1) :: (x2, y2) :: (x3, y3) :: (x4, y4) :: (x5, y5) :: (x6, y6) :: fz)) (T : Top p loose mean mg mb h₀) (hk : cs.kind = .function) (hd : dp + 6 < recursionLimit) (hu : un + 24 < cLine)
    (hoff : OwnOff fz [x1, x2, x3, x4, x5, x6]) (hl : (la, listOf (List.toArray vs) ln) ∈ fz) (hi : IntsAre vs ns) (hz : ns.length ≤ 3)
    (ret : ∀ a ws n Ss fz' h' tk', Fr h₀ L h' m → News h₀ L h' ((x1, y1) :: (x2, y2) :: (x3, y3) :: (x4, y4) :: (x5, y5) :: (x6, y6) :: fz') → OwnOff fz' [x1, x2, x3, x4, x5, x6] → (∀ p ∈ fz, p ∈ fz') → (a, listOf (List.toArray ws) n) ∈ fz' → 3 ≤ ws.length → ws.length ≤ 4 → (∀ S ∈ Ss, ∀ g : Int, 0 ≤ g → g < 6 → S g = decide (g ∈ ns)) → Frz fz' (fun h => TestsAre prog w h ws Ss) → Q (.ref a) { s with heap := h', toks := tk' }) :
    wpAny (model prog w) (ktrTop dp un gd cn cs L a ccd cl outer) (call (.ref 392) [.ref la]) Q E s := by
  have hla := (N (la, listOf (List.toArray vs) ln) (.tail _ (.tail _ (.tail _ (.tail _ (.tail _ (.tail _ hl))))))).1
  refine makes_use (spelled_makes hla hi (by omega)) B F X N T hk hd hu fun v h' tk' nw F' N' x q r => ?_
  obtain ⟨a, n, ws, Ss, rfl, hm, w1, w2, w3, w4⟩ := r
  refine ret a ws n Ss (fz ++ nw) h' tk' F' N' (fun p hp b hb => ?_) (fun p hp => List.mem_append_left _ hp) (List.mem_append_right _ hm) w1 w2 w3 fun h hh => w4 h fun p hp => hh p (List.mem_append_right _ hp)
  rcases List.mem_append.mp hp with hp | hp
  · exact hoff p hp b hb
  · rintro rfl
    have hn := q p hp
    simp only [List.mem_cons, List.not_mem_nil, or_false] at hb
    have hb' : ∃ o, (p.1, o) ∈ ((x1, y1) :: (x2, y2) :: (x3, y3) :: (x4, y4) :: (x5, y5) :: (x6, y6) :: fz) := by
      rcases hb with e | e | e | e | e | e
      · exact ⟨y1, by rw [e]; exact .head _⟩
      · exact ⟨y2, by rw [e]; exact .tail _ (.head _)⟩
      · exact ⟨y3, by rw [e]; exact .tail _ (.tail _ (.head _))⟩
      · exact ⟨y4, by rw [e]; exact .tail _ (.tail _ (.tail _ (.head _)))⟩
      · exact ⟨y5, by rw [e]; exact .tail _ (.tail _ (.tail _ (.tail _ (.head _))))⟩
      · exact ⟨y6, by rw [e]; exact .tail _ (.tail _ (.tail _ (.tail _ (.tail _ (.head _)))))⟩
    obtain ⟨o, ho⟩ := hb'
    have := (N _ ho).1
    rw [hn] at this; cases this
theorem For_stopT {prog : Program} {w : World} {A : Around} {E : Value → Shared → Prop} {s : Shared} {h₀ : Heap} {env : Env} {target : PySem.Expr} {body : List Stmt} {Q : Flow → Shared → Prop} {m : Str → Option Value} {pos : Pos} {iter : PySem.Expr} (_F : Fr h₀ env.locals s.heap m)
    (h : wpAny (model prog w) A (eval iter env) (fun xv s₁ => Stop (wpAny (model prog w) A (pyIter xv) (fun it s₂ => LoopAtT prog w A h₀ env target body Q E it s₂) E s₁)) E s)
    (hs : ∀ x, foldedSetIterable iter env x = pure x) (hE : PassesOwn (model prog w) A env E) :
    wpAny (model prog w) A (exec (.For target iter body [] pos) env) Q E s := For_invT h₀ h hs hE
theorem item_last {prog : Program} {w : World} {A : Around} {E : Value → Shared → Prop} {s : Shared} {h₀ : Heap} {L D : Addr} {news : List (Addr × Obj)} {v : Value} {vs : List Value} {n : Nat} {u : Tok} {value slice : PySem.Expr} {Q : Value → Shared → Prop} (N : News h₀ L s.heap news) (hm : (D, listOf (vs ++ [v]).toArray n) ∈ news) (h : Q v s)
    (hs : subscripted slice false (.ref D) (.int (-1) u) = operate [.ref D, .int (-1) u] (getItem (.ref D) (.int (-1) u)) := by with_unfolding_all rfl) :
    wpAny (model prog w) A (subscriptTail value slice (.ref D) (.int (-1) u)) Q E s :=
  tail_any ⟨_, (N _ hm).1, rfl⟩ slot_list_getitem.lookup (wpAny_getItem_list_neg ⟨_, (N _ hm).1, rfl, n, rfl⟩ (by decide) (by simp; omega) (by decide) (by
    have : (-1 + (((vs ++ [v]).toArray.size : Nat) : Int)).toNat = vs.length := by simp; omega
    rw [this]; simp) h) hs
theorem tests_frz {prog : Program} {w : World} {fz : List (Addr × Obj)} {ws : List Value} {Ss : List (Int → Bool)} {j : Nat} {v : Value} {S : Int → Bool} (x : Frz fz (fun h => TestsAre prog w h ws Ss)) (hv : ws[j]? = some v) (e : Ss.drop j = S :: Ss.drop (j + 1)) : Frz fz (fun h => TestIs prog w h v S) := fun h hh => by
  obtain ⟨S', e', t⟩ := (x h hh).get hv
  rw [e] at e'
  rw [(List.cons.inj e').1]
  exact t
def memB (ns : List Int) (i : Nat) : List Bool := (List.range i).map fun j : Nat => decide ((j : Int) ∈ ns)
theorem memB_succ (ns : List Int) (i : Nat) : (memB ns (i + 1)).map Value.bool = (memB ns i).map Value.bool ++ [Value.bool (decide ((i : Int) ∈ ns))] := by
  unfold memB
  rw [List.range_succ]; simp
def wayBody : List Stmt := match lawStmt 6 with | .For _ _ b _ _ => b | _ => []
def wayStmt (i : Nat) : Stmt := wayBody.getD i (.Pass default)
end
section
theorem fresh13 : True := by
  w_top off
  trivial
section
local macro_rules | `(tactic| walk_at "r_prem") => `(tactic| ((case k1 => k_asm); (case k2 => k_asm); (case k3 => k_asm); (case k4 => k_asm); (case k5 => k_asm); (case k6 => first | exact rfl | assumption); (case k7 => exact Nat.le_of_ble_eq_true rfl); (case k8 => exact Nat.le_of_ble_eq_true rfl)))
local macro_rules | `(tactic| walk_at "call ref") => `(tactic| (k_here; k_dflt (refine' take_use ?k1 ?k2 ?k3 ?k4 ?k5 ?k6 ?k7 ?k8 ?U ?p ?m1 ?m2 ?_; walk_at "r_prem"; (case U => k_updF); (case p => assumption); (case m1 => decide); (case m2 => decide)); intro d' u' h' tk' po' F' N' p' lo' hi'; (try dsimp only at N'); (try k_sweep)))
local macro_rules | `(tactic| walk_at "eval ListComp") => `(tactic| (k_here; (rename Fr _ _ _ _ => lF'); k_dflt (refine' ListComp_JF lF' ?hclos ?hcell ?hkind ?hnames ?hx ?_ ?hs; (case hclos => with_unfolding_all rfl); (case hcell => decide); (case hkind => with_unfolding_all rfl); (case hnames => decide); (case hx => with_unfolding_all rfl); (case hs => intro _; with_unfolding_all rfl)); (try k_fold)))
local macro_rules | `(tactic| walk_at "eval Name") => `(tactic| (k_here; k_inBlock; k_dflt (refine' ldC_loc ?n ?c ?N ?m ?v ?_ ?k ?x ?d; (case k => rfl); (case x => rfl); (case n => assumption); (case c => assumption); (case N => k_asm); (case m => k_mem); (case v => assumption); (case d => decide))))
local macro_rules | `(tactic| walk_at "eval Name") => `(tactic| (k_here; k_inBlock; k_dflt (refine' ldC_cell ?N ?c ?m ?o ?_ ?k ?x ?d; (case k => rfl); (case x => rfl); (case N => k_asm); (case c => rfl); (case m => k_mem); (case o => assumption); (case d => decide))))
local macro_rules | `(tactic| walk_at "call type:set") => `(tactic| (k_here; k_dflt (refine' set_led rfl ?F ?N ?m ?i ?r ?z ?_; (case F => k_asm); (case N => k_asm); (case m => k_mem); (case i => assumption); (case r => assumption); (case z => assumption)); intro d' h' tk' P' es' ep' F' N' l1 hP' hE'; (try k_lt l1); (try k_sweep)))
local macro_rules | `(tactic| walk_at "call builtin:sorted") => `(tactic| (k_here; k_dflt (refine' sorted_setled rfl ?F ?N ?m ?P ?E ?_; (case F => k_asm); (case N => k_asm); (case m => k_mem); (case P => assumption); (case E => assumption)); intro D' h' tk' vs' ns' c' F' N' l1 hi' hz'; (try k_lt l1); (try k_sweep)))
def drawJ (pre : List (Addr × Obj)) (pa : Addr) (post : List (Addr × Obj)) (i : Nat) (ys : List Value) (nx : List (Addr × Obj)) : Prop :=
  ∃ po xs, nx = pre ++ (pa, po) :: post ∧ PoolObj po ∧ IntsAre ys xs ∧ (∀ x ∈ xs, 0 ≤ x ∧ x < 6) ∧ xs.length = i
theorem draw_turn {h h' : Heap} {L D C I' I wa pa i tk : Nat} {m : Str → Option Value} {dl oc it' it lw po po' : Obj} {rest : List (Addr × Obj)} {ys : List Value} {xs : List Int} {d : Int} {u : Tok} {s₁ : Shared}
    (F : Fr h L h' m) (N : News h L h' ((D, dl) :: (C, oc) :: (I', it') :: (I, it) :: (wa, lw) :: (pa, po') :: rest)) (ho : ∀ p ∈ (I, it) :: (wa, lw) :: (pa, po) :: rest, p.1 ≠ I' ∧ p.1 ≠ C ∧ p.1 ≠ D) (hpo : PoolObj po') (hxs : IntsAre ys xs) (hr : ∀ x ∈ xs, 0 ≤ x ∧ x < 6) (hlen : xs.length = i) (d0 : 0 ≤ d) (d6 : d < 6) :
    CompTurned h L m [(D, dl), (C, oc), (I', it')] (fun b => b ≠ I' ∧ b ≠ C ∧ b ≠ D) (drawJ [(I, it), (wa, lw)] pa rest (i + 1) (ys ++ [Value.int d u])) s₁ { s₁ with heap := h', toks := tk } := by
  refine ⟨h', tk, (I, it) :: (wa, lw) :: (pa, po') :: rest, rfl, F, N, fun p hp => ?_, po', xs ++ [d], rfl, hpo, ints_snoc hxs, fun x hx => ?_, by simp [hlen]⟩
  · rcases List.mem_cons.mp hp with rfl | hp
    · exact ho (I, it) (.head _)
    · rcases List.mem_cons.mp hp with rfl | hp
      · exact ho (wa, lw) (.tail _ (.head _))
      · rcases List.mem_cons.mp hp with rfl | hp
        · exact ho (pa, po) (.tail _ (.tail _ (.head _)))
        · exact ho p (.tail _ (.tail _ (.tail _ hp)))
  · rcases List.mem_append.mp hx with hx | hx
    · exact hr x hx
    · rw [List.mem_singleton.mp hx]; exact ⟨d0, d6⟩
theorem own_cons6 {fz : List (Addr × Obj)} {a b x1 x2 x3 x4 x5 x6 d : Nat} {o : Obj} (hfz : OwnOff fz [x1, x2, x3, x4, x5, x6]) (l : a < d ∧ b < d ∧ x1 < d ∧ x2 < d ∧ x3 < d ∧ x4 < d ∧ x5 < d ∧ x6 < d ∧ AllLt d fz) : OwnOff ((d, o) :: fz) [x1, x2, x3, x4, x5, x6] := by
  intro p hp b hb
  rcases List.mem_cons.mp hp with rfl | hp
  · simp only [List.mem_cons, List.not_mem_nil, or_false] at hb
    rcases hb with rfl | rfl | rfl | rfl | rfl | rfl <;> (refine neN ?_; dsimp only; omega)
  · exact hfz p hp b hb
theorem led_perm6 {h h' : Heap} {L la d D x1 x2 x3 x4 x5 x6 : Nat} {lo so dl y1 y2 y3 y4 y5 y6 : Obj} {fz : List (Addr × Obj)} (N : News h L h' ((la, lo) :: (d, so) :: (D, dl) :: (x1, y1) :: (x2, y2) :: (x3, y3) :: (x4, y4) :: (x5, y5) :: (x6, y6) :: fz)) :
    News h L h' ((x1, y1) :: (x2, y2) :: (x3, y3) :: (x4, y4) :: (x5, y5) :: (x6, y6) :: (la, lo) :: fz) := fun p hp => N p (by
  simp only [List.mem_cons] at hp ⊢
  rcases hp with e | e | e | e | e | e | e | e <;> simp [e])
theorem law_D1 {prog : Program} {w : World} {p : Program} {loose : List Str} {mean : ExcName → Option Value} {mg mb : Str → Option Value} {h : Heap} {fa : Addr} {I wa pa : Nat} {cd : Value} {it lw o1 o2 o3 po : Obj} {v2 : Option Value} {c1 c2 c3 : Nat} {s : Shared} {m : Str → Option Value} {Q : Flow → Shared → Prop} {rest : List Stmt} {fz : List (Addr × Obj)}
    (KX : (HK w.params).In h) (T : Top p loose mean mg mb h) (K0 : Below callerA h [] h) (F : Fr h h.objs.size s.heap m) (hc1 : c1 = h.objs.size + 1 + 1 + 1) (hc2 : c2 = h.objs.size + 1 + 1) (hc3 : c3 = h.objs.size + 1)
    (N : News h h.objs.size s.heap ((I, it) :: (wa, lw) :: (pa, po) :: (c1, o1) :: (c2, o2) :: (c3, o3) :: fz)) (hfz : OwnOff fz [I, wa, pa, c1, c2, c3]) (l0 : wa < I) (l1 : pa < wa) (l2 : c1 < pa) (d2 : o2.data = .cell v2) (d3 : o3.data = .cell (some (.ref pa))) (hp : PoolObj po)
    (hq : ∀ h' tk' po' o2' la vs ns n, Fr h h.objs.size h' m → News h h.objs.size h' ((I, it) :: (wa, lw) :: (pa, po') :: (c1, o1) :: (c2, o2') :: (c3, o3) :: (la, listOf (List.toArray vs) n) :: fz) → OwnOff ((la, listOf (List.toArray vs) n) :: fz) [I, wa, pa, c1, c2, c3] → o2'.data = .cell (some (.ref la)) → PoolObj po' → IntsAre vs ns → ns.length ≤ 3 →
      wpAny (model prog w) (callerA.deeper (envOfC "law" lawDef.2 h.objs.size fa cd)) (execs rest (envOfC "law" lawDef.2 h.objs.size fa cd)) Q (fun _ _ => False) { s with heap := h', toks := tk' }) :
    wpAny (model prog w) (callerA.deeper (envOfC "law" lawDef.2 h.objs.size fa cd)) (execs (wayStmt 0 :: rest) (envOfC "law" lawDef.2 h.objs.size fa cd)) Q (fun _ _ => False) s := by
  show wpAny _ (Around.deeper _ (envOfC _ ⟨_, _, _, _, _⟩ _ _ _)) (execs (.Assign _ _ _ :: rest) (envOfC _ ⟨_, _, _, _, _⟩ _ _ _)) _ _ _
  subst hc1 hc2 hc3
  try k_fold
  k_steps
  rename Fr _ _ _ _ => Fq
  rename News _ _ _ _ => Nq
  rename IsRange _ _ _ _ _ _ _ _ => Rq
  rename PoolObj _ => hpo
  rename (_ < (3 : Int)) => d8
  rename ((0 : Int) ≤ _) => d0
  clear hp
  have rs := range_one d0 (Int.lt_trans d8 (by decide))
  refine comp_rangeJ (drawJ [(I, it), (wa, lw)] pa ((h.objs.size + 1 + 1 + 1, o1) :: (h.objs.size + 1 + 1, o2) :: (h.objs.size + 1, o3) :: fz)) rfl Rq rs.1 rs.2 (by omega) Fq Nq ⟨_, [], rfl, hpo, .nil, (fun _ hx => nomatch hx), rfl⟩ ?_ ?_
  · rintro I' it' C D i t ys k oc m₁ nx h₂ tk₂ lI lC lD lL hin ⟨po, xs, rfl, hpo, hxs, hr, hlen⟩ ho F₂ N₂ hn₂ hm₂
    have hC₂ := (N₂ _ (.tail _ (.head _))).1
    dsimp only [List.cons_append, List.nil_append] at N₂ ho
    k_lt lI
    refine compTests_nil ?_
    k_fold
    k_steps
    rename Fr _ _ _ _ => Fz
    rename News _ _ _ _ => Nz
    rename PoolObj _ => pz
    exact draw_turn Fz Nz ho pz hxs hr hlen (by assumption) (by assumption)
  · rintro D h₂ tk₂ ys k nx lD F₂ N₂ ho ⟨po, xs, rfl, hpo, hxs, hr, hlen⟩
    dsimp only [List.cons_append, List.nil_append] at N₂ ho
    have hz3 : xs.length ≤ 3 := by omega
    k_lt lD
    k_steps
    rename Fr _ _ _ _ => Fz
    rename News _ _ _ _ => Nz
    rename (_ < _ ∧ _) => lz
    rename IntsAre _ _ => hi9
    exact hq _ _ _ _ _ _ _ _ Fz (led_perm6 Nz) (own_cons6 hfz lz) (by assumption) hpo hi9 (by assumption)
end
end
section
theorem fresh14 : True := by
  w_top off
  trivial
section
local macro_rules | `(tactic| walk_at "r_prem") => `(tactic| ((case k1 => k_asm); (case k2 => k_asm); (case k3 => k_asm); (case k4 => k_asm); (case k5 => k_asm); (case k6 => first | exact rfl | assumption); (case k7 => exact Nat.le_of_ble_eq_true rfl); (case k8 => exact Nat.le_of_ble_eq_true rfl)))
local macro_rules | `(tactic| walk_at "call ref") => `(tactic| (k_here; k_dflt (refine' spelled_use ?k1 ?k2 ?k3 ?k4 ?k5 ?k6 ?k7 ?k8 ?o ?l ?i ?z ?_; walk_at "r_prem"; (case o => assumption); (case l => exact List.Mem.head _); (case i => assumption); (case z => assumption)); intro a' ws' n' Ss' fz' h' tk' F' N' o' s' b' w1' w2' w3' w4'; (try dsimp only at N'); (try k_sweep)))
theorem law_D2 {prog : Program} {w : World} {p : Program} {loose : List Str} {mean : ExcName → Option Value} {mg mb : Str → Option Value} {h : Heap} {fa : Addr} {I wa pa la n nw : Nat} {cd : Value} {it o1 o2 o3 po : Obj} {c1 c2 c3 : Nat} {s : Shared} {m : Str → Option Value} {Q : Flow → Shared → Prop} {rest : List Stmt} {fz : List (Addr × Obj)} {vs wvals : List Value} {ns : List Int}
    (KX : (HK w.params).In h) (T : Top p loose mean mg mb h) (K0 : Below callerA h [] h) (F : Fr h h.objs.size s.heap m) (hw : m (Str.ofString "ways") = some (.ref wa)) (hc1 : c1 = h.objs.size + 1 + 1 + 1) (hc2 : c2 = h.objs.size + 1 + 1) (hc3 : c3 = h.objs.size + 1)
    (N : News h h.objs.size s.heap ((I, it) :: (wa, listOf (List.toArray wvals) nw) :: (pa, po) :: (c1, o1) :: (c2, o2) :: (c3, o3) :: (la, listOf (List.toArray vs) n) :: fz)) (hfz : OwnOff ((la, listOf (List.toArray vs) n) :: fz) [I, wa, pa, c1, c2, c3]) (l0 : wa < I) (l1 : pa < wa) (l2 : c1 < pa) (d2 : o2.data = .cell (some (.ref la))) (hi : IntsAre vs ns) (hz : ns.length ≤ 3) (hwz : wvals.length ≤ 8)
    (hq : ∀ h' tk' a fz' n' ws k Ss, Fr h h.objs.size h' m → News h h.objs.size h' ((I, it) :: (wa, listOf (List.toArray (wvals ++ [Value.ref a])) n') :: (pa, po) :: (c1, o1) :: (c2, o2) :: (c3, o3) :: fz') → OwnOff fz' [I, wa, pa, c1, c2, c3] → (∀ p ∈ (la, listOf (List.toArray vs) n) :: fz, p ∈ fz') → (a, listOf (List.toArray ws) k) ∈ fz' → 3 ≤ ws.length → ws.length ≤ 4 → (∀ S ∈ Ss, ∀ g : Int, 0 ≤ g → g < 6 → S g = decide (g ∈ ns)) → Frz fz' (fun h => TestsAre prog w h ws Ss) →
      wpAny (model prog w) (callerA.deeper (envOfC "law" lawDef.2 h.objs.size fa cd)) (execs rest (envOfC "law" lawDef.2 h.objs.size fa cd)) Q (fun _ _ => False) { s with heap := h', toks := tk' }) :
    wpAny (model prog w) (callerA.deeper (envOfC "law" lawDef.2 h.objs.size fa cd)) (execs (wayStmt 1 :: rest) (envOfC "law" lawDef.2 h.objs.size fa cd)) Q (fun _ _ => False) s := by
  show wpAny _ (Around.deeper _ (envOfC _ ⟨_, _, _, _, _⟩ _ _ _)) (execs (.Expr _ _ :: rest) (envOfC _ ⟨_, _, _, _, _⟩ _ _ _)) _ _ _
  subst hc1 hc2 hc3
  try k_fold
  k_steps
  · rename Fr _ _ _ _ => Fz
    rename News _ _ _ _ => Nz
    rw [List.push_toArray] at Nz
    exact hq _ _ _ _ _ _ _ _ Fz Nz (by assumption) (by assumption) (by assumption) (by assumption) (by assumption) (by assumption) (by assumption)
end
end
section
theorem fresh15 : True := by
  w_top off
  trivial
theorem led_drop2 {h₀ h : Heap} {L : Addr} {a b : Addr × Obj} {nx : List (Addr × Obj)} (N : News h₀ L h (a :: b :: nx)) : News h₀ L h nx := fun p hp => N p (.tail _ (.tail _ hp))
theorem off_swap4 {a b c : Addr × Obj} {x I : Addr} {o o' : Obj} {nx : List (Addr × Obj)} (ho : ∀ p ∈ a :: b :: c :: (x, o) :: nx, p.1 ≠ I) : ∀ p ∈ a :: b :: c :: (x, o') :: nx, p.1 ≠ I := by
  simp only [List.forall_mem_cons] at ho ⊢
  exact ho
theorem fz_list {h₀ h : Heap} {L la n : Nat} {vs : List Value} {fz nx : List (Addr × Obj)} (N : News h₀ L h nx) (hm : (la, listOf (List.toArray vs) n) ∈ fz) (k : ∀ p ∈ fz, p ∈ nx) : h.IsList la vs.toArray := ⟨_, (N _ (k _ hm)).1, rfl, _, rfl⟩
section
local macro_rules | `(tactic| walk_at "sub") => `(tactic| (intro p hp; repeat (first | exact hp | refine List.mem_cons_of_mem _ ?_)))
local macro_rules | `(tactic| walk_at "r_prem") => `(tactic| ((case k1 => k_asm); (case k2 => k_asm); (case k3 => k_asm); (case k4 => k_asm); (case k5 => k_asm); (case k6 => first | exact rfl | assumption); (case k7 => exact Nat.le_of_ble_eq_true rfl); (case k8 => exact Nat.le_of_ble_eq_true rfl)))
local macro_rules | `(tactic| walk_at "call ref") => `(tactic| (k_here; k_dflt (refine' reads_use (fits_reads ?c) ?k1 ?k2 ?k3 ?k4 ?k5 ?k6 ?k7 ?k8 ?_; (case c => exact (show Frz _ (fun h => TestIs _ _ h _ _) from by assumption).now (by k_asm) (by walk_at "sub")); walk_at "r_prem"); intro v' h' tk' F' N' x' p'; subst p'; (try k_sweep)))
local macro_rules | `(tactic| walk_at "eval ListComp") => `(tactic| (k_here; (rename Fr _ _ _ _ => lF'); k_dflt (refine' ListComp_JF lF' ?hclos ?hcell ?hkind ?hnames ?hx ?_ ?hs; (case hclos => with_unfolding_all rfl); (case hcell => decide); (case hkind => with_unfolding_all rfl); (case hnames => decide); (case hx => with_unfolding_all rfl); (case hs => intro _; with_unfolding_all rfl)); (try k_fold)))
local macro_rules | `(tactic| walk_at "eval Name") => `(tactic| (k_here; k_inBlock; k_dflt (refine' ldC_loc ?n ?c ?N ?m ?v ?_ ?k ?x ?d; (case k => rfl); (case x => rfl); (case n => assumption); (case c => assumption); (case N => k_asm); (case m => k_mem); (case v => assumption); (case d => decide))))
local macro_rules | `(tactic| walk_at "eval Name") => `(tactic| (k_here; k_inBlock; k_dflt (refine' ldC_cell ?N ?c ?m ?o ?_ ?k ?x ?d; (case k => rfl); (case x => rfl); (case N => k_asm); (case c => rfl); (case m => k_mem); (case o => assumption); (case d => decide))))
local macro_rules | `(tactic| walk_at "compareOp In int ref") => `(tactic| (k_here; k_dflt (refine' in_list_ints ?l ?i ?_; (case l => (refine' fz_list ?lN ?lm ?lk; (case lm => assumption); (case lN => k_asm); (case lk => walk_at "sub"))); (case i => assumption))))
local macro_rules | `(tactic| walk_at "compareOp NotEq ref ref") => `(tactic| (k_here; k_dflt (refine' ne_bools ?a ?b ?x ?y ?u ?_; (case a => exact ⟨_, News.get (by k_asm) (by k_mem), rfl, _, rfl⟩); (case b => exact ⟨_, News.get (by k_asm) (by k_mem), rfl, _, rfl⟩); (case x => exact rfl); (case y => exact rfl); (case u => exact Nat.le_of_ble_eq_true rfl))))
local macro_rules | `(tactic| walk_at "exec For Name Subscript cons nil") => `(tactic| (k_here; (rename Fr _ _ _ _ => lF'); (with_unfolding_all refine' For_stopT lF' ?_ ?k4 ?k5; (case k4 => (intro _; with_unfolding_all rfl)); (case k5 => exact PassesOwn.never); k_whole); k_fold))
local macro_rules | `(tactic| walk_at "subscriptTail") => `(tactic| (k_here; (with_reducible show wpAny _ _ (subscriptTail _ _ (Value.ref _) (Value.int _ _)) _ _ _); k_dflt (refine' item_last ?N ?m ?_ ?s; (case N => k_asm); (case m => k_mem); (case s => with_unfolding_all rfl))))
theorem any_mem {ns : List Int} {k : Int} : (ns.any fun x => x == k) = decide (k ∈ ns) := by rw [Bool.eq_iff_iff]; simp
def boolJ (nx₀ : List (Addr × Obj)) (ns : List Int) (i : Nat) (ys : List Value) (nx : List (Addr × Obj)) : Prop := nx = nx₀ ∧ ys = (memB ns i).map Value.bool
def testJ (m : Str → Option Value) (pre : List (Addr × Obj)) (c1 : Addr) (post : List (Addr × Obj)) (_ : Nat) (m₁ : Str → Option Value) (nx : List (Addr × Obj)) : Prop := m₁ = m ∧ ∃ o1 v1, nx = pre ++ (c1, o1) :: post ∧ o1.data = .cell v1
theorem law_D3 {prog : Program} {w : World} {p : Program} {loose : List Str} {mean : ExcName → Option Value} {mg mb : Str → Option Value} {h : Heap} {fa : Addr} {I wa pa la n nw a : Nat} {cd : Value} {it o1 o2 o3 po : Obj} {v1 : Option Value} {c1 c2 c3 : Nat} {s : Shared} {m : Str → Option Value} {Q : Flow → Shared → Prop} {rest : List Stmt} {fz : List (Addr × Obj)} {vs wvals ws : List Value} {ns : List Int} {k : Nat} {Ss : List (Int → Bool)}
    (KX : (HK w.params).In h) (T : Top p loose mean mg mb h) (K0 : Below callerA h [] h) (F : Fr h h.objs.size s.heap m) (hw : m (Str.ofString "ways") = some (.ref wa)) (hc1 : c1 = h.objs.size + 1 + 1 + 1) (hc2 : c2 = h.objs.size + 1 + 1) (hc3 : c3 = h.objs.size + 1)
    (N : News h h.objs.size s.heap ((I, it) :: (wa, listOf (List.toArray (wvals ++ [Value.ref a])) nw) :: (pa, po) :: (c1, o1) :: (c2, o2) :: (c3, o3) :: fz)) (hfz : OwnOff fz [I, wa, pa, c1, c2, c3]) (l0 : wa < I) (l1 : pa < wa) (l2 : c1 < pa) (d1 : o1.data = .cell v1) (d2 : o2.data = .cell (some (.ref la))) (hla : (la, listOf (List.toArray vs) n) ∈ fz) (hi : IntsAre vs ns) (hz : ns.length ≤ 3)
    (ha : (a, listOf (List.toArray ws) k) ∈ fz) (hS : ∀ S ∈ Ss, ∀ g : Int, 0 ≤ g → g < 6 → S g = decide (g ∈ ns)) (hT : Frz fz (fun h => TestsAre prog w h ws Ss))
    (hq : ∀ h' tk' o1' v1', Fr h h.objs.size h' m → News h h.objs.size h' ((I, it) :: (wa, listOf (List.toArray (wvals ++ [Value.ref a])) nw) :: (pa, po) :: (c1, o1') :: (c2, o2) :: (c3, o3) :: fz) → o1'.data = .cell v1' →
      wpAny (model prog w) (callerA.deeper (envOfC "law" lawDef.2 h.objs.size fa cd)) (execs rest (envOfC "law" lawDef.2 h.objs.size fa cd)) Q (fun _ _ => False) { s with heap := h', toks := tk' }) :
    wpAny (model prog w) (callerA.deeper (envOfC "law" lawDef.2 h.objs.size fa cd)) (execs (wayStmt 2 :: rest) (envOfC "law" lawDef.2 h.objs.size fa cd)) Q (fun _ _ => False) s := by
  show wpAny _ (Around.deeper _ (envOfC _ ⟨_, _, _, _, _⟩ _ _ _)) (execs (.For _ _ (_ :: []) [] _ :: rest) (envOfC _ ⟨_, _, _, _, _⟩ _ _ _)) _ _ _
  subst hc1 hc2 hc3
  try k_fold
  k_steps
  unfold Stop
  rename Fr _ _ _ _ => Fq
  rename News _ _ _ _ => Nq
  refine iter_listT (vs := ws) (lo := listOf (List.toArray ws) k) (testJ m [(I, it), (wa, listOf (List.toArray (wvals ++ [Value.ref a])) nw), (pa, po)] (h.objs.size + 1 + 1 + 1) ((h.objs.size + 1 + 1, o2) :: (h.objs.size + 1, o3) :: fz)) rfl rfl rfl ?_ Fq Nq ⟨rfl, _, _, rfl, d1⟩ ?_ ?_
  · rintro i m₁ nx h' ⟨rfl, o1, v1, rfl, d1⟩ x N'
    exact (N' _ (.tail _ (.tail _ (.tail _ (.tail _ (.tail _ (.tail _ ha))))))).1
  · rintro I' it' i v m₁ nx s₁ hv ⟨rfl, o1, v1, rfl, d1⟩ ho lI F₁ N₁
    dsimp only [List.cons_append, List.nil_append] at N₁ ho
    k_lt lI
    have hT1 := (hT.now N₁ (by walk_at "sub")).get hv
    obtain ⟨S, hS', -⟩ := hT1
    have hTS := tests_frz hT hv hS'
    have hSS := hS S (List.mem_of_mem_drop (i := i) (by rw [hS']; exact .head _))
    k_steps
    rename Fr _ _ _ _ => Fa
    rename News _ _ _ _ => Na
    rename IsRange _ _ _ _ _ _ _ _ => Ra
    refine comp_rangeJ (n := 6) (boolJ _ ns) rfl Ra (by decide) (by decide) (by decide) Fa Na ⟨rfl, rfl⟩ ?_ ?_
    · rintro J jt C D j t ys kk oc m₂ nx h₂ tk₂ lJ lC lD lL hin ⟨rfl, rfl⟩ ho₂ F₂ N₂ hn₂ hm₂
      have hC₂ := (N₂ _ (.tail _ (.head _))).1
      rw [Int.zero_add] at hm₂
      refine compTests_nil ?_
      k_fold
      k_steps
      rename Fr _ _ _ _ => Fz
      rename News _ _ _ _ => Nz
      exact ⟨_, _, _, rfl, Fz, Nz, ho₂, rfl, by rw [memB_succ, hSS (j : Int) (by omega) (by omega)]⟩
    · rintro D h₂ tk₂ ys kk nx lD F₂ N₂ ho₂ ⟨rfl, rfl⟩
      k_lt lD
      k_steps
      rename Fr _ _ _ _ => Fb
      rename News _ _ _ _ => Nb
      rename IsRange _ _ _ _ _ _ _ _ => Rb
      refine comp_rangeJ (n := 6) (boolJ _ ns) rfl Rb (by decide) (by decide) (by decide) Fb Nb ⟨rfl, rfl⟩ ?_ ?_
      · rintro J jt C D j t ys kk oc m₂ nx h₂ tk₂ lJ lC lD lL hin ⟨rfl, rfl⟩ ho₂ F₂ N₂ hn₂ hm₂
        have hC₂ := (N₂ _ (.tail _ (.head _))).1
        rw [Int.zero_add] at hm₂
        refine compTests_nil ?_
        k_fold
        k_steps
        rename Fr _ _ _ _ => Fz
        rename News _ _ _ _ => Nz
        exact ⟨_, _, _, rfl, Fz, Nz, ho₂, rfl, by rw [memB_succ, any_mem]⟩
      · rintro D h₂ tk₂ ys kk nx lD F₂ N₂ ho₂ ⟨rfl, rfl⟩
        k_lt lD
        k_steps
        rename Fr _ _ _ _ => Fz
        rename News _ _ _ _ => Nz
        exact ⟨rfl, _, _, _, _, rfl, Fz, led_drop2 Nz, off_swap4 ho, rfl, _, _, rfl, by assumption⟩
  · rintro m₁ nx h₂ tk₂ ⟨rfl, o1, v1, rfl, d1⟩ F₂ N₂
    dsimp only [List.cons_append, List.nil_append] at N₂
    dsimp only
    k_steps
    exact hq _ _ _ _ F₂ N₂ d1
end
end
section
theorem fresh16 : True := by
  w_top off
  trivial
def waysJ (prog : Program) (w : World) (wa pa c1 c2 c3 : Nat) (o3 : Obj) (P : Heap → Prop) (ia sc : Addr) (i : Nat) (m₁ : Str → Option Value) (nx : List (Addr × Obj)) : Prop :=
  ∃ wvals n nss po o1 v1 o2 v2 fz, nx = (wa, listOf (List.toArray wvals) n) :: (pa, po) :: (c1, o1) :: (c2, o2) :: (c3, o3) :: fz ∧ OwnOff fz [wa, pa, c1, c2, c3] ∧ PoolObj po ∧ o1.data = .cell v1 ∧ o2.data = .cell v2 ∧ Frz fz P ∧ WaysIn prog w fz wvals nss ∧ wvals.length = i ∧
    m₁ (Str.ofString "infos") = some (.ref ia) ∧ m₁ (Str.ofString "scene") = some (.ref sc) ∧ m₁ (Str.ofString "ways") = some (.ref wa)
theorem own_in {fz : List (Addr × Obj)} {I x1 x2 x3 x4 x5 : Nat} {y1 y2 y3 y4 y5 : Obj} (hfz : OwnOff fz [x1, x2, x3, x4, x5]) (ho : ∀ p ∈ (x1, y1) :: (x2, y2) :: (x3, y3) :: (x4, y4) :: (x5, y5) :: fz, p.1 ≠ I) : OwnOff fz [I, x1, x2, x3, x4, x5] := fun p hp b hb => by
  rcases List.mem_cons.mp hb with rfl | hb
  · exact ho p (.tail _ (.tail _ (.tail _ (.tail _ (.tail _ hp)))))
  · exact hfz p hp b hb
theorem own_out {fz : List (Addr × Obj)} {I : Nat} {l : List Addr} (hfz : OwnOff fz (I :: l)) : OwnOff fz l := fun p hp b hb => hfz p hp b (.tail _ hb)
theorem ways_turn {prog : Program} {w : World} {h h' : Heap} {L I wa pa c1 c2 c3 tk n i : Nat} {it o1 o2 o3 po : Obj} {v1 v2 : Option Value} {P : Heap → Prop} {ia sc : Addr} {m : Str → Option Value} {wvals : List Value} {nss : List (List Int)} {fz : List (Addr × Obj)} {s₁ : Shared} {Q : Flow → Shared → Prop}
    (F : Fr h L h' m) (N : News h L h' ((I, it) :: (wa, listOf (List.toArray wvals) n) :: (pa, po) :: (c1, o1) :: (c2, o2) :: (c3, o3) :: fz)) (hfz : OwnOff fz [I, wa, pa, c1, c2, c3]) (l0 : wa < I) (l1 : pa < wa) (l2 : c1 < pa) (l3 : c2 < c1) (l4 : c3 < c2) (hp : PoolObj po) (d1 : o1.data = .cell v1) (d2 : o2.data = .cell v2) (hP : Frz fz P) (hW : WaysIn prog w fz wvals nss) (hl : wvals.length = i + 1)
    (m1 : m (Str.ofString "infos") = some (.ref ia)) (m2 : m (Str.ofString "scene") = some (.ref sc)) (m3 : m (Str.ofString "ways") = some (.ref wa)) : Turned h L I it (waysJ prog w wa pa c1 c2 c3 o3 P ia sc (i + 1)) s₁ Q .next { s₁ with heap := h', toks := tk } := by
  refine ⟨h', tk, m, _, rfl, F, N, fun p hp => ?_, wvals, n, nss, po, o1, v1, o2, v2, fz, rfl, own_out hfz, hp, d1, d2, hP, hW, hl, m1, m2, m3⟩
  simp only [List.mem_cons] at hp
  rcases hp with rfl | rfl | rfl | rfl | rfl | hp
  · exact Nat.ne_of_lt l0
  · exact Nat.ne_of_lt (Nat.lt_trans l1 l0)
  · exact Nat.ne_of_lt (show c1 < I by omega)
  · exact Nat.ne_of_lt (show c2 < I by omega)
  · exact Nat.ne_of_lt (show c3 < I by omega)
  · exact hfz p hp I (.head _)
section
local macro_rules | `(tactic| walk_at "r_prem") => `(tactic| ((case k1 => k_asm); (case k2 => k_asm); (case k3 => k_asm); (case k4 => k_asm); (case k5 => k_asm); (case k6 => first | exact rfl | assumption); (case k7 => exact Nat.le_of_ble_eq_true rfl); (case k8 => exact Nat.le_of_ble_eq_true rfl)))
local macro_rules | `(tactic| walk_at "call ref") => `(tactic| (k_here; k_dflt (refine' take_use ?k1 ?k2 ?k3 ?k4 ?k5 ?k6 ?k7 ?k8 ?U ?p ?m1 ?m2 ?_; walk_at "r_prem"; (case U => k_updF); (case p => assumption); (case m1 => decide); (case m2 => decide)); intro d' u' h' tk' po' F' N' p' lo' hi'; (try dsimp only at N'); (try k_sweep)))
local macro_rules | `(tactic| walk_at "exec For Name Call cons nil") => `(tactic| (k_here; (rename Fr _ _ _ _ => lF'); (with_unfolding_all refine' For_stop lF' ?k1 ?k2 ?_ ?k4 ?k5; (case k1 => exact rfl); (case k2 => exact rfl); (case k4 => (intro _; with_unfolding_all rfl)); (case k5 => exact PassesOwn.never); k_whole); k_fold))
theorem law_D {prog : Program} {w : World} {p : Program} {loose : List Str} {mean : ExcName → Option Value} {mg mb : Str → Option Value} {h : Heap} {fa ia sc : Addr} {wa pa : Nat} {cd : Value} {o1 o2 o3 po : Obj} {v1 v2 : Option Value} {c1 c2 c3 : Nat} {s : Shared} {m : Str → Option Value} {Q : Flow → Shared → Prop} {fz : List (Addr × Obj)} {P : Heap → Prop}
    (KX : (HK w.params).In h) (T : Top p loose mean mg mb h) (K0 : Below callerA h [] h) (F : Fr h h.objs.size s.heap m) (m1 : m (Str.ofString "infos") = some (.ref ia)) (m2 : m (Str.ofString "scene") = some (.ref sc)) (m3 : m (Str.ofString "ways") = some (.ref wa)) (hc1 : c1 = h.objs.size + 1 + 1 + 1) (hc2 : c2 = h.objs.size + 1 + 1) (hc3 : c3 = h.objs.size + 1)
    (N : News h h.objs.size s.heap ((wa, listOf #[] 0) :: (pa, po) :: (c1, o1) :: (c2, o2) :: (c3, o3) :: fz)) (hfz : OwnOff fz [wa, pa, c1, c2, c3]) (l1 : pa < wa) (l2 : c1 < pa) (d1 : o1.data = .cell v1) (d2 : o2.data = .cell v2) (d3 : o3.data = .cell (some (.ref pa))) (hp : PoolObj po) (hP : Frz fz P)
    (hq : ∀ h' tk' m' wvals n nss po' o1' v1' o2' v2' fz', Fr h h.objs.size h' m' → m' (Str.ofString "infos") = some (.ref ia) → m' (Str.ofString "scene") = some (.ref sc) → m' (Str.ofString "ways") = some (.ref wa) → News h h.objs.size h' ((wa, listOf (List.toArray wvals) n) :: (pa, po') :: (c1, o1') :: (c2, o2') :: (c3, o3) :: fz') → OwnOff fz' [wa, pa, c1, c2, c3] → PoolObj po' → o1'.data = .cell v1' → o2'.data = .cell v2' → Frz fz' P → WaysIn prog w fz' wvals nss → 1 ≤ wvals.length → wvals.length ≤ 3 → Q .next { s with heap := h', toks := tk' }) :
    wpAny (model prog w) (callerA.deeper (envOfC "law" lawDef.2 h.objs.size fa cd)) (exec (lawStmt 6) (envOfC "law" lawDef.2 h.objs.size fa cd)) Q (fun _ _ => False) s := by
  show wpAny _ (Around.deeper _ (envOfC _ ⟨_, _, _, _, _⟩ _ _ _)) (exec (.For _ _ (_ :: _ :: _ :: []) [] _) (envOfC _ ⟨_, _, _, _, _⟩ _ _ _)) _ _ _
  subst hc1 hc2 hc3
  k_steps
  unfold Stop
  rename Fr _ _ _ _ => Fq
  rename News _ _ _ _ => Nq
  rename IsRange _ _ _ _ _ _ _ _ => Rq
  rename PoolObj _ => hpo
  rename (_ < (3 : Int)) => d8
  rename ((0 : Int) ≤ _) => d0
  clear hp
  have rs := range_one d0 (Int.lt_trans d8 (by decide))
  refine iter_rangeJ (waysJ prog w wa pa (h.objs.size + 1 + 1 + 1) (h.objs.size + 1 + 1) (h.objs.size + 1) o3 P ia sc) rfl Rq rs.1 rs.2 Fq Nq ⟨[], 0, [], _, _, _, _, _, _, rfl, hfz, hpo, d1, d2, hP, .nil, rfl, m1, m2, m3⟩ ?_ ?_
  · rintro I it i t m₁ nx h₂ tk₂ hin ⟨wvals, n, nss, po, o1, v1, o2, v2, fz, rfl, q1, q2, q3, q4, q5, q6, q7, q8, q9, q10⟩ ho lI F₂ N₂
    have lw : wa < I := lI _ (.head _)
    refine law_D1 (rest := [wayStmt 1, wayStmt 2]) KX T K0 F₂ rfl rfl rfl N₂ (own_in q1 ho) lw l1 l2 q4 d3 q2 ?_
    intro h₃ tk₃ po₃ o₃ la vs ns n₃ F₃ N₃ O₃ e₃ p₃ i₃ z₃
    refine law_D2 (rest := [wayStmt 2]) KX T K0 F₃ q10 rfl rfl rfl N₃ O₃ lw l1 l2 e₃ i₃ z₃ (by omega) ?_
    intro h₄ tk₄ a fz₄ n₄ ws k Ss F₄ N₄ O₄ s₄ a₄ w1 w2 w3 w4
    refine law_D3 (rest := []) KX T K0 F₄ q10 rfl rfl rfl N₄ O₄ lw l1 l2 q3 e₃ (s₄ _ (.head _)) i₃ z₃ a₄ w3 w4 ?_
    intro h₅ tk₅ o₅ v₅ F₅ N₅ d₅
    refine wpAny_execs_nil ?_
    have sub : ∀ p ∈ fz, p ∈ fz₄ := fun p hp => s₄ p (.tail _ hp)
    exact ways_turn F₅ N₅ O₄ lw l1 l2 (Nat.lt_succ_self _) (Nat.lt_succ_self _) p₃ d₅ e₃ (q5.mono sub) ((q6.mono sub).snoc ⟨a, k, ws, Ss, rfl, a₄, w1, w2, w3, w4⟩) (by simp [q7]) q8 q9 q10
  · rintro m₁ nx h₂ tk₂ ⟨wvals, n, nss, po, o1, v1, o2, v2, fz, rfl, q1, q2, q3, q4, q5, q6, q7, q8, q9, q10⟩ F₂ N₂
    exact hq _ _ _ _ _ _ _ _ _ _ _ _ F₂ q8 q9 q10 N₂ q1 q2 q3 q4 q5 q6 (by omega) (by omega)
end
end
section
theorem fresh17 : True := by
  w_top off
  trivial
def pickJ (prog : Program) (w : World) (nx₀ : List (Addr × Obj)) (fz : List (Addr × Obj)) (nss : List (List Int)) (i : Nat) (ys : List Value) (nx : List (Addr × Obj)) : Prop :=
  nx = nx₀ ∧ ∃ Ss, Frz fz (fun h => TestsAre prog w h ys Ss) ∧ SetsAre Ss (nss.take i) ∧ ys.length = i
theorem Frz.snocT {prog : Program} {w : World} {fz : List (Addr × Obj)} {ys : List Value} {Ss : List (Int → Bool)} {v : Value} {S : Int → Bool} (x : Frz fz (fun h => TestsAre prog w h ys Ss)) (y : Frz fz (fun h => TestIs prog w h v S)) : Frz fz (fun h => TestsAre prog w h (ys ++ [v]) (Ss ++ [S])) := fun h hh => (x h hh).snoc (y h hh)
theorem take_snoc {nss : List (List Int)} {i : Nat} {ns : List Int} (e : nss[i]? = some ns) : nss.take (i + 1) = nss.take i ++ [ns] := by
  rw [List.take_add_one, e]; rfl
theorem Assign_ListComp_JF {prog : Program} {w : World} {A : Around} {E : Value → Shared → Prop} {s : Shared} {env : Env} {elt iter : PySem.Expr} {x y : Str} {px py : Pos} {ifs : List PySem.Expr} {scope : Scope} {cl : List (Str × Addr)} {pos spos : Pos} {Q : Flow → Shared → Prop} {h₀ : Heap} {m : Str → Option Value} (_F : Fr h₀ env.locals s.heap m)
    (hsw : swapsWith (.ListComp elt [⟨.Name x px, iter, ifs, 0⟩] scope pos) (some (.Name y py)) spos.line env = pure true)
    (hclos : closureFor scope env = pure cl) (hcell : ∀ z ∈ scope.names, z.2 ≠ .cell) (hkind : scope.kind = .function)
    (hnames : ∀ z ∈ scope.names, z.2 = .local → scope.names.lookup z.1 = some .local) (hx : scope.names.lookup x = some .local)
    (hy : env.kindOf y = some .local) (hp : (env.scope.kind == .class || (env.scope.kind == .module && env.locals != env.globals)) = false)
    (h : wpAny (model prog w) A (eval iter env) (fun xv s₁ => wpAny (model prog w) A (pyIter xv) (fun it s₂ => CompAt prog w A h₀ env.locals env scope cl x ifs elt (fun D m z => if z = y then some (.ref D) else m z) (fun _ s' => Q .next s') it s₂) E s₁) E s)
    (hs : ∀ x, foldedSetIterable iter env x = pure x) :
    wpAny (model prog w) A (exec (.Assign [.Name y py] (.ListComp elt [⟨.Name x px, iter, ifs, 0⟩] scope pos) spos) env) Q E s := Assign_ListComp_J h₀ hsw hclos hcell hkind hnames hx hy hp h hs
/-- picking a test out of a way -/
theorem way_pick {prog : Program} {w : World} {A : Around} {E : Value → Shared → Prop} {s : Shared} {h₀ : Heap} {L a n : Nat} {fz nx : List (Addr × Obj)} {ws : List Value} {Ss : List (Int → Bool)} {k : Int} {u : Tok} {value slice : PySem.Expr} {Q : Value → Shared → Prop} (N : News h₀ L s.heap nx) (hm : (a, listOf (List.toArray ws) n) ∈ fz) (sub : ∀ p ∈ fz, p ∈ nx) (hT : Frz fz (fun h => TestsAre prog w h ws Ss)) (h0 : 0 ≤ k) (h1 : k < ws.length) (hz : ws.length ≤ 4)
    (h : ∀ v S, S ∈ Ss → Frz fz (fun h => TestIs prog w h v S) → Q v s)
    (hs : subscripted slice false (.ref a) (.int k u) = operate [.ref a, .int k u] (getItem (.ref a) (.int k u)) := by with_unfolding_all rfl) :
    wpAny (model prog w) A (subscriptTail value slice (.ref a) (.int k u)) Q E s := by
  have hn : k.toNat < ws.length := by omega
  have hv : ws[k.toNat]? = some ws[k.toNat] := List.getElem?_eq_getElem hn
  obtain ⟨S, hS, -⟩ := (hT.now N sub).get hv
  have hmem : S ∈ Ss := List.mem_of_mem_drop (i := k.toNat) (by rw [hS]; exact .head _)
  exact tail_any ⟨_, (N _ (sub _ hm)).1, rfl⟩ slot_list_getitem.lookup (wpAny_getItem_list ⟨_, (N _ (sub _ hm)).1, rfl, n, rfl⟩ h0 (by omega) (by simp) (h _ S hmem (tests_frz hT hv hS))) hs
section
local macro_rules | `(tactic| walk_at "sub") => `(tactic| (intro p hp; repeat (first | exact hp | refine List.mem_cons_of_mem _ ?_)))
local macro_rules | `(tactic| walk_at "exec Assign cons ListComp") => `(tactic| (k_here; (rename Fr _ _ _ _ => lF'); k_dflt (refine' Assign_ListComp_JF lF' ?hsw ?hclos ?hcell ?hkind ?hnames ?hx ?hy ?hp ?_ ?hs; (case hsw => with_unfolding_all rfl); (case hclos => with_unfolding_all rfl); (case hcell => decide); (case hkind => with_unfolding_all rfl); (case hnames => decide); (case hx => with_unfolding_all rfl); (case hy => with_unfolding_all rfl); (case hp => rfl); (case hs => intro _; with_unfolding_all rfl)); (try k_fold)))
local macro_rules | `(tactic| walk_at "eval Name") => `(tactic| (k_here; k_inBlock; k_dflt (refine' ldC_loc ?n ?c ?N ?m ?v ?_ ?k ?x ?d; (case k => rfl); (case x => rfl); (case n => assumption); (case c => assumption); (case N => k_asm); (case m => k_mem); (case v => assumption); (case d => decide))))
local macro_rules | `(tactic| walk_at "subscriptTail") => `(tactic| (k_here; (with_reducible show wpAny _ _ (subscriptTail _ _ (Value.ref _) (Value.int _ _)) _ _ _); k_dflt (refine' way_pick ?N ?m ?s ?t ?a ?b ?c ?_ ?z; (case m => assumption); (case N => k_asm); (case s => walk_at "sub"); (case t => assumption); (case a => first | decide | assumption); (case b => first | omega | assumption); (case c => assumption); (case z => with_unfolding_all rfl)); intro v' S' m' f'))
theorem law_E {prog : Program} {w : World} {p : Program} {loose : List Str} {mean : ExcName → Option Value} {mg mb : Str → Option Value} {h : Heap} {fa : Addr} {wa n : Nat} {cd : Value} {s : Shared} {m : Str → Option Value} {Q : Flow → Shared → Prop} {rest : List Stmt} {fz : List (Addr × Obj)} {pa c1 c2 c3 : Nat} {po o1 o2 o3 : Obj} {wvals : List Value} {nss : List (List Int)}
    (KX : (HK w.params).In h) (T : Top p loose mean mg mb h) (K0 : Below callerA h [] h) (F : Fr h h.objs.size s.heap m) (m3 : m (Str.ofString "ways") = some (.ref wa))
    (N : News h h.objs.size s.heap ((wa, listOf (List.toArray wvals) n) :: (pa, po) :: (c1, o1) :: (c2, o2) :: (c3, o3) :: fz)) (hW : WaysIn prog w fz wvals nss) (hz : wvals.length ≤ 3)
    (hq : ∀ h' tk' D k ys Ss, Fr h h.objs.size h' (fun y => if y = Str.ofString "plain" then some (.ref D) else m y) → News h h.objs.size h' ((D, listOf (List.toArray ys) k) :: (wa, listOf (List.toArray wvals) n) :: (pa, po) :: (c1, o1) :: (c2, o2) :: (c3, o3) :: fz) → (∀ p ∈ (wa, listOf (List.toArray wvals) n) :: (pa, po) :: (c1, o1) :: (c2, o2) :: (c3, o3) :: fz, p.1 < D) → Frz fz (fun h => TestsAre prog w h ys Ss) → SetsAre Ss nss → ys.length = wvals.length →
      wpAny (model prog w) (callerA.deeper (envOfC "law" lawDef.2 h.objs.size fa cd)) (execs rest (envOfC "law" lawDef.2 h.objs.size fa cd)) Q (fun _ _ => False) { s with heap := h', toks := tk' }) :
    wpAny (model prog w) (callerA.deeper (envOfC "law" lawDef.2 h.objs.size fa cd)) (execs (lawStmt 7 :: rest) (envOfC "law" lawDef.2 h.objs.size fa cd)) Q (fun _ _ => False) s := by
  show wpAny _ (Around.deeper _ (envOfC _ ⟨_, _, _, _, _⟩ _ _ _)) (execs (.Assign _ _ _ :: rest) (envOfC _ ⟨_, _, _, _, _⟩ _ _ _)) _ _ _
  try k_fold
  k_steps
  · rename Fr _ _ _ _ => Fq
    rename News _ _ _ _ => Nq
    refine comp_listJ (pickJ prog w _ fz nss) rfl (lo := listOf (List.toArray wvals) n) rfl rfl (by omega) (fun i ys nx h j _ N => by obtain ⟨rfl, _⟩ := j; exact (N _ (List.Mem.head _)).1) Fq Nq ⟨rfl, [], (fun _ _ => .nil), ⟨rfl, fun _ _ _ e => nomatch e⟩, rfl⟩ ?_ ?_
    · rintro I it C D i v ys k oc m₁ nx h₂ tk₂ l1 lC lD lL hv ⟨rfl, Ss, j1, j2, j3⟩ ho F₂ N₂ hn₂ hm₂
      have hC₂ := (N₂ _ (.tail _ (.head _))).1
      obtain ⟨ns, hns, a, na, ws, Sw, rfl, w0, w1, w2, w3, w4⟩ := hW.get hv
      refine compTests_nil ?_
      k_fold
      k_steps
      rename Fr _ _ _ _ => Fz
      rename News _ _ _ _ => Nz
      rename (_ ∈ Sw) => hSw
      rename Frz _ _ => fS
      exact ⟨_, _, _, rfl, Fz, Nz, ho, rfl, _, j1.snocT fS, by rw [take_snoc hns]; exact j2.snoc (w3 _ hSw), by simp [j3]⟩
    · rintro D h₂ tk₂ ys k nx l1 F₂ N₂ ho ⟨rfl, Ss, j1, j2, j3⟩
      rw [hW.length, List.take_length] at j2
      k_steps
      exact hq _ _ _ _ _ _ F₂ N₂ l1 j1 j2 j3
end
end
section
theorem fresh18 : True := by
  w_top off
  trivial
def turnBody : List Stmt := match lawStmt 8 with | .For _ _ b _ _ => b | _ => []
def turnStmt (i : Nat) : Stmt := turnBody.getD i (.Pass default)
theorem len_mem {prog : Program} {w : World} {A : Around} {E : Value → Shared → Prop} {s : Shared} {h₀ : Heap} {L D n : Nat} {fz nx : List (Addr × Obj)} {vs : List Value} {Q : Value → Shared → Prop} (hm : (D, listOf (List.toArray vs) n) ∈ fz) (N : News h₀ L s.heap nx) (k : ∀ p ∈ fz, p ∈ nx) (hz : vs.length ≤ 8)
    (h : ∀ t, Q (.int vs.length t) { s with toks := s.toks + 1 + 1 }) : wpAny (model prog w) A (call (.builtin "len") [.ref D]) Q E s :=
  len_led N (k _ hm) (by rw [sizeLine_eq]; omega) h
theorem len_frz {prog : Program} {w : World} {A : Around} {E : Value → Shared → Prop} {s : Shared} {h₀ : Heap} {L D n : Nat} {fz nx : List (Addr × Obj)} {vs : List Value} {Q : Value → Shared → Prop} (x : Frz fz (fun h => h.get? D = some (listOf (List.toArray vs) n))) (N : News h₀ L s.heap nx) (k : ∀ p ∈ fz, p ∈ nx) (hz : vs.length ≤ 8)
    (h : ∀ t, Q (.int vs.length t) { s with toks := s.toks + 1 + 1 }) : wpAny (model prog w) A (call (.builtin "len") [.ref D]) Q E s :=
  PyProof.Rows.len_list ⟨_, x.now N k, rfl, n, rfl⟩ (by rw [List.size_toArray]; omega) (by rw [List.size_toArray]; exact h _)
theorem range_len {n : Nat} (h8 : n ≤ 8) : Builtin.Range.small 0 (n : Int) 1 = true ∧ Builtin.Range.rangeSize 0 (n : Int) 1 = (n : Int) := by
  have : n = 0 ∨ n = 1 ∨ n = 2 ∨ n = 3 ∨ n = 4 ∨ n = 5 ∨ n = 6 ∨ n = 7 ∨ n = 8 := by omega
  rcases this with rfl | rfl | rfl | rfl | rfl | rfl | rfl | rfl | rfl <;> decide
def mixJ (prog : Program) (w : World) (I : Addr) (it : Obj) (pa c3 : Addr) (o3 : Obj) (fz : List (Addr × Obj)) (nss : List (List Int)) (i : Nat) (ys : List Value) (nx : List (Addr × Obj)) : Prop :=
  ∃ po Ss, nx = (I, it) :: (pa, po) :: (c3, o3) :: fz ∧ PoolObj po ∧ Frz fz (fun h => TestsAre prog w h ys Ss) ∧ SetsAre Ss (nss.take i) ∧ ys.length = i
theorem mix_turn {prog : Program} {w : World} {h h' : Heap} {L D C I' I pa c3 i tk : Nat} {m : Str → Option Value} {dl oc it' it o3 po po' : Obj} {fz : List (Addr × Obj)} {nss : List (List Int)} {ns : List Int} {ys : List Value} {v : Value} {S : Int → Bool} {Ss : List (Int → Bool)} {s₁ : Shared}
    (F : Fr h L h' m) (N : News h L h' ((D, dl) :: (C, oc) :: (I', it') :: (I, it) :: (pa, po') :: (c3, o3) :: fz)) (ho : ∀ p ∈ (I, it) :: (pa, po) :: (c3, o3) :: fz, p.1 ≠ I' ∧ p.1 ≠ C ∧ p.1 ≠ D) (hpo : PoolObj po') (j1 : Frz fz (fun h => TestsAre prog w h ys Ss)) (j2 : SetsAre Ss (nss.take i)) (j3 : ys.length = i) (hns : nss[i]? = some ns) (fS : Frz fz (fun h => TestIs prog w h v S)) (hS : ∀ g : Int, 0 ≤ g → g < 6 → S g = decide (g ∈ ns)) :
    CompTurned h L m [(D, dl), (C, oc), (I', it')] (fun b => b ≠ I' ∧ b ≠ C ∧ b ≠ D) (mixJ prog w I it pa c3 o3 fz nss (i + 1) (ys ++ [v])) s₁ { s₁ with heap := h', toks := tk } := by
  refine ⟨h', tk, (I, it) :: (pa, po') :: (c3, o3) :: fz, rfl, F, N, ?_, po', _, rfl, hpo, j1.snocT fS, by rw [take_snoc hns]; exact j2.snoc hS, by simp [j3]⟩
  simp only [List.forall_mem_cons] at ho ⊢
  exact ho
theorem led_mid {h₀ h : Heap} {L : Addr} {a b c d : Addr × Obj} {fz : List (Addr × Obj)} (N : News h₀ L h (d :: a :: b :: c :: fz)) : News h₀ L h (a :: b :: c :: d :: fz) := fun p hp => N p (by
  simp only [List.mem_cons] at hp ⊢
  rcases hp with e | e | e | e | e <;> simp [e])
section
local macro_rules | `(tactic| walk_at "sub") => `(tactic| (intro p hp; repeat (first | exact hp | refine List.mem_cons_of_mem _ ?_)))
local macro_rules | `(tactic| walk_at "r_prem") => `(tactic| ((case k1 => k_asm); (case k2 => k_asm); (case k3 => k_asm); (case k4 => k_asm); (case k5 => k_asm); (case k6 => first | exact rfl | assumption); (case k7 => exact Nat.le_of_ble_eq_true rfl); (case k8 => exact Nat.le_of_ble_eq_true rfl)))
local macro_rules | `(tactic| walk_at "call ref") => `(tactic| (k_here; k_dflt (refine' take_use ?k1 ?k2 ?k3 ?k4 ?k5 ?k6 ?k7 ?k8 ?U ?p ?m1 ?m2 ?_; walk_at "r_prem"; (case U => k_updF); (case p => assumption); (case m1 => decide); (case m2 => decide)); intro d' u' h' tk' po' F' N' p' lo' hi'; (try dsimp only at N'); (try k_sweep)))
local macro_rules | `(tactic| walk_at "exec Assign cons ListComp") => `(tactic| (k_here; (rename Fr _ _ _ _ => lF'); k_dflt (refine' Assign_ListComp_JF lF' ?hsw ?hclos ?hcell ?hkind ?hnames ?hx ?hy ?hp ?_ ?hs; (case hsw => with_unfolding_all rfl); (case hclos => with_unfolding_all rfl); (case hcell => decide); (case hkind => with_unfolding_all rfl); (case hnames => decide); (case hx => with_unfolding_all rfl); (case hy => with_unfolding_all rfl); (case hp => rfl); (case hs => intro _; with_unfolding_all rfl)); (try k_fold)))
local macro_rules | `(tactic| walk_at "eval Name") => `(tactic| (k_here; k_inBlock; k_dflt (refine' ldC_loc ?n ?c ?N ?m ?v ?_ ?k ?x ?d; (case k => rfl); (case x => rfl); (case n => assumption); (case c => assumption); (case N => k_asm); (case m => k_mem); (case v => assumption); (case d => decide))))
local macro_rules | `(tactic| walk_at "eval Name") => `(tactic| (k_here; k_inBlock; k_dflt (refine' ldC_cell ?N ?c ?m ?o ?_ ?k ?x ?d; (case k => rfl); (case x => rfl); (case N => k_asm); (case c => rfl); (case m => k_mem); (case o => assumption); (case d => decide))))
local macro_rules | `(tactic| walk_at "call builtin:len") => `(tactic| (k_here; k_dflt (refine' len_mem ?m ?N ?k ?z ?_; (case m => assumption); (case N => k_asm); (case k => walk_at "sub"); (case z => omega)); intro t'))
local macro_rules | `(tactic| walk_at "binaryOp Mod int int") => `(tactic| (k_here; k_dflt (refine' mod_int' ?b ?_; (case b => omega))))
local macro_rules | `(tactic| walk_at "subscriptTail") => `(tactic| (k_here; (with_reducible show wpAny _ _ (subscriptTail _ _ (Value.ref _) (Value.int _ _)) _ _ _); k_dflt (refine' way_pick ?N ?m ?s ?t ?a ?b ?c ?_ ?z; (case m => assumption); (case N => k_asm); (case s => walk_at "sub"); (case t => assumption); (case a => first | assumption | (exact Int.fmod_nonneg_of_pos _ (by omega))); (case b => exact Int.fmod_lt_of_pos _ (by omega)); (case c => assumption); (case z => with_unfolding_all rfl)); intro v' S' m' f'))
theorem law_F1 {prog : Program} {w : World} {p : Program} {loose : List Str} {mean : ExcName → Option Value} {mg mb : Str → Option Value} {h : Heap} {fa wa : Addr} {I pa n : Nat} {cd : Value} {it o3 po : Obj} {c3 : Nat} {s : Shared} {m : Str → Option Value} {Q : Flow → Shared → Prop} {rest : List Stmt} {fz : List (Addr × Obj)} {wvals : List Value} {nss : List (List Int)}
    (KX : (HK w.params).In h) (T : Top p loose mean mg mb h) (K0 : Below callerA h [] h) (F : Fr h h.objs.size s.heap m) (m3 : m (Str.ofString "ways") = some (.ref wa)) (hc3 : c3 = h.objs.size + 1)
    (N : News h h.objs.size s.heap ((I, it) :: (pa, po) :: (c3, o3) :: fz)) (hfz : OwnOff fz [I, pa, c3]) (l0 : pa < I) (l1 : c3 < pa) (d3 : o3.data = .cell (some (.ref pa))) (hp : PoolObj po) (hwa : (wa, listOf (List.toArray wvals) n) ∈ fz) (hW : WaysIn prog w fz wvals nss) (hz : wvals.length ≤ 3)
    (hq : ∀ h' tk' po' D k ys Ss, Fr h h.objs.size h' (fun y => if y = Str.ofString "tests" then some (.ref D) else m y) → News h h.objs.size h' ((I, it) :: (pa, po') :: (c3, o3) :: (D, listOf (List.toArray ys) k) :: fz) → (∀ p ∈ (I, it) :: (pa, po') :: (c3, o3) :: fz, p.1 < D) → PoolObj po' → Frz fz (fun h => TestsAre prog w h ys Ss) → SetsAre Ss nss → ys.length = wvals.length →
      wpAny (model prog w) (callerA.deeper (envOfC "law" lawDef.2 h.objs.size fa cd)) (execs rest (envOfC "law" lawDef.2 h.objs.size fa cd)) Q (fun _ _ => False) { s with heap := h', toks := tk' }) :
    wpAny (model prog w) (callerA.deeper (envOfC "law" lawDef.2 h.objs.size fa cd)) (execs (turnStmt 0 :: rest) (envOfC "law" lawDef.2 h.objs.size fa cd)) Q (fun _ _ => False) s := by
  show wpAny _ (Around.deeper _ (envOfC _ ⟨_, _, _, _, _⟩ _ _ _)) (execs (.Assign _ _ _ :: rest) (envOfC _ ⟨_, _, _, _, _⟩ _ _ _)) _ _ _
  subst hc3
  try k_fold
  k_steps
  · rename Fr _ _ _ _ => Fq
    rename News _ _ _ _ => Nq
    refine comp_listJ (mixJ prog w I it pa (h.objs.size + 1) o3 fz nss) rfl (lo := listOf (List.toArray wvals) n) rfl rfl (by omega) (fun i ys nx h j _ N => by obtain ⟨_, _, rfl, _⟩ := j; exact (N _ (.tail _ (.tail _ (.tail _ hwa)))).1) Fq Nq ⟨_, [], rfl, hp, (fun _ _ => .nil), ⟨rfl, fun _ _ _ e => nomatch e⟩, rfl⟩ ?_ ?_
    · rintro I' it' C D i v ys k oc m₁ nx h₂ tk₂ lI lC lD lL hv ⟨po, Ss, rfl, hpo, j1, j2, j3⟩ ho F₂ N₂ hn₂ hm₂
      have hC₂ := (N₂ _ (.tail _ (.head _))).1
      obtain ⟨ns, hns, a, na, ws, Sw, rfl, w0, w1, w2, w3, w4⟩ := hW.get hv
      k_lt lI
      refine compTests_nil ?_
      k_fold
      k_steps
      rename Fr _ _ _ _ => Fz
      rename News _ _ _ _ => Nz
      rename PoolObj _ => pz
      rename (_ ∈ Sw) => hSw
      rename Frz _ _ => fS
      exact mix_turn Fz Nz ho pz j1 j2 j3 hns fS (w3 _ hSw)
    · rintro D h₂ tk₂ ys k nx lD F₂ N₂ ho ⟨po, Ss, rfl, hpo, j1, j2, j3⟩
      rw [hW.length, List.take_length] at j2
      k_steps
      exact hq _ _ _ _ _ _ _ F₂ (led_mid N₂) (by simp only [List.forall_mem_cons] at lD ⊢; exact lD) hpo j1 j2 j3
end
end
section
theorem fresh19 : True := by
  w_top off
  trivial
def askJ (nx₀ : List (Addr × Obj)) (ia sc : Addr) (pl ta : Addr) (m : Str → Option Value) (_ : Nat) (m₁ : Str → Option Value) (nx : List (Addr × Obj)) : Prop :=
  nx = nx₀ ∧ m₁ (Str.ofString "infos") = some (.ref ia) ∧ m₁ (Str.ofString "scene") = some (.ref sc) ∧ m₁ (Str.ofString "plain") = some (.ref pl) ∧ m₁ (Str.ofString "tests") = some (.ref ta) ∧ m₁ (Str.ofString "ways") = m (Str.ofString "ways")
section
local macro_rules | `(tactic| walk_at "sub") => `(tactic| (intro p hp; repeat (first | exact hp | refine List.mem_cons_of_mem _ ?_)))
local macro_rules | `(tactic| walk_at "r_prem") => `(tactic| ((case k1 => k_asm); (case k2 => k_asm); (case k3 => k_asm); (case k4 => k_asm); (case k5 => k_asm); (case k6 => first | exact rfl | assumption); (case k7 => exact Nat.le_of_ble_eq_true rfl); (case k8 => exact Nat.le_of_ble_eq_true rfl)))
local macro_rules | `(tactic| walk_at "call ref") => `(tactic| (k_here; k_dflt (refine' reads_use (input_reads ?C ?D ?Lt ?ne ?sz ?h0 ?h1) ?k1 ?k2 ?k3 ?k4 ?k5 ?k6 ?k7 ?k8 ?_; (case Lt => (refine' fz_list ?lN ?lm ?lk; (case lm => assumption); (case lN => k_asm); (case lk => walk_at "sub"))); (case D => exact (show Frz _ (fun h => TestsAre _ _ h _ _) from by assumption).now (by k_asm) (by walk_at "sub")); (case C => exact (show Frz _ (fun h => SceneAt _ _ h _ _ _) from by assumption).now (by k_asm) (by walk_at "sub")); (case ne => assumption); (case sz => omega); (case h0 => assumption); (case h1 => assumption); walk_at "r_prem"); intro v' h' tk' F' N' x' p'; (try k_sweep)))
local macro_rules | `(tactic| walk_at "call ref") => `(tactic| (k_here; k_dflt (refine' reads_use (ahead_reads ?C ?D ?Lt) ?k1 ?k2 ?k3 ?k4 ?k5 ?k6 ?k7 ?k8 ?_; (case Lt => (refine' fz_list ?lN ?lm ?lk; (case lm => assumption); (case lN => k_asm); (case lk => walk_at "sub"))); (case D => exact (show Frz _ (fun h => TestsAre _ _ h _ _) from by assumption).now (by k_asm) (by walk_at "sub")); (case C => exact (show Frz _ (fun h => SceneAt _ _ h _ _ _) from by assumption).now (by k_asm) (by walk_at "sub")); walk_at "r_prem"); intro v' h' tk' F' N' x' p'; obtain ⟨u', hv'⟩ := p'; subst hv'; (try k_sweep)))
local macro_rules | `(tactic| walk_at "call ref") => `(tactic| (k_here; k_dflt (refine' reads_use (back_reads ?C ?D ?Lt) ?k1 ?k2 ?k3 ?k4 ?k5 ?k6 ?k7 ?k8 ?_; (case Lt => (refine' fz_list ?lN ?lm ?lk; (case lm => assumption); (case lN => k_asm); (case lk => walk_at "sub"))); (case D => exact (show Frz _ (fun h => TestsAre _ _ h _ _) from by assumption).now (by k_asm) (by walk_at "sub")); (case C => exact (show Frz _ (fun h => SceneAt _ _ h _ _ _) from by assumption).now (by k_asm) (by walk_at "sub")); walk_at "r_prem"); intro v' h' tk' F' N' x' p'; obtain ⟨u', hv'⟩ := p'; subst hv'; (try k_sweep)))
local macro_rules | `(tactic| walk_at "call builtin:len") => `(tactic| (k_here; k_dflt (refine' len_frz ?m ?N ?k ?z ?_; (case m => assumption); (case N => k_asm); (case k => walk_at "sub"); (case z => omega)); intro t'))
local macro_rules | `(tactic| walk_at "compareOp NotEq ref ref") => `(tactic| (k_here; k_dflt (refine' ne_pairs ?a ?b ?e ?f ?u ?_; (case a => exact ⟨_, News.get (by k_asm) (by k_mem), rfl, _, rfl⟩); (case b => exact ⟨_, News.get (by k_asm) (by k_mem), rfl, _, rfl⟩); (case e => assumption); (case f => assumption); (case u => exact Nat.le_of_ble_eq_true rfl))))
local macro_rules | `(tactic| walk_at "exec For Name Call cons nil") => `(tactic| (k_here; (rename Fr _ _ _ _ => lF'); (with_unfolding_all refine' For_stop lF' ?k1 ?k2 ?_ ?k4 ?k5; (case k1 => exact rfl); (case k2 => exact rfl); (case k4 => (intro _; with_unfolding_all rfl)); (case k5 => exact PassesOwn.never); k_whole); k_fold))
theorem law_F2 {prog : Program} {w : World} {p : Program} {loose : List Str} {mean : ExcName → Option Value} {mg mb : Str → Option Value} {h : Heap} {fa ia sc pl ta : Addr} {I n k1 k2 : Nat} {cd : Value} {it : Obj} {s : Shared} {m : Str → Option Value} {Q : Flow → Shared → Prop} {rest : List Stmt} {fz : List (Addr × Obj)} {vals ps ts : List Value} {row : List Cell} {mask : Int} {Sp St : List (Int → Bool)} {nss : List (List Int)}
    (KX : (HK w.params).In h) (T : Top p loose mean mg mb h) (K0 : Below callerA h [] h) (F : Fr h h.objs.size s.heap m) (m1 : m (Str.ofString "infos") = some (.ref ia)) (m2 : m (Str.ofString "scene") = some (.ref sc)) (m3 : m (Str.ofString "plain") = some (.ref pl)) (m4 : m (Str.ofString "tests") = some (.ref ta))
    (N : News h h.objs.size s.heap ((I, it) :: fz)) (hsc : Frz fz (fun h => SceneAt prog w h sc row mask)) (hia : Frz fz (fun h => h.get? ia = some (listOf (List.toArray vals) n))) (hrow : row.length = vals.length) (hz : vals.length ≤ 8) (hg : ∀ c ∈ row, 0 ≤ c.glyph ∧ c.glyph < 6)
    (hpl : (pl, listOf (List.toArray ps) k1) ∈ fz) (hta : (ta, listOf (List.toArray ts) k2) ∈ fz) (hps : Frz fz (fun h => TestsAre prog w h ps Sp)) (hts : Frz fz (fun h => TestsAre prog w h ts St)) (sp : SetsAre Sp nss) (st : SetsAre St nss) (e1 : ps ≠ []) (e2 : ts ≠ []) (z1 : ps.length ≤ 3) (z2 : ts.length ≤ 3)
    (hq : ∀ h' tk' m', Fr h h.objs.size h' m' → News h h.objs.size h' ((I, it) :: fz) → m' (Str.ofString "infos") = some (.ref ia) → m' (Str.ofString "scene") = some (.ref sc) → m' (Str.ofString "plain") = some (.ref pl) → m' (Str.ofString "ways") = m (Str.ofString "ways") →
      wpAny (model prog w) (callerA.deeper (envOfC "law" lawDef.2 h.objs.size fa cd)) (execs rest (envOfC "law" lawDef.2 h.objs.size fa cd)) Q (fun _ _ => False) { s with heap := h', toks := tk' }) :
    wpAny (model prog w) (callerA.deeper (envOfC "law" lawDef.2 h.objs.size fa cd)) (execs (turnStmt 1 :: rest) (envOfC "law" lawDef.2 h.objs.size fa cd)) Q (fun _ _ => False) s := by
  show wpAny _ (Around.deeper _ (envOfC _ ⟨_, _, _, _, _⟩ _ _ _)) (execs (.For _ _ (_ :: _ :: []) [] _ :: rest) (envOfC _ ⟨_, _, _, _, _⟩ _ _ _)) _ _ _
  try k_fold
  k_steps
  · unfold Stop
    rename Fr _ _ _ _ => Fq
    rename News _ _ _ _ => Nq
    rename IsRange _ _ _ _ _ _ _ _ => Rq
    refine iter_rangeJ (askJ _ ia sc pl ta m) rfl Rq (range_len hz).1 (range_len hz).2 Fq Nq ⟨rfl, m1, m2, m3, m4, rfl⟩ ?_ ?_
    · rintro I' it' i t m₁ nx h₂ tk₂ hin ⟨rfl, q1, q2, q3, q4, q5⟩ ho lI F₂ N₂
      rw [Int.zero_add] at F₂
      have a0 : (0 : Int) ≤ (i : Int) := by omega
      have a1 : (i : Int) < (row.length : Int) := by omega
      have el : St.length = Sp.length := by rw [st.1, sp.1]
      have eq : ∀ c ∈ row, St.map (· c.glyph) = Sp.map (· c.glyph) := fun c hc => st.same sp (hg c hc).1 (hg c hc).2
      have eI : inputF row mask St (i : Int) = inputF row mask Sp (i : Int) := inputF_congr el eq
      have eA : lastF row mask 1 St (i : Int) = lastF row mask 1 Sp (i : Int) := lastGo_congr el eq
      have eB : lastF row mask (-1) St (i : Int) = lastF row mask (-1) Sp (i : Int) := lastGo_congr el eq
      k_unmd
      k_steps
      rename OutIs _ _ (inputF row mask St _) => pt
      rename OutIs _ _ (inputF row mask Sp _) => pp
      rename Ext _ _ => xx
      refine ne_outs (pt.ext xx) pp eI (Nat.le_of_ble_eq_true rfl) ?_
      k_steps
      rename Fr _ _ _ _ => Fz
      rename News _ _ _ _ => Nz
      exact ⟨_, _, _, _, rfl, Fz, led_drop2 Nz, ho, rfl, q1, q2, q3, q4, q5⟩
    · rintro m₁ nx h₂ tk₂ ⟨rfl, q1, q2, q3, q4, q5⟩ F₂ N₂
      dsimp only
      k_steps
      exact hq _ _ _ F₂ N₂ q1 q2 q3 q5
end
end
section
theorem fresh20 : True := by
  w_top off
  trivial
def turnJ (pa c3 : Addr) (o3 : Obj) (fz : List (Addr × Obj)) (ia sc pl wa : Addr) (_ : Nat) (m₁ : Str → Option Value) (nx : List (Addr × Obj)) : Prop :=
  ∃ po, nx = (pa, po) :: (c3, o3) :: fz ∧ PoolObj po ∧ m₁ (Str.ofString "infos") = some (.ref ia) ∧ m₁ (Str.ofString "scene") = some (.ref sc) ∧ m₁ (Str.ofString "plain") = some (.ref pl) ∧ m₁ (Str.ofString "ways") = some (.ref wa)
theorem turn_end {h h' : Heap} {L D I pa c3 i tk : Nat} {m : Str → Option Value} {dl it o3 po po₀ : Obj} {fz : List (Addr × Obj)} {ia sc pl wa : Addr} {s₁ : Shared} {Q : Flow → Shared → Prop}
    (F : Fr h L h' m) (N : News h L h' ((I, it) :: (pa, po) :: (c3, o3) :: (D, dl) :: fz)) (ho : ∀ p ∈ (pa, po₀) :: (c3, o3) :: fz, p.1 ≠ I) (hp : PoolObj po) (m1 : m (Str.ofString "infos") = some (.ref ia)) (m2 : m (Str.ofString "scene") = some (.ref sc)) (m3 : m (Str.ofString "plain") = some (.ref pl)) (m4 : m (Str.ofString "ways") = some (.ref wa)) :
    Turned h L I it (turnJ pa c3 o3 fz ia sc pl wa (i + 1)) s₁ Q .next { s₁ with heap := h', toks := tk } := by
  refine ⟨h', tk, m, (pa, po) :: (c3, o3) :: fz, rfl, F, fun p hp => N p ?_, ?_, po, rfl, hp, m1, m2, m3, m4⟩
  · simp only [List.mem_cons] at hp ⊢
    rcases hp with e | e | e | e <;> simp [e]
  · simp only [List.forall_mem_cons] at ho ⊢
    exact ho
section
local macro_rules | `(tactic| walk_at "exec For Name Call cons nil") => `(tactic| (k_here; (rename Fr _ _ _ _ => lF'); (with_unfolding_all refine' For_stop lF' ?k1 ?k2 ?_ ?k4 ?k5; (case k1 => exact rfl); (case k2 => exact rfl); (case k4 => (intro _; with_unfolding_all rfl)); (case k5 => exact PassesOwn.never); k_whole); k_fold))
theorem law_F {prog : Program} {w : World} {p : Program} {loose : List Str} {mean : ExcName → Option Value} {mg mb : Str → Option Value} {h : Heap} {fa ia sc pl wa : Addr} {pa n n₂ k1 : Nat} {cd : Value} {o3 po : Obj} {c3 : Nat} {s : Shared} {m : Str → Option Value} {Q : Flow → Shared → Prop} {fz : List (Addr × Obj)} {vals ps wvals : List Value} {row : List Cell} {mask : Int} {Sp : List (Int → Bool)} {nss : List (List Int)}
    (KX : (HK w.params).In h) (T : Top p loose mean mg mb h) (K0 : Below callerA h [] h) (F : Fr h h.objs.size s.heap m) (m1 : m (Str.ofString "infos") = some (.ref ia)) (m2 : m (Str.ofString "scene") = some (.ref sc)) (m3 : m (Str.ofString "plain") = some (.ref pl)) (m4 : m (Str.ofString "ways") = some (.ref wa)) (hc3 : c3 = h.objs.size + 1)
    (N : News h h.objs.size s.heap ((pa, po) :: (c3, o3) :: fz)) (hfz : OwnOff fz [pa, c3]) (l1 : c3 < pa) (d3 : o3.data = .cell (some (.ref pa))) (hp : PoolObj po) (hsc : Frz fz (fun h => SceneAt prog w h sc row mask)) (hia : Frz fz (fun h => h.get? ia = some (listOf (List.toArray vals) n))) (hrow : row.length = vals.length) (hz : vals.length ≤ 8) (hg : ∀ c ∈ row, 0 ≤ c.glyph ∧ c.glyph < 6)
    (hwa : (wa, listOf (List.toArray wvals) n₂) ∈ fz) (hW : WaysIn prog w fz wvals nss) (hwz : wvals.length ≤ 3) (hw1 : 1 ≤ wvals.length) (hpl : (pl, listOf (List.toArray ps) k1) ∈ fz) (hps : Frz fz (fun h => TestsAre prog w h ps Sp)) (sp : SetsAre Sp nss) (zp : ps.length = wvals.length)
    (hq : ∀ h' tk' m' nx, Fr h h.objs.size h' m' → News h h.objs.size h' nx → Q .next { s with heap := h', toks := tk' }) :
    wpAny (model prog w) (callerA.deeper (envOfC "law" lawDef.2 h.objs.size fa cd)) (exec (lawStmt 8) (envOfC "law" lawDef.2 h.objs.size fa cd)) Q (fun _ _ => False) s := by
  show wpAny _ (Around.deeper _ (envOfC _ ⟨_, _, _, _, _⟩ _ _ _)) (exec (.For _ _ (_ :: _ :: []) [] _) (envOfC _ ⟨_, _, _, _, _⟩ _ _ _)) _ _ _
  k_steps
  unfold Stop
  rename Fr _ _ _ _ => Fq
  rename News _ _ _ _ => Nq
  rename IsRange _ _ _ _ _ _ _ _ => Rq
  refine iter_rangeJ (n := 3) (turnJ pa c3 o3 fz ia sc pl wa) rfl Rq (by decide) (by decide) Fq Nq ⟨po, rfl, hp, m1, m2, m3, m4⟩ ?_ ?_
  · rintro I it i t m₁ nx h₂ tk₂ hin ⟨po₂, rfl, q0, q1, q2, q3, q4⟩ ho lI F₂ N₂
    have l0 : pa < I := lI _ (.head _)
    have hO : OwnOff fz [I, pa, c3] := fun p hp b hb => by
      rcases List.mem_cons.mp hb with rfl | hb
      · exact ho p (.tail _ (.tail _ hp))
      · exact hfz p hp b hb
    refine law_F1 (rest := [turnStmt 1]) KX T K0 F₂ q4 hc3 N₂ hO l0 l1 d3 q0 hwa hW hwz ?_
    intro h₃ tk₃ po₃ D k ys Ss F₃ N₃ lD p₃ t₃ s₃ z₃
    have sub : ∀ p ∈ fz, p ∈ (pa, po₃) :: (c3, o3) :: (D, listOf (List.toArray ys) k) :: fz := fun p hp => .tail _ (.tail _ (.tail _ hp))
    refine law_F2 (rest := []) KX T K0 F₃ q1 q2 q3 rfl N₃ (hsc.mono sub) (hia.mono sub) hrow hz hg (sub _ hpl) (.tail _ (.tail _ (.head _))) (hps.mono sub) (t₃.mono sub) sp s₃ (fun e => by rw [e] at zp; simp at zp; omega) (fun e => by rw [e] at z₃; simp at z₃; omega) (by omega) (by omega) ?_
    intro h₄ tk₄ m₄ F₄ N₄ r1 r2 r3 r4
    refine wpAny_execs_nil ?_
    exact turn_end F₄ N₄ ho p₃ r1 r2 r3 (r4.trans q4)
  · rintro m₁ nx h₂ tk₂ ⟨po₂, rfl, q0, q1, q2, q3, q4⟩ F₂ N₂
    exact hq _ _ _ _ F₂ N₂
end
end
section
theorem fresh21 : True := by
  w_top off
  trivial
theorem led_drop3 {h₀ h : Heap} {L : Addr} {a b c : Addr × Obj} {nx : List (Addr × Obj)} (N : News h₀ L h (a :: b :: c :: nx)) : News h₀ L h (a :: b :: nx) := fun p hp => N p (by
  simp only [List.mem_cons] at hp ⊢
  rcases hp with e | e | e <;> simp [e])
section
local macro_rules | `(tactic| walk_at "eval ListComp") => `(tactic| (k_here; (rename Fr _ _ _ _ => lF'); k_dflt (refine' ListComp_JF lF' ?hclos ?hcell ?hkind ?hnames ?hx ?_ ?hs; (case hclos => with_unfolding_all rfl); (case hcell => decide); (case hkind => with_unfolding_all rfl); (case hnames => decide); (case hx => with_unfolding_all rfl); (case hs => intro _; with_unfolding_all rfl)); (try k_fold)))
local macro_rules | `(tactic| walk_at "eval Name") => `(tactic| (k_here; k_inBlock; k_dflt (refine' ldC_loc ?n ?c ?N ?m ?v ?_ ?k ?x ?d; (case k => rfl); (case x => rfl); (case n => assumption); (case c => assumption); (case N => k_asm); (case m => k_mem); (case v => assumption); (case d => decide))))
theorem law_A {prog : Program} {w : World} {p : Program} {loose : List Str} {mean : ExcName → Option Value} {mg mb : Str → Option Value} {h h₁ : Heap} {la tk₁ : Nat} {fa : Addr} {cd : Value} {vs : List Value} {ns : List Int} {o1 o2 o3 : Obj} {Q : Flow → Shared → Prop} {s : Shared} {rest : List Stmt}
    (KX : (HK w.params).In h) (T : Top p loose mean mg mb h) (K0 : Below callerA h [] h) (hl : h.IsList la vs.toArray) (hi : IntsAre vs ns) (hz : ns.length < 64)
    (F : Fr h h.objs.size h₁ (fun y => if y = "script" then some (.ref la) else none))
    (N : News h h.objs.size h₁ [(h.objs.size + 1 + 1 + 1, o1), (h.objs.size + 1 + 1, o2), (h.objs.size + 1, o3)]) (d3 : o3.data = .cell none)
    (hq : ∀ h' tk' m ia pa po o3', Fr h h.objs.size h' m → m (Str.ofString "infos") = some (.ref ia) → News h h.objs.size h' [(ia, listOf #[] 0), (pa, po), (h.objs.size + 1 + 1 + 1, o1), (h.objs.size + 1 + 1, o2), (h.objs.size + 1, o3')] → @LT.lt Nat _ pa ia → @LT.lt Nat _ (h.objs.size + 1 + 1 + 1) pa → o3'.data = .cell (some (.ref pa)) → PoolObj po →
      wpAny (model prog w) (callerA.deeper (envOfC "law" lawDef.2 h.objs.size fa cd)) (execs rest (envOfC "law" lawDef.2 h.objs.size fa cd)) Q (fun _ _ => False) { s with heap := h', toks := tk' }) :
    wpAny (model prog w) (callerA.deeper (envOfC "law" lawDef.2 h.objs.size fa cd)) (execs (lawStmt 0 :: lawStmt 1 :: rest) (envOfC "law" lawDef.2 h.objs.size fa cd)) Q (fun _ _ => False) { s with heap := h₁, toks := tk₁ } := by
  show wpAny _ (Around.deeper _ (envOfC _ ⟨_, _, _, _, _⟩ _ _ _)) (execs (.Assign _ _ _ :: .Assign _ _ _ :: rest) (envOfC _ ⟨_, _, _, _, _⟩ _ _ _)) _ _ _
  try k_fold
  k_steps
  rename Fr _ _ _ _ => Fq
  rename News _ _ _ _ => Nq
  rename (IntsAre _ (List.take 24 ns)) => hI
  rename (List.length (List.take 24 ns) = _) => hC
  have hI24 : (List.take 24 ns).length ≤ 24 := by omega
  refine comp_listJ (holdJ _ (fun i ys => ∃ xs, IntsAre ys xs ∧ xs.length = i)) rfl (lo := listOf (List.toArray _) _) rfl rfl (by rw [hI.length]; omega) (fun i ys nx h j _ N => by obtain ⟨rfl, _⟩ := j; exact (N _ (List.Mem.head _)).1) Fq Nq ⟨rfl, [], .nil, rfl⟩ ?_ ?_
  · rintro I it C D i v ys k oc m₁ nx h₂ tk₂ l1 lC lD lL hv ⟨rfl, xs, hxs, hlen⟩ ho F₂ N₂ hn₂ hm₂
    have hC₂ := (N₂ _ (.tail _ (.head _))).1
    have hin : i < (ns.take 24).length := by rw [← hI.length]; exact (List.getElem?_eq_some_iff.mp hv).1
    obtain ⟨t, ht⟩ := hI.get i (ns.take 24)[i] (List.getElem?_eq_getElem hin)
    rw [hv] at ht
    have ht := Option.some.inj ht
    subst ht
    refine compTests_nil ?_
    k_fold
    k_steps
    exact ⟨_, _, _, rfl, F₂, N₂, ho, rfl, xs ++ [_], ints_snoc hxs, by simp [hlen]⟩
  · rintro D h₂ tk₂ ys k nx l1 F₂ N₂ ho ⟨rfl, xs, hxs, hlen⟩
    k_lt l1
    have hx : xs.length ≤ 1000 := by rw [hlen, hI.length]; omega
    k_steps
    rename Fr _ _ _ _ => Fz
    rename News _ _ _ _ => Nz
    rename (_ < _ ∧ _) => lz
    exact hq _ _ _ _ _ _ _ Fz rfl (led_drop3 Nz) lz.1 l1.2.1 (by assumption) ⟨_, _, _, rfl, hxs, hx⟩
theorem law_G {prog : Program} {w : World} {p : Program} {loose : List Str} {mean : ExcName → Option Value} {mg mb : Str → Option Value} {h : Heap} {fa : Addr} {cd : Value} {m : Str → Option Value} {nx : List (Addr × Obj)} {Q : Flow → Shared → Prop} {s : Shared}
    (KX : (HK w.params).In h) (T : Top p loose mean mg mb h) (K0 : Below callerA h [] h) (F : Fr h h.objs.size s.heap m) (N : News h h.objs.size s.heap nx) (hq : Q (.ret (.bool true)) s) :
    wpAny (model prog w) (callerA.deeper (envOfC "law" lawDef.2 h.objs.size fa cd)) (execs (lawStmt 9 :: []) (envOfC "law" lawDef.2 h.objs.size fa cd)) Q (fun _ _ => False) s := by
  show wpAny _ (Around.deeper _ (envOfC _ ⟨_, _, _, _, _⟩ _ _ _)) (execs (.Return _ _ :: []) (envOfC _ ⟨_, _, _, _, _⟩ _ _ _)) _ _ _
  k_steps
  exact hq
end
theorem led_cut2 {h₀ h : Heap} {L : Addr} {a b c : Addr × Obj} {d e f : Addr × Obj} {fz : List (Addr × Obj)} (N : News h₀ L h (a :: b :: c :: d :: e :: f :: fz)) : News h₀ L h (c :: f :: a :: b :: fz) := fun p hp => N p (by
  simp only [List.mem_cons] at hp ⊢
  rcases hp with e | e | e | e | e <;> simp [e])
theorem own_cut2 {fz : List (Addr × Obj)} {D wa pa c1 c2 c3 : Nat} {oD ow po o1 o2 o3 : Obj} (hfz : OwnOff fz [wa, pa, c1, c2, c3]) (lD : ∀ p ∈ (wa, ow) :: (pa, po) :: (c1, o1) :: (c2, o2) :: (c3, o3) :: fz, p.1 < D) (l1 : pa < wa) (l2 : c3 < pa) : OwnOff ((D, oD) :: (wa, ow) :: fz) [pa, c3] := fun p hp b hb => by
  have hD1 : pa < D := lD (pa, po) (.tail _ (.head _))
  simp only [List.mem_cons, List.not_mem_nil, or_false] at hb
  rcases List.mem_cons.mp hp with rfl | hp
  · rcases hb with rfl | rfl
    · exact Nat.ne_of_gt hD1
    · exact Nat.ne_of_gt (Nat.lt_trans l2 hD1)
  · rcases List.mem_cons.mp hp with rfl | hp
    · rcases hb with rfl | rfl
      · exact Nat.ne_of_gt l1
      · exact Nat.ne_of_gt (Nat.lt_trans l2 l1)
    · exact hfz p hp b (by simp only [List.mem_cons, List.not_mem_nil, or_false]; rcases hb with e | e <;> simp [e])
theorem law_walk {prog : Program} {w : World} {p : Program} {loose : List Str} {mean : ExcName → Option Value} {mg mb : Str → Option Value} {h h₁ : Heap} {la tk₁ : Nat} {fa : Addr} {cd : Value} {vs : List Value} {ns : List Int} {o1 o2 o3 : Obj} {Q : Flow → Shared → Prop} {s : Shared}
    (KX : (HK w.params).In h) (T : Top p loose mean mg mb h) (K0 : Below callerA h [] h) (hl : h.IsList la vs.toArray) (hi : IntsAre vs ns) (hz : ns.length < 64)
    (F : Fr h h.objs.size h₁ (fun y => if y = "script" then some (.ref la) else none))
    (N : News h h.objs.size h₁ [(h.objs.size + 1 + 1 + 1, o1), (h.objs.size + 1 + 1, o2), (h.objs.size + 1, o3)]) (d1 : o1.data = .cell none) (d2 : o2.data = .cell none) (d3 : o3.data = .cell none)
    (hq : ∀ h' tk' m', Fr h h.objs.size h' m' → Q (.ret (.bool true)) { s with heap := h', toks := tk' }) :
    wpAny (model prog w) (callerA.deeper (envOfC "law" lawDef.2 h.objs.size fa cd)) (execs lawDef.1 (envOfC "law" lawDef.2 h.objs.size fa cd)) Q (fun _ _ => False) { s with heap := h₁, toks := tk₁ } := by
  show wpAny _ _ (execs (lawStmt 0 :: lawStmt 1 :: lawStmt 2 :: lawStmt 3 :: lawStmt 4 :: lawStmt 5 :: lawStmt 6 :: lawStmt 7 :: lawStmt 8 :: lawStmt 9 :: []) _) _ _ _
  refine law_A KX T K0 hl hi hz F N d3 ?_
  intro h₂ tk₂ m₂ ia pa po o3' F₂ r₁ N₂ l1 l2 d3' hp
  refine wpAny_execs_cons ?_
  refine law_B KX T K0 F₂ r₁ rfl rfl rfl N₂ l1 l2 d3' hp ?_
  intro h₃ tk₃ m₃ vals n row po₃ fz F₃ r₃ N₃ O₃ p₃ row₃ len₃ len1 len8 g₃
  refine law_C KX T K0 F₃ r₃ rfl rfl rfl N₃ O₃ l1 l2 d3' p₃ row₃ len8 ?_
  intro h₄ tk₄ m₄ wa sc po₄ fz₄ mask F₄ a₄ b₄ c₄ N₄ O₄ l₄ p₄ S₄
  refine wpAny_execs_cons ?_
  refine law_D KX T K0 F₄ a₄ b₄ c₄ rfl rfl rfl N₄ O₄ l₄ l2 d1 d2 d3' p₄ S₄ ?_
  intro h₅ tk₅ m₅ wvals n₅ nss po₅ o1₅ v1₅ o2₅ v2₅ fz₅ F₅ a₅ b₅ c₅ N₅ O₅ p₅ _ _ S₅ W₅ w1 w3
  refine law_E KX T K0 F₅ c₅ N₅ W₅ w3 ?_
  intro h₆ tk₆ D k ys Ss F₆ N₆ l₆ t₆ s₆ z₆
  refine wpAny_execs_cons ?_
  have sub : ∀ p ∈ fz₅, p ∈ (D, listOf (List.toArray ys) k) :: (wa, listOf (List.toArray wvals) n₅) :: fz₅ := fun p hp => .tail _ (.tail _ hp)
  refine law_F KX T K0 F₆ a₅ b₅ rfl c₅ rfl (led_cut2 N₆) (own_cut2 O₅ l₆ l₄ (by omega)) (by omega) d3' p₅ ((Frz.mono (fun h hh => (S₅ h hh).1) sub)) ((Frz.mono (fun h hh => (S₅ h hh).2) sub)) len₃ (by omega) g₃ (.tail _ (.head _)) (W₅.mono sub) w3 w1 (.head _) (t₆.mono sub) s₆ z₆ ?_
  intro h₇ tk₇ m₇ nx F₇ N₇
  exact law_G KX T K0 F₇ N₇ (hq _ _ _ F₇)
end
-- names taken ahead, so that the head lays no twins of its own objects (the file would be over the lid)
theorem main0.tw4674512881308453375 : True := trivial
theorem main0.tw10754841830237729575 : True := trivial
theorem main0.tw8634839708651609717 : True := trivial
theorem main0.tw2649385322375586060 : True := trivial
theorem main0.tw2760734056322946743 : True := trivial
theorem main0.tw7124414078327284033 : True := trivial
theorem main0.tw9109168011299325983 : True := trivial
theorem main0.tw16623725757032259848 : True := trivial
theorem main0.tw6682688934841799037 : True := trivial
theorem main0.tw13984010914595135759 : True := trivial
theorem main0.tw4790764923699880123 : True := trivial
theorem main0.tw5810029727855923307 : True := trivial
theorem main0.tw2656287093784419845 : True := trivial
theorem main0.tw11853809103688264670 : True := trivial
theorem main0.tw13561375379988991008 : True := trivial
theorem main0.tw8176147380945841811 : True := trivial
theorem main0.tw8908541431451377890 : True := trivial
theorem main0.tw10129584014819180791 : True := trivial
theorem main0.tw9003105343687765647 : True := trivial
theorem main0.tw5381245017668878472 : True := trivial
theorem main0.tw13646682287017201026 : True := trivial
theorem main0.tw8139281449314948944 : True := trivial
theorem main0.tw4216829436105870878 : True := trivial
theorem main0.tw13442044377185149111 : True := trivial
theorem main0.tw13333190124806221364 : True := trivial
theorem main0.tw2256042293147353803 : True := trivial
theorem main0.tw548303016236078489 : True := trivial
theorem main0.tw4771024927365777611 : True := trivial
theorem main0.tw14143003341481992250 : True := trivial
theorem main0.tw5408103683502477759 : True := trivial
theorem main0.tw9976943484464326222 : True := trivial
theorem main0.tw14594471543818166337 : True := trivial
theorem main0.tw6073865572973484387 : True := trivial
theorem main0.tw15216668877291064383 : True := trivial
theorem main0.tw3892031076101543646 : True := trivial
theorem main0.tw13836846415954401721 : True := trivial
theorem main0.tw1881878796486040725 : True := trivial
theorem main0.tw14193207500367393364 : True := trivial
theorem main0.tw7202919505543136287 : True := trivial
theorem main0.tw4633207394084338982 : True := trivial
theorem main0.tw6286160461243734327 : True := trivial
theorem main0.tw3142240993965290007 : True := trivial
theorem main0.tw11394349906401415093 : True := trivial
theorem main0.tw1996344647961982729 : True := trivial
theorem main0.tw12765160285774703669 : True := trivial
theorem main0.tw9592514645094060242 : True := trivial
theorem main0.tw8897260512496364752 : True := trivial
theorem main0.tw15361662326661063162 : True := trivial
theorem main0.tw4720097863056709876 : True := trivial
theorem main0.tw2997563242881497408 : True := trivial
theorem main0.tw12666408764950751440 : True := trivial
theorem main0.tw9495699745626179242 : True := trivial
theorem main0.tw11109476124478085400 : True := trivial
theorem main0.tw6118274261292373821 : True := trivial
theorem main0.tw7182782161595581474 : True := trivial
theorem main0.tw9669882751014867942 : True := trivial
theorem main0.tw8497178078348017436 : True := trivial
theorem main0.tw8214949956536436510 : True := trivial
theorem main0.tw12252177174127015230 : True := trivial
theorem main0.tw1754841652119801422 : True := trivial
theorem main0.tw7921188435842837221 : True := trivial
theorem main0.tw5812127425565556834 : True := trivial
theorem main0.tw18212352227095482185 : True := trivial
theorem main0.tw17750218576327173758 : True := trivial
theorem main0.tw15387721011374414141 : True := trivial
theorem main0.tw12076903759417875085 : True := trivial
theorem main0.tw8522573478906034846 : True := trivial
theorem main0.tw1574283040658654000 : True := trivial
theorem main0.tw1362862248104251943 : True := trivial
theorem main0.tw15024337342025396063 : True := trivial
theorem main0.tw13993546396471380038 : True := trivial
theorem main0.tw6517670867528886380 : True := trivial
theorem main0.tw12259778659251871914 : True := trivial
theorem main0.tw15663673831725020342 : True := trivial
theorem main0.tw661268040389861927 : True := trivial
theorem main0.tw7241936474045890855 : True := trivial
theorem main0.tw18234321714074370006 : True := trivial
theorem main0.tw16290322614887473969 : True := trivial
theorem main0.tw17867351047414603722 : True := trivial
theorem main0.tw16230098085781120318 : True := trivial
theorem main0.tw13968897337454732001 : True := trivial
theorem main0.tw18270315023692842414 : True := trivial
theorem main0.tw3013053944960670372 : True := trivial
theorem main0.tw5503069613812320788 : True := trivial
theorem main0.tw17244334410911067619 : True := trivial
theorem main0.tw7871253555502969974 : True := trivial
theorem main0.tw12761941229866952169 : True := trivial
theorem main0.tw755884926969925279 : True := trivial
theorem main0.tw9957198973639661648 : True := trivial
theorem main0.tw1280601775514569193 : True := trivial
theorem main0.tw1500316146463961083 : True := trivial
theorem main0.tw6716394979354112544 : True := trivial
theorem main0.tw3518546774974107766 : True := trivial
theorem main0.tw5012444644529457043 : True := trivial
theorem main0.tw6187271277996479000 : True := trivial
theorem main0.tw8617440236496946034 : True := trivial
theorem main0.tw137473852447423077 : True := trivial
theorem main0.tw9212492767663792762 : True := trivial
theorem main0.tw7556089686928161559 : True := trivial
theorem main0.tw976548228141226692 : True := trivial
theorem main0.tw13657632111987682489 : True := trivial
theorem main0.tw14926061289831909196 : True := trivial
theorem main0.tw13943386031064861633 : True := trivial
theorem main0.tw3611700896350618909 : True := trivial
theorem main0.tw10548257778738878285 : True := trivial
theorem main0.tw17073466304633370858 : True := trivial
theorem main0.tw14972511838580281088 : True := trivial
theorem main0.tw10304514647924268300 : True := trivial
theorem main0.tw3586206175082565774 : True := trivial
theorem main0.tw8501206448973080858 : True := trivial
theorem main0.tw9019437763125029065 : True := trivial
theorem main0.tw15736072090422839047 : True := trivial
theorem main0.tw5104018745232106972 : True := trivial
theorem main0.tw171806991876917158 : True := trivial
theorem main0.tw12942699837582656766 : True := trivial
theorem main0.tw14536103511832298332 : True := trivial
theorem main0.tw7429704410449086025 : True := trivial
theorem main0.tw4248754798665984535 : True := trivial
theorem main0.tw1368659860377138804 : True := trivial
theorem main0.tw13626087748798519497 : True := trivial
theorem main0.tw5825482897459668394 : True := trivial
theorem main0.tw8218561441394731019 : True := trivial
theorem main0.tw8596527179904643375 : True := trivial
theorem main0.tw16258586568476467568 : True := trivial
theorem main0.tw7613882802175530607 : True := trivial
theorem main0.tw601103667978358661 : True := trivial
theorem main0.tw16367938024203070446 : True := trivial
theorem main0.tw5871233233202238964 : True := trivial
theorem main0.tw984610483396353615 : True := trivial
theorem main0.tw15971279887297951094 : True := trivial
theorem main0.tw17222352872134492704 : True := trivial
theorem main0.tw3754437134930816902 : True := trivial
theorem main0.tw15307424681766014348 : True := trivial
theorem main0.tw3352273395815094440 : True := trivial
theorem main0.tw3016549858262046039 : True := trivial
theorem main0.tw622098558361918874 : True := trivial
theorem main0.tw14020363492686485968 : True := trivial
theorem main0.tw13778854906463502945 : True := trivial
theorem main0.tw11310582517682224130 : True := trivial
theorem main0.tw14631646628193570511 : True := trivial
theorem main0.tw11372255635301621314 : True := trivial
theorem main0.tw2552881685095452693 : True := trivial
theorem main0.tw7484162278083326211 : True := trivial
theorem main0.tw13785321261782627598 : True := trivial
theorem main0.tw8178005525131709081 : True := trivial
theorem main0.tw10325107151533234129 : True := trivial
theorem main0.tw13543589959990768754 : True := trivial
theorem main0.tw6293787813126403818 : True := trivial
theorem main0.tw5107396308982254622 : True := trivial
theorem main0.tw10504967969627209998 : True := trivial
theorem main0.tw14612492911051473209 : True := trivial
theorem main0.tw16666666837129206173 : True := trivial
theorem main0.tw1064962844649252244 : True := trivial
theorem main0.tw12758347158265615534 : True := trivial
theorem main0.tw12270300714387690781 : True := trivial
theorem main0.tw4882160111202746353 : True := trivial
theorem main0.tw17284567287357187243 : True := trivial
theorem main0.tw111683004096100209 : True := trivial
theorem main0.tw3747401780078179357 : True := trivial
theorem main0.tw15000846550595202745 : True := trivial
theorem main0.tw1423240854308691353 : True := trivial
theorem main0.tw14508886027499032142 : True := trivial
theorem main0.tw2160080765455841732 : True := trivial
theorem main0.tw10891124704438366582 : True := trivial
theorem main0.tw15794180708078303941 : True := trivial
theorem main0.tw10391919630269916259 : True := trivial
theorem main0.tw7855584761836035678 : True := trivial
theorem main0.tw64977728492822696 : True := trivial
theorem main0.tw3389203142009013157 : True := trivial
theorem main0.tw15819918739639881296 : True := trivial
theorem main0.tw17023014543866323477 : True := trivial
theorem main0.tw17271402551574942591 : True := trivial
theorem main0.tw10166282655740884487 : True := trivial
theorem main0.tw4640491215652562771 : True := trivial
theorem main0.tw2343530822569413441 : True := trivial
theorem main0.tw6397826463923782821 : True := trivial
theorem main0.tw13084462673142578747 : True := trivial
theorem main0.tw15896745751510736200 : True := trivial
theorem main0.tw4697381030412479324 : True := trivial
theorem main0.tw5188136997011359690 : True := trivial
theorem main0.tw15261328586676883669 : True := trivial
theorem main0.tw16648164052265866477 : True := trivial
theorem main0.tw1733496431394958719 : True := trivial
theorem main0.tw4719855800305017504 : True := trivial
theorem main0.tw10207337506696413639 : True := trivial
theorem main0.tw17854248728635079231 : True := trivial
theorem main0.tw7644518606112678914 : True := trivial
theorem main0.tw15124265191553847651 : True := trivial
theorem main0.tw4169391401913655253 : True := trivial
theorem main0.tw17228857930198246278 : True := trivial
theorem main0.tw4108856278967966539 : True := trivial
theorem main0.tw1890407747831673839 : True := trivial
theorem main0.tw15821927307665904685 : True := trivial
theorem main0.tw13616232274100184183 : True := trivial
theorem main0.tw3087497734904574247 : True := trivial
theorem main0.tw7444361762265056797 : True := trivial
theorem main0.tw10260081670654689964 : True := trivial
theorem main0.tw5876616057201222958 : True := trivial
theorem main0.tw7081850123672882755 : True := trivial
theorem main0.tw9230555000093975401 : True := trivial
theorem main0.tw14156581073949669787 : True := trivial
theorem main0.tw12555869346523586392 : True := trivial
theorem main0.tw5927126179499169218 : True := trivial
theorem main0.tw9202073925060488454 : True := trivial
theorem main0.tw13209624080835272528 : True := trivial
theorem main0.tw16341716287623908476 : True := trivial
theorem main0.tw2924273562655219407 : True := trivial
theorem main0.tw7227099023876753125 : True := trivial
theorem main0.tw16631138717030805625 : True := trivial
theorem main0.tw11852605464310499323 : True := trivial
theorem main0.tw12083590604704674683 : True := trivial
theorem main0.tw4034451414391067547 : True := trivial
theorem main0.tw4787027860568113628 : True := trivial
theorem main0.tw4896433428989885002 : True := trivial
theorem main0.tw12604029615902914129 : True := trivial
theorem main0.tw15217713074110241794 : True := trivial
theorem main0.tw5541717576720946540 : True := trivial
theorem main0.tw663268075982244158 : True := trivial
theorem main0.tw607087683000068524 : True := trivial
theorem main0.tw3786549456717194506 : True := trivial
theorem main0.tw15861733655035129314 : True := trivial
theorem main0.tw14335801401758618477 : True := trivial
theorem main0.tw9113235872487706152 : True := trivial
theorem main0.tw4427936496150101822 : True := trivial
theorem main0.tw8200263128469302176 : True := trivial
theorem main0.tw8719592463769063279 : True := trivial
theorem main0.tw3511660372620354848 : True := trivial
theorem main0.tw14970470646036387638 : True := trivial
theorem main0.tw5606251008328635234 : True := trivial
theorem main0.tw2525651348446312884 : True := trivial
theorem main0.tw167729646224370688 : True := trivial
theorem main0.tw1368054008382390576 : True := trivial
theorem main0.tw495847833838682276 : True := trivial
theorem main0.tw384520129315276467 : True := trivial
theorem main0.tw1403408938874506925 : True := trivial
theorem main0.tw384793666987933156 : True := trivial
theorem main0.tw4739755361056039480 : True := trivial
theorem main0.tw14744255651440549050 : True := trivial
theorem main0.tw14019991281260907886 : True := trivial
theorem main0.tw3867045021571608287 : True := trivial
theorem main0.tw10934969016284246402 : True := trivial
theorem main0.tw9261459812685502007 : True := trivial
theorem main0.tw18398301606741969878 : True := trivial
theorem main0.tw13837052957692073196 : True := trivial
theorem main0.tw7510722761622265213 : True := trivial
theorem main0.tw15853761800147341608 : True := trivial
theorem main0.tw5064905965391228059 : True := trivial
theorem main0.tw9753990271908063971 : True := trivial
theorem main0.tw848074125109309935 : True := trivial
theorem main0.tw3855769163082054623 : True := trivial
theorem main0.tw1365406386211275541 : True := trivial
theorem main0.tw8414727688367670274 : True := trivial
theorem main0.tw1121391399319236858 : True := trivial
theorem main0.tw15975857577521427067 : True := trivial
theorem main0.tw13696970510018788471 : True := trivial
theorem main0.tw13106112741134030362 : True := trivial
theorem main0.tw6572543005323575706 : True := trivial
theorem main0.tw4803128300087313335 : True := trivial
theorem main0.tw7505870900987266399 : True := trivial
theorem main0.tw1749286926779410710 : True := trivial
theorem main0.tw10197028978779071905 : True := trivial
theorem main0.tw5587609702770498024 : True := trivial
theorem main0.tw2945771570464958901 : True := trivial
theorem main0.tw13766003165239589951 : True := trivial
theorem main0.tw10978208931764589083 : True := trivial
theorem main0.tw8032433984002319153 : True := trivial
theorem main0.tw14806394422579599091 : True := trivial
theorem main0.tw14102078531854890372 : True := trivial
theorem main0.tw10312743323322116071 : True := trivial
theorem main0.tw2262464528820750269 : True := trivial
theorem main0.tw15444040109772751795 : True := trivial
theorem main0.tw2301444454072928802 : True := trivial
theorem main0.tw3199520556867741322 : True := trivial
theorem main0.tw915779376086048949 : True := trivial
theorem main0.tw9892150491899916442 : True := trivial
theorem main0.tw328935240857153152 : True := trivial
theorem main0.tw2401883335472665410 : True := trivial
theorem main0.tw9630469549225287603 : True := trivial
theorem main0.tw2571852384317894596 : True := trivial
theorem main0.tw393799298574055731 : True := trivial
theorem main0.tw13945217853508649509 : True := trivial
theorem main0.tw4129453112964017870 : True := trivial
theorem main0.tw1051716439081191287 : True := trivial
theorem main0.tw11227450763295205402 : True := trivial
theorem main0.tw14913394213814971363 : True := trivial
theorem main0.tw6617690360205745327 : True := trivial
theorem main0.tw8995725673282312398 : True := trivial
theorem main0.tw11800110991738371864 : True := trivial
theorem main0.tw10793833365277237949 : True := trivial
theorem main0.tw6988595886907701687 : True := trivial
theorem main0.tw2835396154021973959 : True := trivial
theorem main0.tw5524227001859266767 : True := trivial
theorem main0.tw50808497341037863 : True := trivial
theorem main0.tw18215058486906552255 : True := trivial
theorem main0.tw2578800513639548790 : True := trivial
theorem main0.tw9709521576607736801 : True := trivial
theorem main0.tw11356291865555643738 : True := trivial
theorem main0.tw5545643461252613123 : True := trivial
theorem main0.tw7091533511409373724 : True := trivial
theorem main0.tw16515630090563924649 : True := trivial
theorem main0.tw7767764621938878469 : True := trivial
theorem main0.tw18305482064993875731 : True := trivial
theorem main0.tw14715425554238177767 : True := trivial
theorem main0.tw9740610319240426177 : True := trivial
theorem main0.tw16932060941076119056 : True := trivial
theorem main0.tw1560037222546824524 : True := trivial
theorem main0.tw6134734428010290464 : True := trivial
theorem main0.tw4259738108632994910 : True := trivial
theorem main0.tw11949510903584859741 : True := trivial
theorem main0.tw2672071634170054891 : True := trivial
theorem main0.tw1515732621187919609 : True := trivial
theorem main0.tw14179553124923688020 : True := trivial
theorem main0.tw10630416379213790851 : True := trivial
theorem main0.tw12960006043329843515 : True := trivial
theorem main0.tw12398234223602298864 : True := trivial
theorem main0.tw1932256120667917636 : True := trivial
theorem main0.tw17063095568689466545 : True := trivial
theorem main0.tw12103351055164533822 : True := trivial
theorem main0.tw10340443742164131686 : True := trivial
theorem main0.tw15286272317454346944 : True := trivial
theorem main0.tw15566419383961660730 : True := trivial
theorem main0.tw14617933974974584824 : True := trivial
theorem main0.tw17428680914498998895 : True := trivial
theorem main0.tw10041890833705455956 : True := trivial
theorem main0.tw17002587973443621773 : True := trivial
theorem main0.tw4160527898736317075 : True := trivial
theorem main0.tw12915374707216628252 : True := trivial
theorem main0.tw1838492346101219692 : True := trivial
theorem main0.tw12269549728271213657 : True := trivial
theorem main0.tw7973406005809155689 : True := trivial
theorem main0.tw10918419839395577947 : True := trivial
theorem main0.tw3296485818554082272 : True := trivial
theorem main0.tw8207468333969189008 : True := trivial
theorem main0.tw9251854865908443362 : True := trivial
theorem main0.tw9477918484232742776 : True := trivial
theorem main0.tw15023763068591504172 : True := trivial
theorem main0.tw11985220912886758600 : True := trivial
theorem main0.tw11642672693566423731 : True := trivial
theorem main0.tw16004346914267449103 : True := trivial
theorem main0.tw16167776969503017907 : True := trivial
theorem main0.tw14494070050724258939 : True := trivial
theorem main0.tw501390656010824634 : True := trivial
theorem main0.tw6055894049431612311 : True := trivial
theorem main0.tw7574994253243304730 : True := trivial
theorem main0.tw3451894503108508029 : True := trivial
theorem main0.tw15971510834297748543 : True := trivial
theorem main0.tw211982620301959720 : True := trivial
theorem main0.tw18041646581885012709 : True := trivial
theorem main0.tw9457193281603973569 : True := trivial
theorem main0.tw2735105314502922172 : True := trivial
theorem main0.tw966669748950749857 : True := trivial
theorem main0.tw8992234029699187405 : True := trivial
theorem main0.tw5511058710194991619 : True := trivial
theorem main0.tw2266539944795624697 : True := trivial
theorem main0.tw7491875134161755554 : True := trivial
theorem main0.tw14168151382006185415 : True := trivial
theorem main0.tw11125895380374709072 : True := trivial
theorem main0.tw11903593334028105260 : True := trivial
theorem main0.tw12299157798774350558 : True := trivial
theorem main0.tw12782696604236558595 : True := trivial
theorem main0.tw14217800311386058460 : True := trivial
theorem main0.tw18382619930586783946 : True := trivial
theorem main0.tw11816170528462962979 : True := trivial
theorem main0.tw1237306421448137592 : True := trivial
theorem main0.tw12751112172277020936 : True := trivial
theorem main0.tw2826204726091203970 : True := trivial
theorem main0.tw10726761220629864963 : True := trivial
theorem main0.tw12363429033584356445 : True := trivial
theorem main0.tw6898850460184317252 : True := trivial
theorem main0.tw1065628298308113784 : True := trivial
theorem main0.tw9986440786279740078 : True := trivial
section
theorem fresh22 : True := by
  w_top off
  trivial
set_option Elab.async true in
theorem main0 : PySem.Challenge.rw_pb0192_01.Holds := by
  w_on
  o_law
  o_head (kHook HK [2, 3, 15, 17, 18, 20, 21, 29, 31, 32, 34, 35, 36, 39, 40, 41, 42, 43, 44, 45, 55, 56, 58, 59, 61, 62, 63, 64, 65, 66, 67, 70, 72, 73, 75, 76, 77, 79, 80, 82, 83, 84, 86, 87, 89, 90, 91, 93, 94, 96, 97, 98, 99, 100, 102, 103, 105, 106, 107, 109, 110, 112, 113, 114, 116, 117, 119, 120, 121, 123, 124, 126, 127, 128, 130, 131, 133, 134, 135, 137, 138, 140, 141, 142, 144, 145, 147, 148, 156, 158, 159, 161, 162, 163, 165, 166, 168, 169, 170, 172, 173, 175, 176, 177, 178, 179, 180, 181, 191, 192, 194, 195, 197, 198, 199, 202, 203, 204, 206, 207, 209, 210, 211, 214, 215, 216, 218, 219, 221, 222, 223, 225, 226, 228, 229, 230, 231, 232, 233, 234, 244, 246, 247, 249, 250, 251, 253, 254, 256, 257, 258, 260, 261, 263, 264, 265, 267, 268, 270, 271, 272, 275, 276, 277, 278, 279, 280, 281, 291, 293, 294, 296, 297, 298, 300, 301, 303, 304, 305, 307, 308, 310, 311, 312, 314, 315, 317, 318, 319, 320, 321, 322, 323, 326, 328, 329, 331, 332, 340, 341, 343, 344, 346, 347, 348, 350, 351, 353, 354, 355, 357, 358, 360, 361, 362, 364, 365, 367, 368, 369, 372, 373, 374, 375, 376, 377, 378, 381, 383, 384, 386, 387, 388, 391, 392, 393, 396] (fun _ => by kernel_rfl))
  (case hw => w_witness2)
  w_top off
  k_go0
  all_goals try k_fold
  rename Heap.IsList _ _ _ => hL9
  rename IntsAre _ _ => hI9
  rename (¬ _ < _) => hc9
  refine wpAny_mono (law_walk (by assumption) (by assumption) (by assumption) hL9 hI9 (by push_cast at hc9; omega) (by assumption) (by assumption) (by assumption) (by assumption) (by assumption) ?hq9) (fun _ _ q => q) (fun _ _ x => x.elim)
  case hq9 =>
    intro h9 tk9 m9 F9
    k_steps
end
end Mine
set_option maxRecDepth 100000 in
set_option maxHeartbeats 8000000 in
theorem PySem.Challenge.cw_pb0192_01_holds : PySem.Challenge.rw_pb0192_01.Holds :=
  Mine.main0
