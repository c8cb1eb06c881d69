import PyProof.Rows.All
import Wide.All
import OpenK.AllK
import Wide.FinOn
import Lean
import PySem.Challenge.RW_nu0154_01
open PySem PySem.W PyProof.Rows
set_option Elab.async false
set_option linter.all false
namespace Mine
section
set_option maxRecDepth 100000
set_option maxHeartbeats 8000000
noncomputable def topAt (i : Nat) : Stmt := PySem.Challenge.pw_nu0154_01.main.body.getD i (.Pass default)
noncomputable def inClass (s : Stmt) (j : Nat) : Stmt := match s with | .ClassDef _ _ _ b _ _ _ _ _ _ _ => b.getD j (.Pass default) | _ => .Pass default
noncomputable def defOf (s : Stmt) : Arguments × List Stmt × Scope := match s with | .FunctionDef _ a b _ _ _ sc _ _ _ => (a, b, sc) | _ => (⟨[], [], none, [], [], none, []⟩, [], ⟨.function, [], false, false, []⟩)
noncomputable def t0 : { x : Stmt // x = topAt 0 } := by
  refine ⟨?_, ?h⟩
  rotate_left
  conv => rhs; whnf
noncomputable def t2 : { x : Stmt // x = topAt 2 } := by
  refine ⟨?_, ?h⟩
  rotate_left
  conv => rhs; whnf
noncomputable def t3 : { x : Stmt // x = topAt 3 } := by
  refine ⟨?_, ?h⟩
  rotate_left
  conv => rhs; whnf
noncomputable def t5 : { x : Stmt // x = topAt 5 } := by
  refine ⟨?_, ?h⟩
  rotate_left
  conv => rhs; whnf
noncomputable def t6 : { x : Stmt // x = topAt 6 } := by
  refine ⟨?_, ?h⟩
  rotate_left
  conv => rhs; whnf
noncomputable def t7 : { x : Stmt // x = topAt 7 } := by
  refine ⟨?_, ?h⟩
  rotate_left
  conv => rhs; whnf
noncomputable def t9 : { x : Stmt // x = topAt 9 } := by
  refine ⟨?_, ?h⟩
  rotate_left
  conv => rhs; whnf
noncomputable def t10 : { x : Stmt // x = topAt 10 } := by
  refine ⟨?_, ?h⟩
  rotate_left
  conv => rhs; whnf
noncomputable def t11 : { x : Stmt // x = topAt 11 } := by
  refine ⟨?_, ?h⟩
  rotate_left
  conv => rhs; whnf
noncomputable def t12 : { x : Stmt // x = topAt 12 } := by
  refine ⟨?_, ?h⟩
  rotate_left
  conv => rhs; whnf
noncomputable def t13 : { x : Stmt // x = topAt 13 } := by
  refine ⟨?_, ?h⟩
  rotate_left
  conv => rhs; whnf
noncomputable def t14 : { x : Stmt // x = topAt 14 } := by
  refine ⟨?_, ?h⟩
  rotate_left
  conv => rhs; whnf
noncomputable def t16 : { x : Stmt // x = topAt 16 } := by
  refine ⟨?_, ?h⟩
  rotate_left
  conv => rhs; whnf
noncomputable def t17 : { x : Stmt // x = topAt 17 } := by
  refine ⟨?_, ?h⟩
  rotate_left
  conv => rhs; whnf
noncomputable def t18 : { x : Stmt // x = topAt 18 } := by
  refine ⟨?_, ?h⟩
  rotate_left
  conv => rhs; whnf
noncomputable def t19 : { x : Stmt // x = topAt 19 } := by
  refine ⟨?_, ?h⟩
  rotate_left
  conv => rhs; whnf
noncomputable def t20 : { x : Stmt // x = topAt 20 } := by
  refine ⟨?_, ?h⟩
  rotate_left
  conv => rhs; whnf
noncomputable def t21 : { x : Stmt // x = topAt 21 } := by
  refine ⟨?_, ?h⟩
  rotate_left
  conv => rhs; whnf
noncomputable def t22 : { x : Stmt // x = topAt 22 } := by
  refine ⟨?_, ?h⟩
  rotate_left
  conv => rhs; whnf
noncomputable def t23 : { x : Stmt // x = topAt 23 } := by
  refine ⟨?_, ?h⟩
  rotate_left
  conv => rhs; whnf
noncomputable def t24 : { x : Stmt // x = topAt 24 } := by
  refine ⟨?_, ?h⟩
  rotate_left
  conv => rhs; whnf
noncomputable def t25 : { x : Stmt // x = topAt 25 } := by
  refine ⟨?_, ?h⟩
  rotate_left
  conv => rhs; whnf
noncomputable def t26 : { x : Stmt // x = topAt 26 } := by
  refine ⟨?_, ?h⟩
  rotate_left
  conv => rhs; whnf
noncomputable def t27 : { x : Stmt // x = topAt 27 } := by
  refine ⟨?_, ?h⟩
  rotate_left
  conv => rhs; whnf
noncomputable def f0 : { x : Arguments × List Stmt × Scope // x = defOf (topAt 0) } := by
  refine ⟨?_, ?h⟩
  rotate_left
  conv => rhs; whnf
noncomputable def f2m0 : { x : Arguments × List Stmt × Scope // x = defOf (inClass (topAt 2) 0) } := by
  refine ⟨?_, ?h⟩
  rotate_left
  conv => rhs; whnf
noncomputable def f2m1 : { x : Arguments × List Stmt × Scope // x = defOf (inClass (topAt 2) 1) } := by
  refine ⟨?_, ?h⟩
  rotate_left
  conv => rhs; whnf
noncomputable def f5 : { x : Arguments × List Stmt × Scope // x = defOf (topAt 5) } := by
  refine ⟨?_, ?h⟩
  rotate_left
  conv => rhs; whnf
noncomputable def f6 : { x : Arguments × List Stmt × Scope // x = defOf (topAt 6) } := by
  refine ⟨?_, ?h⟩
  rotate_left
  conv => rhs; whnf
noncomputable def f7m0 : { x : Arguments × List Stmt × Scope // x = defOf (inClass (topAt 7) 0) } := by
  refine ⟨?_, ?h⟩
  rotate_left
  conv => rhs; whnf
noncomputable def f7m1 : { x : Arguments × List Stmt × Scope // x = defOf (inClass (topAt 7) 1) } := by
  refine ⟨?_, ?h⟩
  rotate_left
  conv => rhs; whnf
noncomputable def f7m2 : { x : Arguments × List Stmt × Scope // x = defOf (inClass (topAt 7) 2) } := by
  refine ⟨?_, ?h⟩
  rotate_left
  conv => rhs; whnf
noncomputable def f7m3 : { x : Arguments × List Stmt × Scope // x = defOf (inClass (topAt 7) 3) } := by
  refine ⟨?_, ?h⟩
  rotate_left
  conv => rhs; whnf
noncomputable def f7m4 : { x : Arguments × List Stmt × Scope // x = defOf (inClass (topAt 7) 4) } := by
  refine ⟨?_, ?h⟩
  rotate_left
  conv => rhs; whnf
noncomputable def f7m5 : { x : Arguments × List Stmt × Scope // x = defOf (inClass (topAt 7) 5) } := by
  refine ⟨?_, ?h⟩
  rotate_left
  conv => rhs; whnf
noncomputable def f7m6 : { x : Arguments × List Stmt × Scope // x = defOf (inClass (topAt 7) 6) } := by
  refine ⟨?_, ?h⟩
  rotate_left
  conv => rhs; whnf
noncomputable def f7m7 : { x : Arguments × List Stmt × Scope // x = defOf (inClass (topAt 7) 7) } := by
  refine ⟨?_, ?h⟩
  rotate_left
  conv => rhs; whnf
noncomputable def f7m8 : { x : Arguments × List Stmt × Scope // x = defOf (inClass (topAt 7) 8) } := by
  refine ⟨?_, ?h⟩
  rotate_left
  conv => rhs; whnf
noncomputable def f7m9 : { x : Arguments × List Stmt × Scope // x = defOf (inClass (topAt 7) 9) } := by
  refine ⟨?_, ?h⟩
  rotate_left
  conv => rhs; whnf
noncomputable def f7m10 : { x : Arguments × List Stmt × Scope // x = defOf (inClass (topAt 7) 10) } := by
  refine ⟨?_, ?h⟩
  rotate_left
  conv => rhs; whnf
noncomputable def f10 : { x : Arguments × List Stmt × Scope // x = defOf (topAt 10) } := by
  refine ⟨?_, ?h⟩
  rotate_left
  conv => rhs; whnf
noncomputable def f11 : { x : Arguments × List Stmt × Scope // x = defOf (topAt 11) } := by
  refine ⟨?_, ?h⟩
  rotate_left
  conv => rhs; whnf
noncomputable def f12 : { x : Arguments × List Stmt × Scope // x = defOf (topAt 12) } := by
  refine ⟨?_, ?h⟩
  rotate_left
  conv => rhs; whnf
noncomputable def f13 : { x : Arguments × List Stmt × Scope // x = defOf (topAt 13) } := by
  refine ⟨?_, ?h⟩
  rotate_left
  conv => rhs; whnf
noncomputable def f14 : { x : Arguments × List Stmt × Scope // x = defOf (topAt 14) } := by
  refine ⟨?_, ?h⟩
  rotate_left
  conv => rhs; whnf
noncomputable def f16 : { x : Arguments × List Stmt × Scope // x = defOf (topAt 16) } := by
  refine ⟨?_, ?h⟩
  rotate_left
  conv => rhs; whnf
noncomputable def f17 : { x : Arguments × List Stmt × Scope // x = defOf (topAt 17) } := by
  refine ⟨?_, ?h⟩
  rotate_left
  conv => rhs; whnf
noncomputable def f18 : { x : Arguments × List Stmt × Scope // x = defOf (topAt 18) } := by
  refine ⟨?_, ?h⟩
  rotate_left
  conv => rhs; whnf
noncomputable def f19 : { x : Arguments × List Stmt × Scope // x = defOf (topAt 19) } := by
  refine ⟨?_, ?h⟩
  rotate_left
  conv => rhs; whnf
noncomputable def f20 : { x : Arguments × List Stmt × Scope // x = defOf (topAt 20) } := by
  refine ⟨?_, ?h⟩
  rotate_left
  conv => rhs; whnf
noncomputable def f21 : { x : Arguments × List Stmt × Scope // x = defOf (topAt 21) } := by
  refine ⟨?_, ?h⟩
  rotate_left
  conv => rhs; whnf
noncomputable def f22 : { x : Arguments × List Stmt × Scope // x = defOf (topAt 22) } := by
  refine ⟨?_, ?h⟩
  rotate_left
  conv => rhs; whnf
noncomputable def f23 : { x : Arguments × List Stmt × Scope // x = defOf (topAt 23) } := by
  refine ⟨?_, ?h⟩
  rotate_left
  conv => rhs; whnf
noncomputable def f24 : { x : Arguments × List Stmt × Scope // x = defOf (topAt 24) } := by
  refine ⟨?_, ?h⟩
  rotate_left
  conv => rhs; whnf
noncomputable def f25 : { x : Arguments × List Stmt × Scope // x = defOf (topAt 25) } := by
  refine ⟨?_, ?h⟩
  rotate_left
  conv => rhs; whnf
noncomputable def f26 : { x : Arguments × List Stmt × Scope // x = defOf (topAt 26) } := by
  refine ⟨?_, ?h⟩
  rotate_left
  conv => rhs; whnf
noncomputable def f27 : { x : Arguments × List Stmt × Scope // x = defOf (topAt 27) } := by
  refine ⟨?_, ?h⟩
  rotate_left
  conv => rhs; whnf
noncomputable def heapK : Params → Frag :=
fun P =>
  (nat_lit 2,
      Obj.mk Value.none none
        (Data.dict
          #[DictEntry.mk (PyData.keyHash P (Str.ofString "type.__subclasses__.Exception.0"))
              (Value.str (Str.ofString "type.__subclasses__.Exception.0") 234) (Value.int 48 0),
            DictEntry.mk (PyData.keyHash P (Str.ofString "type.__subclasses__.Exception.n"))
              (Value.str (Str.ofString "type.__subclasses__.Exception.n") 235) (Value.int 1 0)]
          2)
        #[]) ::
    (nat_lit 3,
      Obj.mk (Value.type "dict") none
        (Data.dict
          #[DictEntry.mk (PyData.keyHash P (Str.ofString "__name__")) (Value.str (Str.ofString "__name__") 165)
              (Value.str (Str.ofString "law_nu0154_01") 448),
            DictEntry.mk (PyData.keyHash P (Str.ofString "__doc__")) (Value.str (Str.ofString "__doc__") 166)
              Value.none,
            DictEntry.mk (PyData.keyHash P (Str.ofString "__package__")) (Value.str (Str.ofString "__package__") 167)
              Value.none,
            DictEntry.mk (PyData.keyHash P (Str.ofString "__loader__")) (Value.str (Str.ofString "__loader__") 168)
              (Value.builtin "__main__.__loader__#opaque"),
            DictEntry.mk (PyData.keyHash P (Str.ofString "__spec__")) (Value.str (Str.ofString "__spec__") 169)
              Value.none,
            DictEntry.mk (PyData.keyHash P (Str.ofString "__annotations__"))
              (Value.str (Str.ofString "__annotations__") 170) (Value.ref 6),
            DictEntry.mk (PyData.keyHash P (Str.ofString "__builtins__")) (Value.str (Str.ofString "__builtins__") 171)
              (Value.ref 4),
            DictEntry.mk (PyData.keyHash P (Str.ofString "__file__")) (Value.str (Str.ofString "__file__") 173)
              (Value.str (Str.ofString "/claim/cut.py") 172),
            DictEntry.mk (PyData.keyHash P (Str.ofString "__cached__")) (Value.str (Str.ofString "__cached__") 174)
              Value.none,
            DictEntry.mk (PyData.keyHash P (Str.ofString "_wall")) (Value.str (Str.ofString "_wall") 193)
              (Value.ref 21),
            DictEntry.mk (PyData.keyHash P (Str.ofString "ShapeError")) (Value.str (Str.ofString "ShapeError") 237)
              (Value.ref 48),
            DictEntry.mk (PyData.keyHash P (Str.ofString "TableFault")) (Value.str (Str.ofString "TableFault") 253)
              (Value.ref 61),
            DictEntry.mk (PyData.keyHash P (Str.ofString "check_room")) (Value.str (Str.ofString "check_room") 264)
              (Value.ref 70),
            DictEntry.mk (PyData.keyHash P (Str.ofString "number_at")) (Value.str (Str.ofString "number_at") 275)
              (Value.ref 77),
            DictEntry.mk (PyData.keyHash P (Str.ofString "OctetsIn")) (Value.str (Str.ofString "OctetsIn") 380)
              (Value.ref 163),
            DictEntry.mk (PyData.keyHash P (Str.ofString "LAST_SHORT")) (Value.str (Str.ofString "LAST_SHORT") 384)
              (Value.int 65535 383),
            DictEntry.mk (PyData.keyHash P (Str.ofString "need_format")) (Value.str (Str.ofString "need_format") 393)
              (Value.ref 174),
            DictEntry.mk (PyData.keyHash P (Str.ofString "put_glyph")) (Value.str (Str.ofString "put_glyph") 402)
              (Value.ref 181),
            DictEntry.mk (PyData.keyHash P (Str.ofString "check_segments"))
              (Value.str (Str.ofString "check_segments") 414) (Value.ref 188),
            DictEntry.mk (PyData.keyHash P (Str.ofString "array_glyph")) (Value.str (Str.ofString "array_glyph") 425)
              (Value.ref 195),
            DictEntry.mk (PyData.keyHash P (Str.ofString "read_format4")) (Value.str (Str.ofString "read_format4") 447)
              (Value.ref 202),
            DictEntry.mk (PyData.keyHash P (Str.ofString "_law_pen")) (Value.str (Str.ofString "_law_pen") 458)
              (Value.ref 209),
            DictEntry.mk (PyData.keyHash P (Str.ofString "_law_draw")) (Value.str (Str.ofString "_law_draw") 467)
              (Value.ref 216),
            DictEntry.mk (PyData.keyHash P (Str.ofString "_law_pick")) (Value.str (Str.ofString "_law_pick") 475)
              (Value.ref 223),
            DictEntry.mk (PyData.keyHash P (Str.ofString "_law_segments"))
              (Value.str (Str.ofString "_law_segments") 486) (Value.ref 230),
            DictEntry.mk (PyData.keyHash P (Str.ofString "_law_numbers")) (Value.str (Str.ofString "_law_numbers") 492)
              (Value.ref 235),
            DictEntry.mk (PyData.keyHash P (Str.ofString "_law_bent")) (Value.str (Str.ofString "_law_bent") 505)
              (Value.ref 242),
            DictEntry.mk (PyData.keyHash P (Str.ofString "_law_u16")) (Value.str (Str.ofString "_law_u16") 513)
              (Value.ref 249),
            DictEntry.mk (PyData.keyHash P (Str.ofString "_law_codes")) (Value.str (Str.ofString "_law_codes") 519)
              (Value.ref 254),
            DictEntry.mk (PyData.keyHash P (Str.ofString "_law_due")) (Value.str (Str.ofString "_law_due") 525)
              (Value.ref 259),
            DictEntry.mk (PyData.keyHash P (Str.ofString "_law_heard")) (Value.str (Str.ofString "_law_heard") 534)
              (Value.ref 266),
            DictEntry.mk (PyData.keyHash P (Str.ofString "_law_is_dear")) (Value.str (Str.ofString "_law_is_dear") 540)
              (Value.ref 271),
            DictEntry.mk (PyData.keyHash P (Str.ofString "law")) (Value.str (Str.ofString "law") 546) (Value.ref 276)]
          33)
        #[]) ::
    (nat_lit 15, Obj.mk (Value.type "tuple") none (Data.seq #[]) #[]) ::
    (nat_lit 17, Obj.mk (Value.type "tuple") none (Data.seq #[Value.str (Str.ofString "k") 190]) #[]) ::
    (nat_lit 18, Obj.mk (Value.type "tuple") none (Data.seq #[]) #[]) ::
    (nat_lit 20,
      Obj.mk (Value.type "code") none
        (Data.fields
          #[Value.str (Str.ofString "_wall") 187, Value.str (Str.ofString "_wall") 188,
            Value.str (Str.ofString "/claim/cut.py") 189, Value.int 1 0, Value.int 1 0, Value.int 0 0, Value.int 0 0,
            Value.int 3 0, Value.ref 15, Value.bool true, Value.int 181 0, Value.ref 16, Value.none, Value.ref 17,
            Value.ref 18, Value.ref 19, Value.int 191 0, Value.int 1 0, Value.str (Str.ofString "/claim/cut.py") 192])
        #[]) ::
    (nat_lit 21,
      Obj.mk (Value.type "function") none
        (Data.func
          (FuncData.mk (Str.ofString "_wall") (Str.ofString "_wall") f0.1.1 (FuncBody.stmts f0.1.2.1) f0.1.2.2 3 [] Value.none Value.none
            Value.none (Value.str (Str.ofString "__main__") 164) none (Value.ref 20) Value.none 0))
        #[]) ::
    (nat_lit 22, Obj.mk (Value.type "tuple") none (Data.seq #[Value.type "Exception"]) #[]) ::
    (nat_lit 25, Obj.mk (Value.type "cell") none (Data.cell (some (Value.ref 48))) #[]) ::
    (nat_lit 30, Obj.mk (Value.type "tuple") none (Data.seq #[Value.int (-1) 209]) #[]) ::
    (nat_lit 31, Obj.mk (Value.type "tuple") none (Data.seq #[Value.ref 25]) #[]) ::
    (nat_lit 32, Obj.mk (Value.type "tuple") none (Data.seq #[Value.str (Str.ofString "__class__") 213]) #[]) ::
    (nat_lit 34,
      Obj.mk (Value.type "tuple") none
        (Data.seq
          #[Value.str (Str.ofString "self") 214, Value.str (Str.ofString "what") 215,
            Value.str (Str.ofString "at") 216])
        #[]) ::
    (nat_lit 35, Obj.mk (Value.type "tuple") none (Data.seq #[]) #[]) ::
    (nat_lit 37,
      Obj.mk (Value.type "code") none
        (Data.fields
          #[Value.str (Str.ofString "__init__") 210, Value.str (Str.ofString "ShapeError.__init__") 211,
            Value.str (Str.ofString "/claim/cut.py") 212, Value.int 7 0, Value.int 3 0, Value.int 0 0, Value.int 0 0,
            Value.int 3 0, Value.ref 32, Value.bool true, Value.int 181 0, Value.ref 33, Value.none, Value.ref 34,
            Value.ref 35, Value.ref 36, Value.int 217 0, Value.int 7 0, Value.str (Str.ofString "/claim/cut.py") 218])
        #[]) ::
    (nat_lit 38,
      Obj.mk (Value.type "function") none
        (Data.func
          (FuncData.mk (Str.ofString "__init__") (Str.ofString "ShapeError.__init__") f2m0.1.1 (FuncBody.stmts f2m0.1.2.1) f2m0.1.2.2
            3 [(Str.ofString "__class__", 25)] (Value.ref 30) Value.none Value.none
            (Value.str (Str.ofString "joinedhand.errors") 194) none (Value.ref 37) (Value.ref 31) 0))
        #[]) ::
    (nat_lit 39, Obj.mk (Value.type "tuple") none (Data.seq #[]) #[]) ::
    (nat_lit 41, Obj.mk (Value.type "tuple") none (Data.seq #[Value.str (Str.ofString "self") 223]) #[]) ::
    (nat_lit 42, Obj.mk (Value.type "tuple") none (Data.seq #[]) #[]) ::
    (nat_lit 44,
      Obj.mk (Value.type "code") none
        (Data.fields
          #[Value.str (Str.ofString "told") 220, Value.str (Str.ofString "ShapeError.told") 221,
            Value.str (Str.ofString "/claim/cut.py") 222, Value.int 12 0, Value.int 1 0, Value.int 0 0, Value.int 0 0,
            Value.int 3 0, Value.ref 39, Value.bool true, Value.int 181 0, Value.ref 40, Value.none, Value.ref 41,
            Value.ref 42, Value.ref 43, Value.int 224 0, Value.int 12 0, Value.str (Str.ofString "/claim/cut.py") 225])
        #[]) ::
    (nat_lit 45,
      Obj.mk (Value.type "function") none
        (Data.func
          (FuncData.mk (Str.ofString "told") (Str.ofString "ShapeError.told") f2m1.1.1 (FuncBody.stmts f2m1.1.2.1) f2m1.1.2.2
            3 [] Value.none Value.none Value.none (Value.str (Str.ofString "joinedhand.errors") 194) none (Value.ref 44)
            Value.none 0))
        #[]) ::
    (nat_lit 46,
      Obj.mk (Value.type "tuple") none
        (Data.seq #[Value.str (Str.ofString "at") 227, Value.str (Str.ofString "what") 228]) #[]) ::
    (nat_lit 47,
      Obj.mk (Value.type "dict") none
        (Data.dict
          #[DictEntry.mk (PyData.keyHash P (Str.ofString "__module__")) (Value.str (Str.ofString "__module__") 203)
              (Value.str (Str.ofString "joinedhand.errors") 194),
            DictEntry.mk (PyData.keyHash P (Str.ofString "__firstlineno__"))
              (Value.str (Str.ofString "__firstlineno__") 207) (Value.int 5 206),
            DictEntry.mk (PyData.keyHash P (Str.ofString "__init__")) (Value.str (Str.ofString "__init__") 219)
              (Value.ref 38),
            DictEntry.mk (PyData.keyHash P (Str.ofString "told")) (Value.str (Str.ofString "told") 226) (Value.ref 45),
            DictEntry.mk (PyData.keyHash P (Str.ofString "__static_attributes__"))
              (Value.str (Str.ofString "__static_attributes__") 229) (Value.ref 46),
            DictEntry.mk (PyData.keyHash P (Str.ofString "__weakref__")) (Value.str (Str.ofString "__weakref__") 232)
              (Value.ref 49),
            DictEntry.mk (PyData.keyHash P (Str.ofString "__doc__")) (Value.str (Str.ofString "__doc__") 233)
              Value.none]
          4)
        #[]) ::
    (nat_lit 48,
      Obj.mk (Value.type "type") none
        (Data.cls
          (ClassData.mk (Str.ofString "ShapeError") [Value.type "Exception"]
            [Value.ref 48, Value.type "Exception", Value.type "BaseException", Value.type "object"] 47
            (Str.ofString "ShapeError") true [] [Value.ref 61] false none false))
        #[some (Value.ref 22), none, some (Value.str (Str.ofString "ShapeError") 196),
          some (Value.str (Str.ofString "ShapeError") 204), some (Value.builtin "Exception.__new__"),
          some (Value.bool true)]) ::
    (nat_lit 49,
      Obj.mk (Value.type "getset_descriptor") none
        (Data.fields
          #[Value.str (Str.ofString "__weakref__") 231, Value.ref 48, Value.builtin "ExceptionGroup.__weakref__",
            Value.none])
        #[]) ::
    (nat_lit 52, Obj.mk (Value.type "tuple") none (Data.seq #[Value.ref 48]) #[]) ::
    (nat_lit 59, Obj.mk (Value.type "tuple") none (Data.seq #[]) #[]) ::
    (nat_lit 60,
      Obj.mk (Value.type "dict") none
        (Data.dict
          #[DictEntry.mk (PyData.keyHash P (Str.ofString "__module__")) (Value.str (Str.ofString "__module__") 245)
              (Value.str (Str.ofString "joinedhand.errors") 194),
            DictEntry.mk (PyData.keyHash P (Str.ofString "__firstlineno__"))
              (Value.str (Str.ofString "__firstlineno__") 249) (Value.int 14 248),
            DictEntry.mk (PyData.keyHash P (Str.ofString "__static_attributes__"))
              (Value.str (Str.ofString "__static_attributes__") 250) (Value.ref 59),
            DictEntry.mk (PyData.keyHash P (Str.ofString "__doc__")) (Value.str (Str.ofString "__doc__") 251)
              Value.none]
          2)
        #[]) ::
    (nat_lit 61,
      Obj.mk (Value.type "type") none
        (Data.cls
          (ClassData.mk (Str.ofString "TableFault") [Value.ref 48]
            [Value.ref 61, Value.ref 48, Value.type "Exception", Value.type "BaseException", Value.type "object"] 60
            (Str.ofString "TableFault") true [] [] false none false))
        #[some (Value.ref 52), none, some (Value.str (Str.ofString "TableFault") 238),
          some (Value.str (Str.ofString "TableFault") 246), some (Value.builtin "Exception.__new__"),
          some (Value.bool true)]) ::
    (nat_lit 64, Obj.mk (Value.type "tuple") none (Data.seq #[]) #[]) ::
    (nat_lit 66,
      Obj.mk (Value.type "tuple") none
        (Data.seq
          #[Value.str (Str.ofString "data") 259, Value.str (Str.ofString "at") 260,
            Value.str (Str.ofString "count") 261])
        #[]) ::
    (nat_lit 67, Obj.mk (Value.type "tuple") none (Data.seq #[]) #[]) ::
    (nat_lit 69,
      Obj.mk (Value.type "code") none
        (Data.fields
          #[Value.str (Str.ofString "check_room") 256, Value.str (Str.ofString "check_room") 257,
            Value.str (Str.ofString "/claim/cut.py") 258, Value.int 17 0, Value.int 3 0, Value.int 0 0, Value.int 0 0,
            Value.int 3 0, Value.ref 64, Value.bool true, Value.int 181 0, Value.ref 65, Value.none, Value.ref 66,
            Value.ref 67, Value.ref 68, Value.int 262 0, Value.int 17 0, Value.str (Str.ofString "/claim/cut.py") 263])
        #[]) ::
    (nat_lit 70,
      Obj.mk (Value.type "function") none
        (Data.func
          (FuncData.mk (Str.ofString "check_room") (Str.ofString "check_room") f5.1.1 (FuncBody.stmts f5.1.2.1) f5.1.2.2
            3 [] Value.none Value.none Value.none (Value.str (Str.ofString "joinedhand.octets") 254) none (Value.ref 69)
            Value.none 0))
        #[]) ::
    (nat_lit 71, Obj.mk (Value.type "tuple") none (Data.seq #[]) #[]) ::
    (nat_lit 73,
      Obj.mk (Value.type "tuple") none
        (Data.seq
          #[Value.str (Str.ofString "data") 268, Value.str (Str.ofString "at") 269,
            Value.str (Str.ofString "count") 270, Value.str (Str.ofString "total") 271,
            Value.str (Str.ofString "code") 272])
        #[]) ::
    (nat_lit 74, Obj.mk (Value.type "tuple") none (Data.seq #[]) #[]) ::
    (nat_lit 76,
      Obj.mk (Value.type "code") none
        (Data.fields
          #[Value.str (Str.ofString "number_at") 265, Value.str (Str.ofString "number_at") 266,
            Value.str (Str.ofString "/claim/cut.py") 267, Value.int 20 0, Value.int 3 0, Value.int 0 0, Value.int 0 0,
            Value.int 3 0, Value.ref 71, Value.bool true, Value.int 181 0, Value.ref 72, Value.none, Value.ref 73,
            Value.ref 74, Value.ref 75, Value.int 273 0, Value.int 20 0, Value.str (Str.ofString "/claim/cut.py") 274])
        #[]) ::
    (nat_lit 77,
      Obj.mk (Value.type "function") none
        (Data.func
          (FuncData.mk (Str.ofString "number_at") (Str.ofString "number_at") f6.1.1 (FuncBody.stmts f6.1.2.1) f6.1.2.2
            3 [] Value.none Value.none Value.none (Value.str (Str.ofString "joinedhand.octets") 254) none (Value.ref 76)
            Value.none 0))
        #[]) ::
    (nat_lit 85, Obj.mk (Value.type "tuple") none (Data.seq #[Value.int 0 288]) #[]) ::
    (nat_lit 86, Obj.mk (Value.type "tuple") none (Data.seq #[]) #[]) ::
    (nat_lit 88,
      Obj.mk (Value.type "tuple") none
        (Data.seq
          #[Value.str (Str.ofString "self") 292, Value.str (Str.ofString "data") 293,
            Value.str (Str.ofString "at") 294])
        #[]) ::
    (nat_lit 89, Obj.mk (Value.type "tuple") none (Data.seq #[]) #[]) ::
    (nat_lit 91,
      Obj.mk (Value.type "code") none
        (Data.fields
          #[Value.str (Str.ofString "__init__") 289, Value.str (Str.ofString "OctetsIn.__init__") 290,
            Value.str (Str.ofString "/claim/cut.py") 291, Value.int 28 0, Value.int 3 0, Value.int 0 0, Value.int 0 0,
            Value.int 3 0, Value.ref 86, Value.bool true, Value.int 181 0, Value.ref 87, Value.none, Value.ref 88,
            Value.ref 89, Value.ref 90, Value.int 295 0, Value.int 28 0, Value.str (Str.ofString "/claim/cut.py") 296])
        #[]) ::
    (nat_lit 92,
      Obj.mk (Value.type "function") none
        (Data.func
          (FuncData.mk (Str.ofString "__init__") (Str.ofString "OctetsIn.__init__") f7m0.1.1 (FuncBody.stmts f7m0.1.2.1) f7m0.1.2.2
            3 [] (Value.ref 85) Value.none Value.none (Value.str (Str.ofString "joinedhand.octets") 254) none
            (Value.ref 91) Value.none 0))
        #[]) ::
    (nat_lit 93, Obj.mk (Value.type "tuple") none (Data.seq #[]) #[]) ::
    (nat_lit 95,
      Obj.mk (Value.type "tuple") none
        (Data.seq #[Value.str (Str.ofString "self") 301, Value.str (Str.ofString "count") 302]) #[]) ::
    (nat_lit 96, Obj.mk (Value.type "tuple") none (Data.seq #[]) #[]) ::
    (nat_lit 98,
      Obj.mk (Value.type "code") none
        (Data.fields
          #[Value.str (Str.ofString "need") 298, Value.str (Str.ofString "OctetsIn.need") 299,
            Value.str (Str.ofString "/claim/cut.py") 300, Value.int 32 0, Value.int 2 0, Value.int 0 0, Value.int 0 0,
            Value.int 3 0, Value.ref 93, Value.bool true, Value.int 181 0, Value.ref 94, Value.none, Value.ref 95,
            Value.ref 96, Value.ref 97, Value.int 303 0, Value.int 32 0, Value.str (Str.ofString "/claim/cut.py") 304])
        #[]) ::
    (nat_lit 99,
      Obj.mk (Value.type "function") none
        (Data.func
          (FuncData.mk (Str.ofString "need") (Str.ofString "OctetsIn.need") f7m1.1.1 (FuncBody.stmts f7m1.1.2.1) f7m1.1.2.2
            3 [] Value.none Value.none Value.none (Value.str (Str.ofString "joinedhand.octets") 254) none (Value.ref 98)
            Value.none 0))
        #[]) ::
    (nat_lit 100, Obj.mk (Value.type "tuple") none (Data.seq #[]) #[]) ::
    (nat_lit 102,
      Obj.mk (Value.type "tuple") none
        (Data.seq
          #[Value.str (Str.ofString "self") 309, Value.str (Str.ofString "count") 310,
            Value.str (Str.ofString "found") 311])
        #[]) ::
    (nat_lit 103, Obj.mk (Value.type "tuple") none (Data.seq #[]) #[]) ::
    (nat_lit 105,
      Obj.mk (Value.type "code") none
        (Data.fields
          #[Value.str (Str.ofString "number") 306, Value.str (Str.ofString "OctetsIn.number") 307,
            Value.str (Str.ofString "/claim/cut.py") 308, Value.int 35 0, Value.int 2 0, Value.int 0 0, Value.int 0 0,
            Value.int 3 0, Value.ref 100, Value.bool true, Value.int 181 0, Value.ref 101, Value.none, Value.ref 102,
            Value.ref 103, Value.ref 104, Value.int 312 0, Value.int 35 0,
            Value.str (Str.ofString "/claim/cut.py") 313])
        #[]) ::
    (nat_lit 106,
      Obj.mk (Value.type "function") none
        (Data.func
          (FuncData.mk (Str.ofString "number") (Str.ofString "OctetsIn.number") f7m2.1.1 (FuncBody.stmts f7m2.1.2.1) f7m2.1.2.2
            3 [] Value.none Value.none Value.none (Value.str (Str.ofString "joinedhand.octets") 254) none
            (Value.ref 105) Value.none 0))
        #[]) ::
    (nat_lit 107, Obj.mk (Value.type "tuple") none (Data.seq #[]) #[]) ::
    (nat_lit 109, Obj.mk (Value.type "tuple") none (Data.seq #[Value.str (Str.ofString "self") 318]) #[]) ::
    (nat_lit 110, Obj.mk (Value.type "tuple") none (Data.seq #[]) #[]) ::
    (nat_lit 112,
      Obj.mk (Value.type "code") none
        (Data.fields
          #[Value.str (Str.ofString "u8") 315, Value.str (Str.ofString "OctetsIn.u8") 316,
            Value.str (Str.ofString "/claim/cut.py") 317, Value.int 40 0, Value.int 1 0, Value.int 0 0, Value.int 0 0,
            Value.int 3 0, Value.ref 107, Value.bool true, Value.int 181 0, Value.ref 108, Value.none, Value.ref 109,
            Value.ref 110, Value.ref 111, Value.int 319 0, Value.int 40 0,
            Value.str (Str.ofString "/claim/cut.py") 320])
        #[]) ::
    (nat_lit 113,
      Obj.mk (Value.type "function") none
        (Data.func
          (FuncData.mk (Str.ofString "u8") (Str.ofString "OctetsIn.u8") f7m3.1.1 (FuncBody.stmts f7m3.1.2.1) f7m3.1.2.2
            3 [] Value.none Value.none Value.none (Value.str (Str.ofString "joinedhand.octets") 254) none
            (Value.ref 112) Value.none 0))
        #[]) ::
    (nat_lit 114, Obj.mk (Value.type "tuple") none (Data.seq #[]) #[]) ::
    (nat_lit 116, Obj.mk (Value.type "tuple") none (Data.seq #[Value.str (Str.ofString "self") 325]) #[]) ::
    (nat_lit 117, Obj.mk (Value.type "tuple") none (Data.seq #[]) #[]) ::
    (nat_lit 119,
      Obj.mk (Value.type "code") none
        (Data.fields
          #[Value.str (Str.ofString "u16") 322, Value.str (Str.ofString "OctetsIn.u16") 323,
            Value.str (Str.ofString "/claim/cut.py") 324, Value.int 43 0, Value.int 1 0, Value.int 0 0, Value.int 0 0,
            Value.int 3 0, Value.ref 114, Value.bool true, Value.int 181 0, Value.ref 115, Value.none, Value.ref 116,
            Value.ref 117, Value.ref 118, Value.int 326 0, Value.int 43 0,
            Value.str (Str.ofString "/claim/cut.py") 327])
        #[]) ::
    (nat_lit 120,
      Obj.mk (Value.type "function") none
        (Data.func
          (FuncData.mk (Str.ofString "u16") (Str.ofString "OctetsIn.u16") f7m4.1.1 (FuncBody.stmts f7m4.1.2.1) f7m4.1.2.2 3 [] Value.none
            Value.none Value.none (Value.str (Str.ofString "joinedhand.octets") 254) none (Value.ref 119) Value.none 0))
        #[]) ::
    (nat_lit 121, Obj.mk (Value.type "tuple") none (Data.seq #[]) #[]) ::
    (nat_lit 123, Obj.mk (Value.type "tuple") none (Data.seq #[Value.str (Str.ofString "self") 332]) #[]) ::
    (nat_lit 124, Obj.mk (Value.type "tuple") none (Data.seq #[]) #[]) ::
    (nat_lit 126,
      Obj.mk (Value.type "code") none
        (Data.fields
          #[Value.str (Str.ofString "i16") 329, Value.str (Str.ofString "OctetsIn.i16") 330,
            Value.str (Str.ofString "/claim/cut.py") 331, Value.int 46 0, Value.int 1 0, Value.int 0 0, Value.int 0 0,
            Value.int 3 0, Value.ref 121, Value.bool true, Value.int 181 0, Value.ref 122, Value.none, Value.ref 123,
            Value.ref 124, Value.ref 125, Value.int 333 0, Value.int 46 0,
            Value.str (Str.ofString "/claim/cut.py") 334])
        #[]) ::
    (nat_lit 127,
      Obj.mk (Value.type "function") none
        (Data.func
          (FuncData.mk (Str.ofString "i16") (Str.ofString "OctetsIn.i16") f7m5.1.1 (FuncBody.stmts f7m5.1.2.1) f7m5.1.2.2
            3 [] Value.none Value.none Value.none (Value.str (Str.ofString "joinedhand.octets") 254) none
            (Value.ref 126) Value.none 0))
        #[]) ::
    (nat_lit 128, Obj.mk (Value.type "tuple") none (Data.seq #[]) #[]) ::
    (nat_lit 130, Obj.mk (Value.type "tuple") none (Data.seq #[Value.str (Str.ofString "self") 339]) #[]) ::
    (nat_lit 131, Obj.mk (Value.type "tuple") none (Data.seq #[]) #[]) ::
    (nat_lit 133,
      Obj.mk (Value.type "code") none
        (Data.fields
          #[Value.str (Str.ofString "u24") 336, Value.str (Str.ofString "OctetsIn.u24") 337,
            Value.str (Str.ofString "/claim/cut.py") 338, Value.int 49 0, Value.int 1 0, Value.int 0 0, Value.int 0 0,
            Value.int 3 0, Value.ref 128, Value.bool true, Value.int 181 0, Value.ref 129, Value.none, Value.ref 130,
            Value.ref 131, Value.ref 132, Value.int 340 0, Value.int 49 0,
            Value.str (Str.ofString "/claim/cut.py") 341])
        #[]) ::
    (nat_lit 134,
      Obj.mk (Value.type "function") none
        (Data.func
          (FuncData.mk (Str.ofString "u24") (Str.ofString "OctetsIn.u24") f7m6.1.1 (FuncBody.stmts f7m6.1.2.1) f7m6.1.2.2
            3 [] Value.none Value.none Value.none (Value.str (Str.ofString "joinedhand.octets") 254) none
            (Value.ref 133) Value.none 0))
        #[]) ::
    (nat_lit 135, Obj.mk (Value.type "tuple") none (Data.seq #[]) #[]) ::
    (nat_lit 137, Obj.mk (Value.type "tuple") none (Data.seq #[Value.str (Str.ofString "self") 346]) #[]) ::
    (nat_lit 138, Obj.mk (Value.type "tuple") none (Data.seq #[]) #[]) ::
    (nat_lit 140,
      Obj.mk (Value.type "code") none
        (Data.fields
          #[Value.str (Str.ofString "u32") 343, Value.str (Str.ofString "OctetsIn.u32") 344,
            Value.str (Str.ofString "/claim/cut.py") 345, Value.int 52 0, Value.int 1 0, Value.int 0 0, Value.int 0 0,
            Value.int 3 0, Value.ref 135, Value.bool true, Value.int 181 0, Value.ref 136, Value.none, Value.ref 137,
            Value.ref 138, Value.ref 139, Value.int 347 0, Value.int 52 0,
            Value.str (Str.ofString "/claim/cut.py") 348])
        #[]) ::
    (nat_lit 141,
      Obj.mk (Value.type "function") none
        (Data.func
          (FuncData.mk (Str.ofString "u32") (Str.ofString "OctetsIn.u32") f7m7.1.1 (FuncBody.stmts f7m7.1.2.1) f7m7.1.2.2
            3 [] Value.none Value.none Value.none (Value.str (Str.ofString "joinedhand.octets") 254) none
            (Value.ref 140) Value.none 0))
        #[]) ::
    (nat_lit 142, Obj.mk (Value.type "tuple") none (Data.seq #[]) #[]) ::
    (nat_lit 144, Obj.mk (Value.type "tuple") none (Data.seq #[Value.str (Str.ofString "self") 353]) #[]) ::
    (nat_lit 145, Obj.mk (Value.type "tuple") none (Data.seq #[]) #[]) ::
    (nat_lit 147,
      Obj.mk (Value.type "code") none
        (Data.fields
          #[Value.str (Str.ofString "tag") 350, Value.str (Str.ofString "OctetsIn.tag") 351,
            Value.str (Str.ofString "/claim/cut.py") 352, Value.int 55 0, Value.int 1 0, Value.int 0 0, Value.int 0 0,
            Value.int 3 0, Value.ref 142, Value.bool true, Value.int 181 0, Value.ref 143, Value.none, Value.ref 144,
            Value.ref 145, Value.ref 146, Value.int 354 0, Value.int 55 0,
            Value.str (Str.ofString "/claim/cut.py") 355])
        #[]) ::
    (nat_lit 148,
      Obj.mk (Value.type "function") none
        (Data.func
          (FuncData.mk (Str.ofString "tag") (Str.ofString "OctetsIn.tag") f7m8.1.1 (FuncBody.stmts f7m8.1.2.1) f7m8.1.2.2
            3 [] Value.none Value.none Value.none (Value.str (Str.ofString "joinedhand.octets") 254) none
            (Value.ref 147) Value.none 0))
        #[]) ::
    (nat_lit 149, Obj.mk (Value.type "tuple") none (Data.seq #[]) #[]) ::
    (nat_lit 152,
      Obj.mk (Value.type "code") none
        (Data.fields
          #[Value.str (Str.ofString "rows") 357, Value.str (Str.ofString "OctetsIn.rows") 358,
            Value.str (Str.ofString "/claim/cut.py") 359, Value.int 58 0, Value.int 2 0, Value.int 0 0, Value.int 0 0,
            Value.int 3 0, Value.ref 149, Value.bool true, Value.int 181 0, Value.ref 150, Value.none, Value.none,
            Value.none, Value.ref 151, Value.int 360 0, Value.int 58 0, Value.str (Str.ofString "/claim/cut.py") 361])
        #[]) ::
    (nat_lit 153,
      Obj.mk (Value.type "function") none
        (Data.func
          (FuncData.mk (Str.ofString "rows") (Str.ofString "OctetsIn.rows") f7m9.1.1 (FuncBody.stmts f7m9.1.2.1) f7m9.1.2.2
            3 [] Value.none Value.none Value.none (Value.str (Str.ofString "joinedhand.octets") 254) none
            (Value.ref 152) Value.none 0))
        #[]) ::
    (nat_lit 154, Obj.mk (Value.type "tuple") none (Data.seq #[]) #[]) ::
    (nat_lit 156,
      Obj.mk (Value.type "tuple") none
        (Data.seq #[Value.str (Str.ofString "self") 366, Value.str (Str.ofString "offset") 367]) #[]) ::
    (nat_lit 157, Obj.mk (Value.type "tuple") none (Data.seq #[]) #[]) ::
    (nat_lit 159,
      Obj.mk (Value.type "code") none
        (Data.fields
          #[Value.str (Str.ofString "here") 363, Value.str (Str.ofString "OctetsIn.here") 364,
            Value.str (Str.ofString "/claim/cut.py") 365, Value.int 62 0, Value.int 2 0, Value.int 0 0, Value.int 0 0,
            Value.int 3 0, Value.ref 154, Value.bool true, Value.int 181 0, Value.ref 155, Value.none, Value.ref 156,
            Value.ref 157, Value.ref 158, Value.int 368 0, Value.int 62 0,
            Value.str (Str.ofString "/claim/cut.py") 369])
        #[]) ::
    (nat_lit 160,
      Obj.mk (Value.type "function") none
        (Data.func
          (FuncData.mk (Str.ofString "here") (Str.ofString "OctetsIn.here") f7m10.1.1 (FuncBody.stmts f7m10.1.2.1) f7m10.1.2.2
            3 [] Value.none Value.none Value.none (Value.str (Str.ofString "joinedhand.octets") 254) none
            (Value.ref 159) Value.none 0))
        #[]) ::
    (nat_lit 161,
      Obj.mk (Value.type "tuple") none
        (Data.seq #[Value.str (Str.ofString "at") 371, Value.str (Str.ofString "data") 372]) #[]) ::
    (nat_lit 162,
      Obj.mk (Value.type "dict") none
        (Data.dict
          #[DictEntry.mk (PyData.keyHash P (Str.ofString "__module__")) (Value.str (Str.ofString "__module__") 283)
              (Value.str (Str.ofString "joinedhand.octets") 254),
            DictEntry.mk (PyData.keyHash P (Str.ofString "__firstlineno__"))
              (Value.str (Str.ofString "__firstlineno__") 287) (Value.int 26 286),
            DictEntry.mk (PyData.keyHash P (Str.ofString "__init__")) (Value.str (Str.ofString "__init__") 297)
              (Value.ref 92),
            DictEntry.mk (PyData.keyHash P (Str.ofString "need")) (Value.str (Str.ofString "need") 305) (Value.ref 99),
            DictEntry.mk (PyData.keyHash P (Str.ofString "number")) (Value.str (Str.ofString "number") 314)
              (Value.ref 106),
            DictEntry.mk (PyData.keyHash P (Str.ofString "u8")) (Value.str (Str.ofString "u8") 321) (Value.ref 113),
            DictEntry.mk (PyData.keyHash P (Str.ofString "u16")) (Value.str (Str.ofString "u16") 328) (Value.ref 120),
            DictEntry.mk (PyData.keyHash P (Str.ofString "i16")) (Value.str (Str.ofString "i16") 335) (Value.ref 127),
            DictEntry.mk (PyData.keyHash P (Str.ofString "u24")) (Value.str (Str.ofString "u24") 342) (Value.ref 134),
            DictEntry.mk (PyData.keyHash P (Str.ofString "u32")) (Value.str (Str.ofString "u32") 349) (Value.ref 141),
            DictEntry.mk (PyData.keyHash P (Str.ofString "tag")) (Value.str (Str.ofString "tag") 356) (Value.ref 148),
            DictEntry.mk (PyData.keyHash P (Str.ofString "rows")) (Value.str (Str.ofString "rows") 362) (Value.ref 153),
            DictEntry.mk (PyData.keyHash P (Str.ofString "here")) (Value.str (Str.ofString "here") 370) (Value.ref 160),
            DictEntry.mk (PyData.keyHash P (Str.ofString "__static_attributes__"))
              (Value.str (Str.ofString "__static_attributes__") 373) (Value.ref 161),
            DictEntry.mk (PyData.keyHash P (Str.ofString "__dict__")) (Value.str (Str.ofString "__dict__") 375)
              (Value.ref 164),
            DictEntry.mk (PyData.keyHash P (Str.ofString "__weakref__")) (Value.str (Str.ofString "__weakref__") 377)
              (Value.ref 165),
            DictEntry.mk (PyData.keyHash P (Str.ofString "__doc__")) (Value.str (Str.ofString "__doc__") 378)
              Value.none]
          4)
        #[]) ::
    (nat_lit 163,
      Obj.mk (Value.type "type") none
        (Data.cls
          (ClassData.mk (Str.ofString "OctetsIn") [Value.type "object"] [Value.ref 163, Value.type "object"] 162
            (Str.ofString "OctetsIn") true [] [] false none false))
        #[none, none, some (Value.str (Str.ofString "OctetsIn") 276), some (Value.str (Str.ofString "OctetsIn") 284),
          some (Value.builtin "object.__new__"), some (Value.bool true)]) ::
    (nat_lit 164,
      Obj.mk (Value.type "getset_descriptor") none
        (Data.fields
          #[Value.str (Str.ofString "__dict__") 374, Value.ref 163, Value.builtin "function.__dict__",
            Value.builtin "function.__dict__#set"])
        #[]) ::
    (nat_lit 165,
      Obj.mk (Value.type "getset_descriptor") none
        (Data.fields
          #[Value.str (Str.ofString "__weakref__") 376, Value.ref 163, Value.builtin "ExceptionGroup.__weakref__",
            Value.none])
        #[]) ::
    (nat_lit 168, Obj.mk (Value.type "tuple") none (Data.seq #[]) #[]) ::
    (nat_lit 170,
      Obj.mk (Value.type "tuple") none
        (Data.seq
          #[Value.str (Str.ofString "octets_in") 388, Value.str (Str.ofString "wanted") 389,
            Value.str (Str.ofString "at") 390])
        #[]) ::
    (nat_lit 171, Obj.mk (Value.type "tuple") none (Data.seq #[]) #[]) ::
    (nat_lit 173,
      Obj.mk (Value.type "code") none
        (Data.fields
          #[Value.str (Str.ofString "need_format") 385, Value.str (Str.ofString "need_format") 386,
            Value.str (Str.ofString "/claim/cut.py") 387, Value.int 66 0, Value.int 2 0, Value.int 0 0, Value.int 0 0,
            Value.int 3 0, Value.ref 168, Value.bool true, Value.int 181 0, Value.ref 169, Value.none, Value.ref 170,
            Value.ref 171, Value.ref 172, Value.int 391 0, Value.int 66 0,
            Value.str (Str.ofString "/claim/cut.py") 392])
        #[]) ::
    (nat_lit 174,
      Obj.mk (Value.type "function") none
        (Data.func
          (FuncData.mk (Str.ofString "need_format") (Str.ofString "need_format") f10.1.1 (FuncBody.stmts f10.1.2.1) f10.1.2.2
            3 [] Value.none Value.none Value.none (Value.str (Str.ofString "joinedhand.charmap") 381) none
            (Value.ref 173) Value.none 0))
        #[]) ::
    (nat_lit 175, Obj.mk (Value.type "tuple") none (Data.seq #[]) #[]) ::
    (nat_lit 177,
      Obj.mk (Value.type "tuple") none
        (Data.seq
          #[Value.str (Str.ofString "found") 397, Value.str (Str.ofString "code") 398,
            Value.str (Str.ofString "glyph") 399])
        #[]) ::
    (nat_lit 178, Obj.mk (Value.type "tuple") none (Data.seq #[]) #[]) ::
    (nat_lit 180,
      Obj.mk (Value.type "code") none
        (Data.fields
          #[Value.str (Str.ofString "put_glyph") 394, Value.str (Str.ofString "put_glyph") 395,
            Value.str (Str.ofString "/claim/cut.py") 396, Value.int 70 0, Value.int 3 0, Value.int 0 0, Value.int 0 0,
            Value.int 3 0, Value.ref 175, Value.bool true, Value.int 181 0, Value.ref 176, Value.none, Value.ref 177,
            Value.ref 178, Value.ref 179, Value.int 400 0, Value.int 70 0,
            Value.str (Str.ofString "/claim/cut.py") 401])
        #[]) ::
    (nat_lit 181,
      Obj.mk (Value.type "function") none
        (Data.func
          (FuncData.mk (Str.ofString "put_glyph") (Str.ofString "put_glyph") f11.1.1 (FuncBody.stmts f11.1.2.1) f11.1.2.2
            3 [] Value.none Value.none Value.none (Value.str (Str.ofString "joinedhand.charmap") 381) none
            (Value.ref 180) Value.none 0))
        #[]) ::
    (nat_lit 182, Obj.mk (Value.type "tuple") none (Data.seq #[]) #[]) ::
    (nat_lit 184,
      Obj.mk (Value.type "tuple") none
        (Data.seq
          #[Value.str (Str.ofString "ends") 406, Value.str (Str.ofString "starts") 407,
            Value.str (Str.ofString "ends_at") 408, Value.str (Str.ofString "starts_at") 409,
            Value.str (Str.ofString "last") 410, Value.str (Str.ofString "index") 411])
        #[]) ::
    (nat_lit 185, Obj.mk (Value.type "tuple") none (Data.seq #[]) #[]) ::
    (nat_lit 187,
      Obj.mk (Value.type "code") none
        (Data.fields
          #[Value.str (Str.ofString "check_segments") 403, Value.str (Str.ofString "check_segments") 404,
            Value.str (Str.ofString "/claim/cut.py") 405, Value.int 73 0, Value.int 4 0, Value.int 0 0, Value.int 0 0,
            Value.int 3 0, Value.ref 182, Value.bool true, Value.int 181 0, Value.ref 183, Value.none, Value.ref 184,
            Value.ref 185, Value.ref 186, Value.int 412 0, Value.int 73 0,
            Value.str (Str.ofString "/claim/cut.py") 413])
        #[]) ::
    (nat_lit 188,
      Obj.mk (Value.type "function") none
        (Data.func
          (FuncData.mk (Str.ofString "check_segments") (Str.ofString "check_segments") f12.1.1 (FuncBody.stmts f12.1.2.1) f12.1.2.2
            3 [] Value.none Value.none Value.none (Value.str (Str.ofString "joinedhand.charmap") 381) none
            (Value.ref 187) Value.none 0))
        #[]) ::
    (nat_lit 189, Obj.mk (Value.type "tuple") none (Data.seq #[]) #[]) ::
    (nat_lit 191,
      Obj.mk (Value.type "tuple") none
        (Data.seq
          #[Value.str (Str.ofString "data") 418, Value.str (Str.ofString "where") 419,
            Value.str (Str.ofString "end") 420, Value.str (Str.ofString "delta") 421,
            Value.str (Str.ofString "glyph") 422])
        #[]) ::
    (nat_lit 192, Obj.mk (Value.type "tuple") none (Data.seq #[]) #[]) ::
    (nat_lit 194,
      Obj.mk (Value.type "code") none
        (Data.fields
          #[Value.str (Str.ofString "array_glyph") 415, Value.str (Str.ofString "array_glyph") 416,
            Value.str (Str.ofString "/claim/cut.py") 417, Value.int 81 0, Value.int 4 0, Value.int 0 0, Value.int 0 0,
            Value.int 3 0, Value.ref 189, Value.bool true, Value.int 181 0, Value.ref 190, Value.none, Value.ref 191,
            Value.ref 192, Value.ref 193, Value.int 423 0, Value.int 81 0,
            Value.str (Str.ofString "/claim/cut.py") 424])
        #[]) ::
    (nat_lit 195,
      Obj.mk (Value.type "function") none
        (Data.func
          (FuncData.mk (Str.ofString "array_glyph") (Str.ofString "array_glyph") f13.1.1 (FuncBody.stmts f13.1.2.1) f13.1.2.2
            3 [] Value.none Value.none Value.none (Value.str (Str.ofString "joinedhand.charmap") 381) none
            (Value.ref 194) Value.none 0))
        #[]) ::
    (nat_lit 196, Obj.mk (Value.type "tuple") none (Data.seq #[]) #[]) ::
    (nat_lit 198,
      Obj.mk (Value.type "tuple") none
        (Data.seq
          #[Value.str (Str.ofString "data") 429, Value.str (Str.ofString "at") 430,
            Value.str (Str.ofString "octets_in") 431, Value.str (Str.ofString "end") 432,
            Value.str (Str.ofString "count") 433, Value.str (Str.ofString "ends_at") 434,
            Value.str (Str.ofString "ends") 435, Value.str (Str.ofString "starts_at") 436,
            Value.str (Str.ofString "starts") 437, Value.str (Str.ofString "deltas") 438,
            Value.str (Str.ofString "offsets_at") 439, Value.str (Str.ofString "offsets") 440,
            Value.str (Str.ofString "found") 441, Value.str (Str.ofString "index") 442,
            Value.str (Str.ofString "code") 443, Value.str (Str.ofString "where") 444])
        #[]) ::
    (nat_lit 199, Obj.mk (Value.type "tuple") none (Data.seq #[]) #[]) ::
    (nat_lit 201,
      Obj.mk (Value.type "code") none
        (Data.fields
          #[Value.str (Str.ofString "read_format4") 426, Value.str (Str.ofString "read_format4") 427,
            Value.str (Str.ofString "/claim/cut.py") 428, Value.int 86 0, Value.int 2 0, Value.int 0 0, Value.int 0 0,
            Value.int 3 0, Value.ref 196, Value.bool true, Value.int 181 0, Value.ref 197, Value.none, Value.ref 198,
            Value.ref 199, Value.ref 200, Value.int 445 0, Value.int 86 0,
            Value.str (Str.ofString "/claim/cut.py") 446])
        #[]) ::
    (nat_lit 202,
      Obj.mk (Value.type "function") none
        (Data.func
          (FuncData.mk (Str.ofString "read_format4") (Str.ofString "read_format4") f14.1.1 (FuncBody.stmts f14.1.2.1) f14.1.2.2
            3 [] Value.none Value.none Value.none (Value.str (Str.ofString "joinedhand.charmap") 381) none
            (Value.ref 201) Value.none 0))
        #[]) ::
    (nat_lit 203, Obj.mk (Value.type "tuple") none (Data.seq #[]) #[]) ::
    (nat_lit 205,
      Obj.mk (Value.type "tuple") none
        (Data.seq
          #[Value.str (Str.ofString "script") 453, Value.str (Str.ofString "number") 454,
            Value.str (Str.ofString "cell") 455])
        #[]) ::
    (nat_lit 206, Obj.mk (Value.type "tuple") none (Data.seq #[]) #[]) ::
    (nat_lit 208,
      Obj.mk (Value.type "code") none
        (Data.fields
          #[Value.str (Str.ofString "_law_pen") 450, Value.str (Str.ofString "_law_pen") 451,
            Value.str (Str.ofString "/claim/cut.py") 452, Value.int 114 0, Value.int 1 0, Value.int 0 0, Value.int 0 0,
            Value.int 3 0, Value.ref 203, Value.bool true, Value.int 181 0, Value.ref 204, Value.none, Value.ref 205,
            Value.ref 206, Value.ref 207, Value.int 456 0, Value.int 114 0,
            Value.str (Str.ofString "/claim/cut.py") 457])
        #[]) ::
    (nat_lit 209,
      Obj.mk (Value.type "function") none
        (Data.func
          (FuncData.mk (Str.ofString "_law_pen") (Str.ofString "_law_pen") f16.1.1 (FuncBody.stmts f16.1.2.1) f16.1.2.2
            3 [] Value.none Value.none Value.none (Value.str (Str.ofString "law_nu0154_01") 448) none (Value.ref 208)
            Value.none 0))
        #[]) ::
    (nat_lit 210, Obj.mk (Value.type "tuple") none (Data.seq #[]) #[]) ::
    (nat_lit 212,
      Obj.mk (Value.type "tuple") none
        (Data.seq
          #[Value.str (Str.ofString "pen") 462, Value.str (Str.ofString "many") 463,
            Value.str (Str.ofString "digit") 464])
        #[]) ::
    (nat_lit 213, Obj.mk (Value.type "tuple") none (Data.seq #[]) #[]) ::
    (nat_lit 215,
      Obj.mk (Value.type "code") none
        (Data.fields
          #[Value.str (Str.ofString "_law_draw") 459, Value.str (Str.ofString "_law_draw") 460,
            Value.str (Str.ofString "/claim/cut.py") 461, Value.int 119 0, Value.int 2 0, Value.int 0 0, Value.int 0 0,
            Value.int 3 0, Value.ref 210, Value.bool true, Value.int 181 0, Value.ref 211, Value.none, Value.ref 212,
            Value.ref 213, Value.ref 214, Value.int 465 0, Value.int 119 0,
            Value.str (Str.ofString "/claim/cut.py") 466])
        #[]) ::
    (nat_lit 216,
      Obj.mk (Value.type "function") none
        (Data.func
          (FuncData.mk (Str.ofString "_law_draw") (Str.ofString "_law_draw") f17.1.1 (FuncBody.stmts f17.1.2.1) f17.1.2.2
            3 [] Value.none Value.none Value.none (Value.str (Str.ofString "law_nu0154_01") 448) none (Value.ref 215)
            Value.none 0))
        #[]) ::
    (nat_lit 217, Obj.mk (Value.type "tuple") none (Data.seq #[]) #[]) ::
    (nat_lit 219,
      Obj.mk (Value.type "tuple") none
        (Data.seq #[Value.str (Str.ofString "pen") 471, Value.str (Str.ofString "some") 472]) #[]) ::
    (nat_lit 220, Obj.mk (Value.type "tuple") none (Data.seq #[]) #[]) ::
    (nat_lit 222,
      Obj.mk (Value.type "code") none
        (Data.fields
          #[Value.str (Str.ofString "_law_pick") 468, Value.str (Str.ofString "_law_pick") 469,
            Value.str (Str.ofString "/claim/cut.py") 470, Value.int 126 0, Value.int 2 0, Value.int 0 0, Value.int 0 0,
            Value.int 3 0, Value.ref 217, Value.bool true, Value.int 181 0, Value.ref 218, Value.none, Value.ref 219,
            Value.ref 220, Value.ref 221, Value.int 473 0, Value.int 126 0,
            Value.str (Str.ofString "/claim/cut.py") 474])
        #[]) ::
    (nat_lit 223,
      Obj.mk (Value.type "function") none
        (Data.func
          (FuncData.mk (Str.ofString "_law_pick") (Str.ofString "_law_pick") f18.1.1 (FuncBody.stmts f18.1.2.1) f18.1.2.2
            3 [] Value.none Value.none Value.none (Value.str (Str.ofString "law_nu0154_01") 448) none (Value.ref 222)
            Value.none 0))
        #[]) ::
    (nat_lit 224, Obj.mk (Value.type "tuple") none (Data.seq #[]) #[]) ::
    (nat_lit 226,
      Obj.mk (Value.type "tuple") none
        (Data.seq
          #[Value.str (Str.ofString "pen") 479, Value.str (Str.ofString "found") 480,
            Value.str (Str.ofString "code") 481, Value.str (Str.ofString "nth") 482,
            Value.str (Str.ofString "last") 483])
        #[]) ::
    (nat_lit 227, Obj.mk (Value.type "tuple") none (Data.seq #[]) #[]) ::
    (nat_lit 229,
      Obj.mk (Value.type "code") none
        (Data.fields
          #[Value.str (Str.ofString "_law_segments") 476, Value.str (Str.ofString "_law_segments") 477,
            Value.str (Str.ofString "/claim/cut.py") 478, Value.int 128 0, Value.int 1 0, Value.int 0 0, Value.int 0 0,
            Value.int 3 0, Value.ref 224, Value.bool true, Value.int 181 0, Value.ref 225, Value.none, Value.ref 226,
            Value.ref 227, Value.ref 228, Value.int 484 0, Value.int 128 0,
            Value.str (Str.ofString "/claim/cut.py") 485])
        #[]) ::
    (nat_lit 230,
      Obj.mk (Value.type "function") none
        (Data.func
          (FuncData.mk (Str.ofString "_law_segments") (Str.ofString "_law_segments") f19.1.1 (FuncBody.stmts f19.1.2.1) f19.1.2.2
            3 [] Value.none Value.none Value.none (Value.str (Str.ofString "law_nu0154_01") 448) none (Value.ref 229)
            Value.none 0))
        #[]) ::
    (nat_lit 231, Obj.mk (Value.type "tuple") none (Data.seq #[]) #[]) ::
    (nat_lit 234,
      Obj.mk (Value.type "code") none
        (Data.fields
          #[Value.str (Str.ofString "_law_numbers") 487, Value.str (Str.ofString "_law_numbers") 488,
            Value.str (Str.ofString "/claim/cut.py") 489, Value.int 135 0, Value.int 1 0, Value.int 0 0, Value.int 0 0,
            Value.int 3 0, Value.ref 231, Value.bool true, Value.int 181 0, Value.ref 232, Value.none, Value.none,
            Value.none, Value.ref 233, Value.int 490 0, Value.int 135 0, Value.str (Str.ofString "/claim/cut.py") 491])
        #[]) ::
    (nat_lit 235,
      Obj.mk (Value.type "function") none
        (Data.func
          (FuncData.mk (Str.ofString "_law_numbers") (Str.ofString "_law_numbers") f20.1.1 (FuncBody.stmts f20.1.2.1) f20.1.2.2
            3 [] Value.none Value.none Value.none (Value.str (Str.ofString "law_nu0154_01") 448) none (Value.ref 234)
            Value.none 0))
        #[]) ::
    (nat_lit 236, Obj.mk (Value.type "tuple") none (Data.seq #[]) #[]) ::
    (nat_lit 238,
      Obj.mk (Value.type "tuple") none
        (Data.seq
          #[Value.str (Str.ofString "pen") 496, Value.str (Str.ofString "numbers") 497,
            Value.str (Str.ofString "count") 498, Value.str (Str.ofString "way") 499,
            Value.str (Str.ofString "spot") 500, Value.str (Str.ofString "places") 501,
            Value.str (Str.ofString "other") 502])
        #[]) ::
    (nat_lit 239, Obj.mk (Value.type "tuple") none (Data.seq #[]) #[]) ::
    (nat_lit 241,
      Obj.mk (Value.type "code") none
        (Data.fields
          #[Value.str (Str.ofString "_law_bent") 493, Value.str (Str.ofString "_law_bent") 494,
            Value.str (Str.ofString "/claim/cut.py") 495, Value.int 144 0, Value.int 3 0, Value.int 0 0, Value.int 0 0,
            Value.int 3 0, Value.ref 236, Value.bool true, Value.int 181 0, Value.ref 237, Value.none, Value.ref 238,
            Value.ref 239, Value.ref 240, Value.int 503 0, Value.int 144 0,
            Value.str (Str.ofString "/claim/cut.py") 504])
        #[]) ::
    (nat_lit 242,
      Obj.mk (Value.type "function") none
        (Data.func
          (FuncData.mk (Str.ofString "_law_bent") (Str.ofString "_law_bent") f21.1.1 (FuncBody.stmts f21.1.2.1) f21.1.2.2
            3 [] Value.none Value.none Value.none (Value.str (Str.ofString "law_nu0154_01") 448) none (Value.ref 241)
            Value.none 0))
        #[]) ::
    (nat_lit 243, Obj.mk (Value.type "tuple") none (Data.seq #[]) #[]) ::
    (nat_lit 245,
      Obj.mk (Value.type "tuple") none
        (Data.seq #[Value.str (Str.ofString "data") 509, Value.str (Str.ofString "at") 510]) #[]) ::
    (nat_lit 246, Obj.mk (Value.type "tuple") none (Data.seq #[]) #[]) ::
    (nat_lit 248,
      Obj.mk (Value.type "code") none
        (Data.fields
          #[Value.str (Str.ofString "_law_u16") 506, Value.str (Str.ofString "_law_u16") 507,
            Value.str (Str.ofString "/claim/cut.py") 508, Value.int 152 0, Value.int 2 0, Value.int 0 0, Value.int 0 0,
            Value.int 3 0, Value.ref 243, Value.bool true, Value.int 181 0, Value.ref 244, Value.none, Value.ref 245,
            Value.ref 246, Value.ref 247, Value.int 511 0, Value.int 152 0,
            Value.str (Str.ofString "/claim/cut.py") 512])
        #[]) ::
    (nat_lit 249,
      Obj.mk (Value.type "function") none
        (Data.func
          (FuncData.mk (Str.ofString "_law_u16") (Str.ofString "_law_u16") f22.1.1 (FuncBody.stmts f22.1.2.1) f22.1.2.2
            3 [] Value.none Value.none Value.none (Value.str (Str.ofString "law_nu0154_01") 448) none (Value.ref 248)
            Value.none 0))
        #[]) ::
    (nat_lit 250, Obj.mk (Value.type "tuple") none (Data.seq #[]) #[]) ::
    (nat_lit 253,
      Obj.mk (Value.type "code") none
        (Data.fields
          #[Value.str (Str.ofString "_law_codes") 514, Value.str (Str.ofString "_law_codes") 515,
            Value.str (Str.ofString "/claim/cut.py") 516, Value.int 154 0, Value.int 4 0, Value.int 0 0, Value.int 0 0,
            Value.int 3 0, Value.ref 250, Value.bool true, Value.int 181 0, Value.ref 251, Value.none, Value.none,
            Value.none, Value.ref 252, Value.int 517 0, Value.int 154 0, Value.str (Str.ofString "/claim/cut.py") 518])
        #[]) ::
    (nat_lit 254,
      Obj.mk (Value.type "function") none
        (Data.func
          (FuncData.mk (Str.ofString "_law_codes") (Str.ofString "_law_codes") f23.1.1 (FuncBody.stmts f23.1.2.1) f23.1.2.2
            3 [] Value.none Value.none Value.none (Value.str (Str.ofString "law_nu0154_01") 448) none (Value.ref 253)
            Value.none 0))
        #[]) ::
    (nat_lit 255, Obj.mk (Value.type "tuple") none (Data.seq #[]) #[]) ::
    (nat_lit 258,
      Obj.mk (Value.type "code") none
        (Data.fields
          #[Value.str (Str.ofString "_law_due") 520, Value.str (Str.ofString "_law_due") 521,
            Value.str (Str.ofString "/claim/cut.py") 522, Value.int 168 0, Value.int 1 0, Value.int 0 0, Value.int 0 0,
            Value.int 3 0, Value.ref 255, Value.bool true, Value.int 181 0, Value.ref 256, Value.none, Value.none,
            Value.none, Value.ref 257, Value.int 523 0, Value.int 168 0, Value.str (Str.ofString "/claim/cut.py") 524])
        #[]) ::
    (nat_lit 259,
      Obj.mk (Value.type "function") none
        (Data.func
          (FuncData.mk (Str.ofString "_law_due") (Str.ofString "_law_due") f24.1.1 (FuncBody.stmts f24.1.2.1) f24.1.2.2
            3 [] Value.none Value.none Value.none (Value.str (Str.ofString "law_nu0154_01") 448) none (Value.ref 258)
            Value.none 0))
        #[]) ::
    (nat_lit 260, Obj.mk (Value.type "tuple") none (Data.seq #[]) #[]) ::
    (nat_lit 262,
      Obj.mk (Value.type "tuple") none
        (Data.seq
          #[Value.str (Str.ofString "data") 529, Value.str (Str.ofString "at") 530,
            Value.str (Str.ofString "fault") 531])
        #[]) ::
    (nat_lit 263, Obj.mk (Value.type "tuple") none (Data.seq #[]) #[]) ::
    (nat_lit 265,
      Obj.mk (Value.type "code") none
        (Data.fields
          #[Value.str (Str.ofString "_law_heard") 526, Value.str (Str.ofString "_law_heard") 527,
            Value.str (Str.ofString "/claim/cut.py") 528, Value.int 186 0, Value.int 2 0, Value.int 0 0, Value.int 0 0,
            Value.int 3 0, Value.ref 260, Value.bool true, Value.int 181 0, Value.ref 261, Value.none, Value.ref 262,
            Value.ref 263, Value.ref 264, Value.int 532 0, Value.int 186 0,
            Value.str (Str.ofString "/claim/cut.py") 533])
        #[]) ::
    (nat_lit 266,
      Obj.mk (Value.type "function") none
        (Data.func
          (FuncData.mk (Str.ofString "_law_heard") (Str.ofString "_law_heard") f25.1.1 (FuncBody.stmts f25.1.2.1) f25.1.2.2
            3 [] Value.none Value.none Value.none (Value.str (Str.ofString "law_nu0154_01") 448) none (Value.ref 265)
            Value.none 0))
        #[]) ::
    (nat_lit 267, Obj.mk (Value.type "tuple") none (Data.seq #[]) #[]) ::
    (nat_lit 270,
      Obj.mk (Value.type "code") none
        (Data.fields
          #[Value.str (Str.ofString "_law_is_dear") 535, Value.str (Str.ofString "_law_is_dear") 536,
            Value.str (Str.ofString "/claim/cut.py") 537, Value.int 191 0, Value.int 1 0, Value.int 0 0, Value.int 0 0,
            Value.int 3 0, Value.ref 267, Value.bool true, Value.int 181 0, Value.ref 268, Value.none, Value.none,
            Value.none, Value.ref 269, Value.int 538 0, Value.int 191 0, Value.str (Str.ofString "/claim/cut.py") 539])
        #[]) ::
    (nat_lit 271,
      Obj.mk (Value.type "function") none
        (Data.func
          (FuncData.mk (Str.ofString "_law_is_dear") (Str.ofString "_law_is_dear") f26.1.1 (FuncBody.stmts f26.1.2.1) f26.1.2.2
            3 [] Value.none Value.none Value.none (Value.str (Str.ofString "law_nu0154_01") 448) none (Value.ref 270)
            Value.none 0))
        #[]) ::
    (nat_lit 272, Obj.mk (Value.type "tuple") none (Data.seq #[]) #[]) ::
    (nat_lit 275,
      Obj.mk (Value.type "code") none
        (Data.fields
          #[Value.str (Str.ofString "law") 541, Value.str (Str.ofString "law") 542,
            Value.str (Str.ofString "/claim/cut.py") 543, Value.int 196 0, Value.int 1 0, Value.int 0 0, Value.int 0 0,
            Value.int 3 0, Value.ref 272, Value.bool true, Value.int 181 0, Value.ref 273, Value.none, Value.none,
            Value.none, Value.ref 274, Value.int 544 0, Value.int 196 0, Value.str (Str.ofString "/claim/cut.py") 545])
        #[]) ::
    (nat_lit 276,
      Obj.mk (Value.type "function") none
        (Data.func
          (FuncData.mk (Str.ofString "law") (Str.ofString "law") f27.1.1 (FuncBody.stmts f27.1.2.1) f27.1.2.2
            3 [] Value.none Value.none Value.none (Value.str (Str.ofString "law_nu0154_01") 448) none (Value.ref 275)
            Value.none 0))
        #[]) :: []
noncomputable def AS : List Addr := [2, 3, 15, 17, 18, 20, 21, 22, 25, 30, 31, 32, 34, 35, 37, 38, 39, 41, 42, 44, 45, 46, 47, 48, 49, 52, 59, 60, 61, 64, 66, 67, 69, 70, 71, 73, 74, 76, 77, 85, 86, 88, 89, 91, 92, 93, 95, 96, 98, 99, 100, 102, 103, 105, 106, 107, 109, 110, 112, 113, 114, 116, 117, 119, 120, 121, 123, 124, 126, 127, 128, 130, 131, 133, 134, 135, 137, 138, 140, 141, 142, 144, 145, 147, 148, 149, 152, 153, 154, 156, 157, 159, 160, 161, 162, 163, 164, 165, 168, 170, 171, 173, 174, 175, 177, 178, 180, 181, 182, 184, 185, 187, 188, 189, 191, 192, 194, 195, 196, 198, 199, 201, 202, 203, 205, 206, 208, 209, 210, 212, 213, 215, 216, 217, 219, 220, 222, 223, 224, 226, 227, 229, 230, 231, 234, 235, 236, 238, 239, 241, 242, 243, 245, 246, 248, 249, 250, 253, 254, 255, 258, 259, 260, 262, 263, 265, 266, 267, 270, 271, 272, 275, 276]
theorem asOk (P : Params) : AS = List.map (fun x => x.1) (heapK P) := by kernel_rfl
noncomputable def prgV : Program := { PySem.Challenge.rw_nu0154_01.row.toRowW.prog with main := { PySem.Challenge.rw_nu0154_01.row.toRowW.prog.main with body := [t0.1, t2.1, t3.1, t5.1, t6.1, t7.1, t9.1, t10.1, t11.1, t12.1, t13.1, t14.1, t16.1, t17.1, t18.1, t19.1, t20.1, t21.1, t22.1, t23.1, t24.1, t25.1, t26.1, t27.1] } }
set_option maxHeartbeats 0
noncomputable abbrev hookK : Hook := kHook heapK AS asOk
theorem top_left : LeftO PySem.Challenge.rw_nu0154_01.row.toRowW.prog prgV [Str.ofString "ShapeError"] (fun s => xlAt prgV [] s && recOk (RowW.records (OpenRow.toRowW PySem.Challenge.rw_nu0154_01.row)) s) (Hook.obs hookK) (Hook.val hookK) 3518 := by
  intro w
  exact (by kernel_rfl)
end
open PySem.Calls PySem.Spec
section
def Kept (h h' : Heap) (xs : List Addr) : Prop := ∀ b o, h.get? b = some o → b ∉ xs → h'.get? b = some o
theorem Kept.all {h h' : Heap} (k : Kept h h' []) : ∀ b o, h.get? b = some o → h'.get? b = some o := fun b o e => k b o e (fun q => nomatch q)
theorem Kept.of_all {h h' : Heap} (k : ∀ b o, h.get? b = some o → h'.get? b = some o) {xs : List Addr} : Kept h h' xs := fun b o e _ => k b o e
theorem Kept.out {h g h' : Heap} {xs : List Addr} {L : Addr} {m : Str → Option Value} (k : Kept h g xs) (F : Fr g L h' m) : Kept h h' xs := fun b o e n => F.keep b o (k b o e n)
theorem Kept.fresh {h g : Heap} {xs : List Addr} (k : Kept h g xs) {a : Addr} (e : g.get? a = none) (n : a ∉ xs) : h.get? a = none := by
  cases q : h.get? a with
  | none => rfl
  | some o => rw [k a o q n] at e; cases e
theorem Kept.fr {h₀ h h' : Heap} {L : Addr} {m : Str → Option Value} (F : Fr h₀ L h m) (k : Kept h h' []) : Fr h₀ L h' m := F.keeps k.all
theorem Kept.news {h₀ h h' : Heap} {L : Addr} {news : List (Addr × Obj)} (N : News h₀ L h news) (k : Kept h h' []) : News h₀ L h' news := fun p hp => ⟨k.all _ _ (N p hp).1, (N p hp).2⟩
theorem ne_of_get {h : Heap} {a b : Addr} {o : Obj} (e : h.get? a = some o) (n : h.get? b = none) : a ≠ b := fun q => by rw [q, n] at e; cases e
/-- one touched object of the ledger -/
theorem Kept.updF {h₀ h h' : Heap} {L d : Addr} {m : Str → Option Value} {o : Obj} {news : List (Addr × Obj)} {g : Obj → List (Addr × Obj)} (F : Fr h₀ L h m) (N : News h₀ L h news) (U : UpdF d o news g) (k : Kept h h' [d]) {o' : Obj} (e : h'.get? d = some o') :
    Fr h₀ L h' m ∧ News h₀ L h' (g o') := by
  obtain ⟨own, rest, rfl, hg, h1, h2⟩ := U.split
  have D := N (d, o) (List.mem_append_right _ (.head _))
  refine ⟨⟨F.ns.at' fun o' q => k _ _ q (by simpa using Ne.symm D.2.1), fun b ob q => k b ob (F.keep b ob q) (by simpa using ne_of_get q D.2.2), F.above⟩, ?_⟩
  rw [hg]
  intro p hp
  rcases List.mem_append.mp hp with q | q
  · have P := N p (List.mem_append_left _ q); exact ⟨k _ _ P.1 (by simpa using h1 p q), P.2⟩
  · rcases List.mem_cons.mp q with rfl | q
    · exact ⟨e, D.2⟩
    · have P := N p (List.mem_append_right _ (.tail _ q)); exact ⟨k _ _ P.1 (by simpa using h2 p q), P.2⟩
theorem UpdF.only {h₀ h : Heap} {L d : Addr} {o : Obj} {news : List (Addr × Obj)} {g : Obj → List (Addr × Obj)} (N : News h₀ L h news) (U : UpdF d o news g) : News h₀ L h [(d, o)] := by
  obtain ⟨own, rest, rfl, _, _, _⟩ := U.split
  intro p hp
  rcases List.mem_singleton.mp hp with rfl
  exact N _ (List.mem_append_right _ (.head _))
theorem getD_mem {ns : List Int} {i : Nat} (h : i < ns.length) : ns.getD i 0 ∈ ns := by
  rw [List.getD_eq_getElem?_getD, List.getElem?_eq_getElem h]
  exact List.getElem_mem h
section
variable {prog : Program} {w : World} {A A₀ : Around} {s : Shared} {K : Frag} {L : Addr} {h₀ base : Heap} {m mg mb : Str → Option Value} {news : List (Addr × Obj)} {p : Program} {loose : List Str} {mean : ExcName → Option Value}
theorem enterM {env : Env} {outer : List Env} {R : Result → Shared → Prop} {name qual : Str} {params : Arguments} {body : List Stmt} {scope : Scope} {dV kV doc pm cdv ct oc : Value} {an od : Option Addr} {osl : Array (Option Value)} {f : Addr} {args : Args} {binds : List (Str × Value)}
    (B : Below A₀ base outer h₀) (F : Fr h₀ L s.heap m) (X₀ : K.In h₀) (N : News h₀ L s.heap news) (T : Top p loose mean mg mb h₀) (hA : A.frames = some (env :: outer)) (hf : env.frame = some L) (hke : env.scope.kind = .function)
    (ho : K.lookup f = some ⟨oc, od, .func (fnOf name qual params body scope dV kV doc pm an cdv ct), osl⟩) (hcd : codeIn K cdv qual = true) (hroom : A.depth < recursionLimit)
    (hbind : BindsTo s (fnOf name qual params body scope dV kV doc pm an cdv ct) args binds) (hloc : ∀ y ∈ binds, scope.names.lookup y.1 = some .local)
    (h : ∀ g L' h₁ tk, Kept s.heap g (news.map (·.1)) → (∀ b o, g.get? b = some o → s.heap.get? b = some o) → Fr h₀ L g m → Fr g L' h₁ (fun y => binds.reverse.lookup y) → News g L' h₁ news → Below A base (env :: outer) g → K.In g → Top p loose mean mg mb g → (∀ p ∈ news, p.1 < L') → s.heap.objs.size ≤ L' →
      wpAny (model prog w) (A.deeper (envOf qual scope L' f cdv)) (execs body (envOf qual scope L' f cdv))
        (fun fl s' => LeaveK h₀ L m g R (match fl with | .ret v => v | _ => .none) s')
        (fun e s' => wpAny (model prog w) (A.deeper (envOf qual scope L' f cdv)) (leaving (envOf qual scope L' f cdv) e) (fun _ s'' => R (.error e) s'') (fun e' s'' => R (.error e') s'') s')
        { s with heap := h₁, toks := tk })
    (hco : scope.isCoroutine = false) (hgen : scope.isGenerator = false) (hk : scope.kind = .function)
    (hcell : ∀ x ∈ scope.names, x.2 ≠ .cell) : codeAny (model prog w) A (.call (.ref f) args) R s := by
  obtain ⟨FG, BG, st, lv⟩ := groundX (R := R) B F N hA hf hke
  refine codeAny_call_def (fd := fnOf name qual params body scope dV kV doc pm an cdv ct) (body := body) (binds := binds) hroom ((X₀.keeps F.keep) _ _ ho) rfl (T.nolimit.keeps F.keep) (codeRec_of (X₀.keeps F.keep) hcd) rfl hbind hcell hloc (fun h₁ hns hk₁ => ?_) hco hgen hk
  exact wpAny_mono (h _ s.heap.objs.size h₁ _ (fun b o e n => hideAll_get _ e n) (fun b o e => of_hideAll _ e) FG ⟨hns, fun b o e => hk₁ b o (of_hideAll _ e), Nat.le_of_eq (hideAll_size _ _)⟩
    (fun p hp => ⟨hk₁ _ _ (N p hp).1, Nat.ne_of_lt (Heap.lt_size (N p hp).1), hideAll_none _ (List.mem_map_of_mem hp)⟩) BG (X₀.keeps st) (T.keeps st) (fun p hp => Heap.lt_size (N p hp).1) (Nat.le_refl _)) (fun fl s' hl => lv _ _ hl) fun _ _ y => y
end
end
section
def Stop (P : Prop) : Prop := P
theorem stopped {P : Prop} (h : Stop P) : P := h
theorem Stop.go {P : Prop} (h : P) : Stop P := h
theorem allLt_ne {d : Addr} : ∀ {l : List (Addr × Obj)}, AllLt d l → ∀ p ∈ l, p.1 ≠ d
  | [], _ => fun _ h => nomatch h
  | _ :: _, h => fun q hq => by
    rcases List.mem_cons.mp hq with rfl | hq
    · exact Nat.ne_of_lt h.1
    · exact allLt_ne h.2 q hq
def TurnEnd (h₀ : Heap) (L : Addr) (I : Addr) (io : Obj) (Jn : (Str → Option Value) → List (Addr × Obj) → Prop) (s₁ s₂ : Shared) : Prop :=
  ∃ h' tk m' news', s₂ = { s₁ with heap := h', toks := tk } ∧ Fr h₀ L h' m' ∧ News h₀ L h' ((I, io) :: news') ∧ (∀ p ∈ news', p.1 ≠ I) ∧ Jn m' news'
def TurnPost (h₀ : Heap) (L : Addr) (I : Addr) (io : Obj) (Jn : (Str → Option Value) → List (Addr × Obj) → Prop) (s₁ : Shared) (Q : Flow → Shared → Prop) (f : Flow) (s₂ : Shared) : Prop :=
  match f with
  | .ret v => Q (.ret v) s₂
  | .brk => Q .next s₂
  | _ => TurnEnd h₀ L I io Jn s₁ s₂
theorem TurnEnd.intro {h₀ : Heap} {L : Addr} {I : Addr} {io : Obj} {Jn : (Str → Option Value) → List (Addr × Obj) → Prop} {s₁ : Shared} {h' : Heap} {tk : Nat} {m' : Str → Option Value} (news' : List (Addr × Obj)) {all : List (Addr × Obj)}
    (F : Fr h₀ L h' m') (N : News h₀ L h' all) (hs : ∀ p ∈ (I, io) :: news', p ∈ all) (hI : ∀ p ∈ news', p.1 ≠ I) (hJ : Jn m' news') : TurnEnd h₀ L I io Jn s₁ { s₁ with heap := h', toks := tk } :=
  ⟨h', tk, m', news', rfl, F, fun p hp => N p (hs p hp), hI, hJ⟩
section
variable {prog : Program} {w : World} {A : Around} {E : Value → Shared → Prop} {s : Shared} {env : Env} {h₀ : Heap} {x : Str} {body : List Stmt} {Q : Flow → Shared → Prop}
/-- a loop whose iterator is one fresh object -/
theorem loop_one {I : Addr} {n : Nat} {P : Nat → Value → Prop} {St : Nat → Heap → Prop} {fp : List Addr} {m₀ : Str → Option Value} {news : List (Addr × Obj)} (J : Nat → (Str → Option Value) → List (Addr × Obj) → Prop)
    (W : Walks prog w A I fp [I] n P St) (hLf : env.locals ∉ fp) (hI : h₀.get? I = none) (hnw : ∀ p ∈ news, p.1 ≠ I) (hfp : ∀ b ∈ fp, b = I ∨ ∃ o, h₀.get? b = some o)
    (hlive : ∀ i h, St i h → ∃ o, h.get? I = some o)
    (hst : St 0 s.heap) (F : Fr h₀ env.locals s.heap m₀) (N : News h₀ env.locals s.heap news) (hj : J 0 m₀ news)
    (turn : ∀ i v io m₁ news₁ h tk, i < n → P i v → (∀ p ∈ news₁, p.1 ≠ I) → J i m₁ news₁ → Fr h₀ env.locals h (fun y => if y = x then some v else m₁ y) → News h₀ env.locals h ((I, io) :: news₁) →
      wpAny (model prog w) A (execs body env) (TurnPost h₀ env.locals I io (J (i + 1)) { s with heap := h, toks := tk } Q) E { s with heap := h, toks := tk })
    (done : ∀ m₁ news₁ h tk, J n m₁ news₁ → Fr h₀ env.locals h m₁ → News h₀ env.locals h news₁ → Q .next { s with heap := h, toks := tk }) :
    LoopAtV prog w A h₀ env x body Q E (.ref I) s := by
  refine ⟨I, fp, [I], n, P, St, m₀, news, J, rfl, W, hLf, fun b hb => by rw [List.mem_singleton.mp hb]; exact hI, fun p hp q => hnw p hp (List.mem_singleton.mp q), hst, F, N, hj, ?_, fun h' tk m' news' F' N' _ hJ => done m' news' h' tk hJ F' N'⟩
  rintro i v m₁ news₁ s₁ own ⟨hh', tk', rfl⟩ hin hP hJ hoff hown hget hall hst₁ F₁ N₁
  obtain ⟨io, hio⟩ := hlive _ _ hst₁
  have hne : ∀ p ∈ news₁, p.1 ≠ I := fun p hp q => hoff p hp (List.mem_singleton.mpr q)
  have hIo : (I, io) ∈ own := hall I (W.sub I (.head _)) hI io hio
  have N₂ : News h₀ env.locals hh' ((I, io) :: news₁) := fun p hp => by
    rcases List.mem_cons.mp hp with rfl | hp
    · exact N₁ _ (List.mem_append_left _ hIo)
    · exact N₁ _ (List.mem_append_right _ hp)
  have hone : ∀ q ∈ own, q = (I, io) := fun q hq => by
    have hq1 : q.1 = I := by
      rcases hfp q.1 (hown q hq) with e | ⟨o, ho⟩
      · exact e
      · have := (N₁ q (List.mem_append_left _ hq)).2.2; rw [ho] at this; cases this
    have := hget q hq
    rw [hq1, hio] at this
    cases q; cases hq1; cases this; rfl
  refine wpAny_mono (turn i v io m₁ news₁ hh' tk' hin hP hne hJ F₁ N₂) (fun f s₂ p => ?_) fun _ _ e => e
  have fin : TurnEnd h₀ env.locals I io (J (i + 1)) { s with heap := hh', toks := tk' } s₂ → LoopStepU h₀ env.locals [I] own (J (i + 1)) { s with heap := hh', toks := tk' } .next s₂ := by
    rintro ⟨h', tk, m', news', e, F', N', hI', hm⟩
    refine ⟨rfl, h', tk, m', news', e, F', fun p hp => ?_, fun p hp q => hI' p hp (List.mem_singleton.mp q), hm⟩
    rcases List.mem_append.mp hp with hp | hp
    · rw [hone p hp]; exact N' _ (.head _)
    · exact N' _ (.tail _ hp)
  cases f with
  | ret v => exact .ret p
  | brk => exact .brk p
  | next => exact .next (fin p)
  | cont => exact .cont (fin p)
/-- for over a range by ones -/
theorem range_inv {r : Addr} {a₀ b₀ : Int} {t₀ u₀ v₀ : Tok} {m₀ : Str → Option Value} {news : List (Addr × Obj)} (n : Nat) (J : Nat → (Str → Option Value) → List (Addr × Obj) → Prop)
    (hh : A.handled = none) (hr : IsRange s.heap r a₀ b₀ 1 t₀ u₀ v₀) (hsmall : Builtin.Range.small a₀ b₀ 1 = true) (hn : Builtin.Range.rangeSize a₀ b₀ 1 = (n : Int))
    (F : Fr h₀ env.locals s.heap m₀) (N : News h₀ env.locals s.heap news) (hj : J 0 m₀ news)
    (turn : ∀ i t I io m₁ news₁ h tk, i < n → (∀ p ∈ news₁, p.1 ≠ I) → J i m₁ news₁ → Fr h₀ env.locals h (fun y => if y = x then some (.int (a₀ + (i : Int)) t) else m₁ y) → News h₀ env.locals h ((I, io) :: news₁) →
      wpAny (model prog w) A (execs body env) (TurnPost h₀ env.locals I io (J (i + 1)) { s with heap := h, toks := tk } Q) E { s with heap := h, toks := tk })
    (done : ∀ m₁ news₁ h tk, J n m₁ news₁ → Fr h₀ env.locals h m₁ → News h₀ env.locals h news₁ → Q .next { s with heap := h, toks := tk }) :
    wpAny (model prog w) A (pyIter (.ref r)) (fun it s₂ => LoopAtV prog w A h₀ env x body Q E it s₂) E s := by
  refine wpAny_pyIter_range hr hsmall ?_
  have W : Walks prog w A s.heap.objs.size [s.heap.objs.size] [s.heap.objs.size] n (fun i v => i < n ∧ ∃ t, v = .int (a₀ + i * 1) t)
      (fun i h => IsRangeIter h s.heap.objs.size (a₀ + (i : Nat) * 1) ((n : Int) - (i : Nat)) 1) := (Walks.range hh _ a₀ 1 n).bound
  refine loop_one J W ?_ (next_is_new F) ?_ (fun b hb => .inl (List.mem_singleton.mp hb)) (fun i h st => ⟨_, st⟩) (by show IsRangeIter _ _ _ _ _; rw [hn]; simpa using Heap.get?_push_size _ rfl) (F.push _) (fun p hp => ⟨Heap.get?_push_of_some _ (N p hp).1, (N p hp).2⟩) hj ?_ ?_
  · intro hm
    exact absurd F.ns.lt ((List.mem_singleton.mp hm) ▸ Nat.lt_irrefl _)
  · intro p hp q
    exact absurd (Heap.lt_size (N p hp).1) (q ▸ Nat.lt_irrefl _)
  · rintro i v io m₁ nx h tk hi ⟨_, t, rfl⟩ hne hJ F₁ N₁
    have e1 : a₀ + (i : Int) * 1 = a₀ + (i : Int) := by omega
    rw [e1] at F₁
    exact turn i t _ io m₁ nx h tk hi hne hJ F₁ N₁
  · exact fun m₁ nx h tk hJ F₁ N₁ => done m₁ nx h tk hJ F₁ N₁
end
end
section
structure NeA (a b : Addr) : Prop where
  ne : @Ne Nat a b
/-- three objects of a comprehension, all apart (out of omega's sight) -/
structure Ne3 (I C D : Addr) : Prop where
  a : @Ne Nat I C
  b : @Ne Nat I D
  c : @Ne Nat C D
section
variable {prog : Program} {w : World} {A A₀ : Around} {s : Shared} {K : Frag} {L : Addr} {h₀ base : Heap} {m mg mb : Str → Option Value} {news : List (Addr × Obj)} {p : Program} {loose : List Str} {mean : ExcName → Option Value}
theorem enterMC {env : Env} {outer : List Env} {R : Result → Shared → Prop} {name qual : Str} {params : Arguments} {body : List Stmt} {scope : Scope} {dV kV doc pm cdv ct oc : Value} {an od : Option Addr} {osl : Array (Option Value)} {f : Addr} {args : Args} {binds : List (Str × Value)}
    (B : Below A₀ base outer h₀) (F : Fr h₀ L s.heap m) (X₀ : K.In h₀) (N : News h₀ L s.heap news) (T : Top p loose mean mg mb h₀) (hA : A.frames = some (env :: outer)) (hf : env.frame = some L) (hke : env.scope.kind = .function)
    (ho : K.lookup f = some ⟨oc, od, .func (fnOf name qual params body scope dV kV doc pm an cdv ct), osl⟩) (hcd : codeIn K cdv qual = true) (hroom : A.depth < recursionLimit)
    (hbind : BindsTo s (fnOf name qual params body scope dV kV doc pm an cdv ct) args binds) (hkind : (binds.all fun y => scope.names.lookup y.1 == some .local || scope.names.lookup y.1 == some .cell) = true)
    (hnd : ((cellsFrom 0 scope.names []).map (·.1)).Nodup)
    (h : ∀ g L' h₁ tk cells, Kept s.heap g (news.map (·.1)) → (∀ b o, g.get? b = some o → s.heap.get? b = some o) → Fr h₀ L g m → Fr g L' h₁ (bindL (envOfC qual scope L' f cdv).kindOf binds fun _ => none) → News g L' h₁ (cells ++ news) →
      CellsAre (bindC (envOfC qual scope L' f cdv).kindOf binds fun _ => none) (cellsFrom (L' + 1) scope.names []) cells → Below A base (env :: outer) g → K.In g → Top p loose mean mg mb g → (∀ p ∈ news, p.1 < L') → s.heap.objs.size ≤ L' →
      wpAny (model prog w) (A.deeper (envOfC qual scope L' f cdv)) (execs body (envOfC qual scope L' f cdv))
        (fun fl s' => LeaveK h₀ L m g R (match fl with | .ret v => v | _ => .none) s')
        (fun e s' => wpAny (model prog w) (A.deeper (envOfC qual scope L' f cdv)) (leaving (envOfC qual scope L' f cdv) e) (fun _ s'' => R (.error e) s'') (fun e' s'' => R (.error e') s'') s')
        { s with heap := h₁, toks := tk })
    (hco : scope.isCoroutine = false) (hgen : scope.isGenerator = false) (hk : scope.kind = .function) : codeAny (model prog w) A (.call (.ref f) args) R s := by
  obtain ⟨FG, BG, st, lv⟩ := groundX (R := R) B F N hA hf hke
  refine codeAny_call_function hroom ((X₀.keeps F.keep) _ _ ho) rfl hco hgen rfl (codeRec_of (X₀.keeps F.keep) hcd) (hbind _ _ _ _ ?_)
  refine wpAny_newFunctionEnv_cells hk (kindsX hkind _) fun env' he s' x => ?_
  subst he
  refine ⟨(T.nolimit.keeps F.keep).keeps x.toInCall.keep, codeAny_func ?_⟩
  obtain ⟨h₁, tk, rfl, _⟩ := x.done
  have hk₁ := x.toInCall.keep
  obtain ⟨cells, NC, Y⟩ := Cl.news (h₀ := s.heap) (Nat.le_refl _) fun n c hm => ⟨x.cell n c (lookup_of_mem_nodup (cellsFrom_names scope.names 0 (s.heap.objs.size + 1) [] [] rfl ▸ hnd) hm), x.above n c hm⟩
  refine wpAny_mono (h _ s.heap.objs.size h₁ tk cells (fun b o e n => hideAll_get _ e n) (fun b o e => of_hideAll _ e) FG ⟨x.toInCall.ns, fun b o e => hk₁ b o (of_hideAll _ e), Nat.le_of_eq (hideAll_size _ _)⟩ (fun p hp => ?_) Y BG (X₀.keeps st) (T.keeps st) (fun p hp => Heap.lt_size (N p hp).1) (Nat.le_refl _)) (fun fl s' hl => lv _ _ hl) fun _ _ y => y
  rcases List.mem_append.mp hp with hp | hp
  · refine ⟨(NC p hp).1, (NC p hp).2.1, ?_⟩
    cases q : (hideAll s.heap (news.map (·.1))).get? p.1 with
    | none => rfl
    | some o => have := of_hideAll _ q; rw [(NC p hp).2.2] at this; cases this
  · exact ⟨hk₁ _ _ (N p hp).1, Nat.ne_of_lt (Heap.lt_size (N p hp).1), hideAll_none _ (List.mem_map_of_mem hp)⟩
end
section
variable {prog : Program} {w : World} {A : Around} {h₀ : Heap} {L : Addr} {m : Str → Option Value} {env : Env} {elt : Expr} {x : Str} {scope : Scope} {cl : List (Str × Addr)} {s : Shared} {S : List (Addr × Obj) → Prop} {P : Nat → Value → Prop} {Fin : List Value → List (Addr × Obj) → Prop} {news : List (Addr × Obj)}
/-- the turns of a comprehension, by an invariant over what it has made and over the ledger -/
theorem comp_rest {n : Nat} (J : Nat → List Value → List (Addr × Obj) → Prop) (h0 : J 0 [] news)
    (turn : ∀ i v I oI C oC D m₂ ys nw h tk (E' : Value → Shared → Prop), i < n → P i v → J i ys nw → LCg.NsObj oC m₂ → m₂ x = some v → Fr h₀ L h m → News h₀ L h ((I, oI) :: (C, oC) :: (D, LCg.lst ys) :: nw) → LCg.Off3 I C D nw → Ne3 I C D →
      wpAny (model prog w) A (eval elt (compEnvC scope cl C env)) (LCg.CompEnd h₀ L m { s with heap := h, toks := tk } I oI C oC D (LCg.lst ys) S (fun y news' => J (i + 1) (ys ++ [y]) news')) E' { s with heap := h, toks := tk })
    (fin : ∀ ys nw, J n ys nw → Fin ys nw) : LCg.CompRest prog w A h₀ L m env elt x scope cl s S P Fin n 0 [] news := by
  have key : ∀ (j i : Nat) (ys : List Value) (nw : List (Addr × Obj)), i + j = n → J i ys nw → LCg.CompRest prog w A h₀ L m env elt x scope cl s S P Fin j i ys nw := by
    intro j
    induction j with
    | zero => intro i ys nw hi hj; have e : i = n := by omega
              subst e; exact LCg.CompRest.zero (fin ys nw hj)
    | succ j ih =>
      intro i ys nw hi hj
      refine LCg.CompRest.succ ?_
      intro v I oI C oC D m₂ h tk E' hv hC hx F N off ne
      refine wpAny_mono (turn i v I oI C oC D m₂ ys nw h tk E' (by omega) hv hj hC hx F N off ⟨ne.1, ne.2.1, ne.2.2⟩) (fun y s₂ hq => ?_) fun _ _ e => e
      obtain ⟨h', tk', nw', e, F', N', off', hS, hn⟩ := hq
      exact ⟨h', tk', nw', e, F', N', off', hS, ih (i + 1) _ _ (by omega) hn⟩
  exact key n 0 [] news (by omega) h0
end
/-- the number of two octets at i -/
def n2 (ks : List Int) (i : Int) : Int := 256 * ks.getD i.toNat 0 + ks.getD (i + 1).toNat 0
theorem n2_def (ks : List Int) (i : Int) : 256 * ks.getD i.toNat 0 + ks.getD (i + 1).toNat 0 = n2 ks i := rfl
theorem getD_bd {ks : List Int} (hby : ∀ k ∈ ks, 0 ≤ k ∧ k < 256) (i : Nat) : 0 ≤ ks.getD i 0 ∧ ks.getD i 0 < 256 := by
  rw [List.getD_eq_getElem?_getD]
  cases h : ks[i]? with
  | none => simp
  | some v => simpa using hby v (List.mem_of_getElem? h)
theorem n2_bd {ks : List Int} (hby : ∀ k ∈ ks, 0 ≤ k ∧ k < 256) (i : Int) : 0 ≤ n2 ks i ∧ n2 ks i < 65536 := by
  have h1 := getD_bd hby i.toNat
  have h2 := getD_bd hby (i + 1).toNat
  unfold n2
  omega
theorem fd_bd (c : Int) : c.fdiv 2 * 2 + c.fmod 2 = c ∧ 0 ≤ c.fmod 2 ∧ c.fmod 2 < 2 :=
  ⟨by have := Int.mul_fdiv_add_fmod c 2; omega, Int.fmod_nonneg_of_pos _ (by omega), Int.fmod_lt_of_pos _ (by omega)⟩
/-- count numbers of two octets from at on -/
def nums (ks : List Int) (i : Int) : Nat → List Int
  | 0 => []
  | n + 1 => n2 ks i :: nums ks (i + 2) n
theorem nums_snoc (ks : List Int) : ∀ (n : Nat) (i : Int), nums ks i (n + 1) = nums ks i n ++ [n2 ks (i + 2 * n)]
  | 0, i => by simp [nums]
  | n + 1, i => by
    rw [nums, nums_snoc ks n (i + 2), nums, List.cons_append]
    have e : i + 2 + 2 * (n : Int) = i + 2 * ((n + 1 : Nat) : Int) := by omega
    rw [e]
@[simp] theorem nums_len (ks : List Int) : ∀ (n : Nat) (i : Int), (nums ks i n).length = n
  | 0, _ => rfl
  | n + 1, i => by rw [nums, List.length_cons, nums_len ks n]
theorem nums_get (ks : List Int) : ∀ (n : Nat) (i : Int) (j : Nat), j < n → (nums ks i n).getD j 0 = n2 ks (i + 2 * j)
  | 0, _, _, h => absurd h (Nat.not_lt_zero _)
  | n + 1, i, 0, _ => by simp [nums]
  | n + 1, i, j + 1, h => by
    rw [nums, List.getD_cons_succ, nums_get ks n (i + 2) j (by omega)]
    have e : i + 2 + 2 * (j : Int) = i + 2 * ((j + 1 : Nat) : Int) := by omega
    rw [e]
theorem nums_bd {ks : List Int} (hby : ∀ k ∈ ks, 0 ≤ k ∧ k < 256) (n : Nat) (i : Int) (j : Nat) : 0 ≤ (nums ks i n).getD j 0 ∧ (nums ks i n).getD j 0 < 65536 := by
  rcases Nat.lt_or_ge j n with h | h
  · rw [nums_get ks n i j h]; exact n2_bd hby _
  · rw [List.getD_eq_getElem?_getD, List.getElem?_eq_none (by simpa using h)]; simp
theorem Kept.drop {h h' : Heap} {x : Addr} {o : Obj} {xs : List Addr} (k : Kept h h' (x :: xs)) (e : h.get? x = some o) (e' : h'.get? x = some o) : Kept h h' xs := fun b ob q n => by
  by_cases z : b = x
  · subst z; rw [e] at q; cases q; exact e'
  · exact k b ob q (by simp [z, n])
theorem News.cons_new {h₀ h h' : Heap} {L D : Addr} {m : Str → Option Value} {news : List (Addr × Obj)} {o : Obj} (F : Fr h₀ L h m) (N : News h₀ L h' news) (e : h'.get? D = some o) (n : h.get? D = none) : News h₀ L h' ((D, o) :: news) := fun p hp => by
  rcases List.mem_cons.mp hp with rfl | hp
  · refine ⟨e, fun q => ?_, ?_⟩
    · obtain ⟨oL, es, ep, hL, _⟩ := F.ns
      rw [← q, n] at hL; cases hL
    · cases z : h₀.get? D with
      | none => rfl
      | some o' => rw [F.keep _ _ z] at n; cases n
  · exact N p hp
theorem News.all_ne {h₀ h : Heap} {L D : Addr} {news : List (Addr × Obj)} (N : News h₀ L h news) (n : h.get? D = none) : LCg.Off1 D news := by
  induction news with
  | nil => trivial
  | cons p r ih => exact ⟨ne_of_get (N p (.head _)).1 n, ih fun q hq => N q (.tail _ hq)⟩
end
section
/-- what is left of a function's body, by its address, and its scope -/
noncomputable def fdAt (P : Params) (f : Addr) : Option FuncData := match (heapK P).lookup f with | some ⟨_, _, .func fd, _⟩ => some fd | _ => none
noncomputable def sufAt (P : Params) (f : Addr) (k : Nat) : List Stmt := match fdAt P f with | some fd => (match fd.body with | .stmts b => b.drop k | _ => []) | none => []
noncomputable def scopeAt (P : Params) (f : Addr) : Scope := match fdAt P f with | some fd => fd.scope | none => (default : FuncData).scope
theorem off_ne {D x : Addr} {o : Obj} {l : List (Addr × Obj)} (h : LCg.Off1 D l) (hm : (x, o) ∈ l) : @Ne Nat x D := by
  induction l with
  | nil => cases hm
  | cons p r ih =>
    rcases List.mem_cons.mp hm with e | hm
    · subst e; exact h.1
    · exact ih h.2 hm
theorem off_i {I C D x : Addr} {o : Obj} {l : List (Addr × Obj)} (h : LCg.Off3 I C D l) (hm : (x, o) ∈ l) : @Ne Nat x I := (LCg.Off3.mem h _ hm).1
theorem off_c {I C D x : Addr} {o : Obj} {l : List (Addr × Obj)} (h : LCg.Off3 I C D l) (hm : (x, o) ∈ l) : @Ne Nat x C := (LCg.Off3.mem h _ hm).2.1
theorem off_d {I C D x : Addr} {o : Obj} {l : List (Addr × Obj)} (h : LCg.Off3 I C D l) (hm : (x, o) ∈ l) : @Ne Nat x D := (LCg.Off3.mem h _ hm).2.2
end
local macro_rules | `(tactic| walk_at $s:str) => `(tactic| k_extra $s)
local macro_rules | `(tactic| k_ne) => `(tactic| k_extra "ne")
section
theorem rT3_0 : True := by
  k_with_none
  k_with "ne" => (refine neN ?_; (try dsimp only); first | with_reducible assumption | exact Ne.symm (by with_reducible assumption) | exact off_ne (by with_reducible assumption) (by k_mem) | exact Ne.symm (off_ne (by with_reducible assumption) (by k_mem)) | exact off_i (by with_reducible assumption) (by k_mem) | exact off_c (by with_reducible assumption) (by k_mem) | exact off_d (by with_reducible assumption) (by k_mem) | exact Ne.symm (off_i (by with_reducible assumption) (by k_mem)) | exact Ne.symm (off_c (by with_reducible assumption) (by k_mem)) | exact Ne.symm (off_d (by with_reducible assumption) (by k_mem)) | exact Ne3.a (by with_reducible assumption) | exact Ne3.b (by with_reducible assumption) | exact Ne3.c (by with_reducible assumption) | exact Ne.symm (Ne3.a (by with_reducible assumption)) | exact Ne.symm (Ne3.b (by with_reducible assumption)) | exact Ne.symm (Ne3.c (by with_reducible assumption)) | exact NeA.ne (by with_reducible assumption) | exact Ne.symm (NeA.ne (by with_reducible assumption)) | exact Nat.ne_of_lt (by with_reducible assumption) | exact Nat.ne_of_gt (by with_reducible assumption) | exact Nat.ne_of_lt (And.left (by with_reducible assumption)) | exact Nat.ne_of_gt (And.left (by with_reducible assumption)) | exact Nat.ne_of_lt (And.left (And.right (by with_reducible assumption))) | exact Nat.ne_of_gt (And.left (And.right (by with_reducible assumption))) | exact Nat.ne_of_lt (And.right (by with_reducible assumption)) | exact Nat.ne_of_gt (And.right (by with_reducible assumption)) | exact Nat.ne_of_lt (And.right (And.right (by with_reducible assumption))) | exact Nat.ne_of_gt (And.right (And.right (by with_reducible assumption))) | exact Nat.ne_of_lt (And.left (And.right (And.right (by with_reducible assumption)))) | exact Nat.ne_of_gt (And.left (And.right (And.right (by with_reducible assumption)))))
  k_with "M enter" => (refine' enterM ?k1z9 ?k2z9 ?k3z9 ?k4z9 ?k5z9 ?kAz9 ?kFz9 ?kKz9 ?k6z9 ?k7z9 ?k8z9 ?k9z9 ?kBz9 ?_ ?c2z9 ?c3z9 ?c4z9 ?c5z9; (case kAz9 => exact rfl); (case kFz9 => exact rfl); (case kKz9 => assumption); (case k1z9 => k_asm); (case k2z9 => k_asm); (case k3z9 => k_asm); (case k4z9 => k_asm); (case k5z9 => k_asm); (case k6z9 => k_is); (case k7z9 => k_is); (case k8z9 => ktr_room); (case k9z9 => first | exact BindsTo.of_eq rfl | exact binds_K (by k_in) rfl (by k_is) rfl rfl rfl); (case c5z9 => decide); (case kBz9 => exact locs rfl); (case c2z9 => exact rfl); (case c3z9 => exact rfl); (case c4z9 => exact rfl); k_whole; intro g' L' h' tk' K' G' FG' F' N' B' X' T' l1 l2; (try k_lt l1); (try dsimp only); (try k_lift B'); (try k_fold))
  k_with "M enter0" => (refine' enterM ?k1z9 ?k2z9 ?k3z9 ?k4z9 ?k5z9 ?kAz9 ?kFz9 ?kKz9 ?k6z9 ?k7z9 ?k8z9 ?k9z9 ?kBz9 ?_ ?c2z9 ?c3z9 ?c4z9 ?c5z9; (case kAz9 => exact rfl); (case kFz9 => exact rfl); (case kKz9 => assumption); (case k1z9 => k_asm); (case k2z9 => k_asm); (case k3z9 => k_asm); (case k4z9 => k_asm); (case k5z9 => k_asm); (case k6z9 => k_is); (case k7z9 => k_is); (case k8z9 => ktr_room); (case k9z9 => first | exact BindsTo.of_eq rfl | exact binds_K (by k_in) rfl (by k_is) rfl rfl rfl); (case c5z9 => decide); (case kBz9 => exact locs rfl); (case c2z9 => exact rfl); (case c3z9 => exact rfl); (case c4z9 => exact rfl); k_whole)
  k_with "M ar" => (first | with_reducible assumption | decide | omega | (simp [List.getD]; done) | (simp [List.getD]; omega))
  k_with "M keep" => (rename Kept _ _ [] => K7; (have F' := Kept.fr (by k_asm) K7); (have N' := Kept.news (by k_asm) K7); clear K7; (try dsimp only); (try k_sweep))
  k_with "M enterC" => (refine' enterMC ?k1z9 ?k2z9 ?k3z9 ?k4z9 ?k5z9 ?kAz9 ?kFz9 ?kKz9 ?k6z9 ?k7z9 ?k8z9 ?k9z9 ?kBz9 ?kDz9 ?_ ?c2z9 ?c3z9 ?c4z9; (case kAz9 => exact rfl); (case kFz9 => exact rfl); (case kKz9 => assumption); (case k1z9 => k_asm); (case k2z9 => k_asm); (case k3z9 => k_asm); (case k4z9 => k_asm); (case k5z9 => k_asm); (case k6z9 => k_is); (case k7z9 => k_is); (case k8z9 => ktr_room); (case k9z9 => first | exact BindsTo.of_eq rfl | exact binds_K (by k_in) rfl (by k_is) rfl rfl rfl); (case kBz9 => exact rfl); (case kDz9 => decide +kernel); (case c2z9 => exact rfl); (case c3z9 => exact rfl); (case c4z9 => exact rfl); k_whole; intro g' L' h' tk' cells' K' G' FG' F' N' Y' B' X' T' l1 l2; (try k_lt l1); k_cells Y'; (try simp only [List.cons_append, List.nil_append] at N'); (try dsimp only); (try k_lift B'); (try k_fold))
  k_with "M enterC0" => (refine' enterMC ?k1z9 ?k2z9 ?k3z9 ?k4z9 ?k5z9 ?kAz9 ?kFz9 ?kKz9 ?k6z9 ?k7z9 ?k8z9 ?k9z9 ?kBz9 ?kDz9 ?_ ?c2z9 ?c3z9 ?c4z9; (case kAz9 => exact rfl); (case kFz9 => exact rfl); (case kKz9 => assumption); (case k1z9 => k_asm); (case k2z9 => k_asm); (case k3z9 => k_asm); (case k4z9 => k_asm); (case k5z9 => k_asm); (case k6z9 => k_is); (case k7z9 => k_is); (case k8z9 => ktr_room); (case k9z9 => first | exact BindsTo.of_eq rfl | exact binds_K (by k_in) rfl (by k_is) rfl rfl rfl); (case kBz9 => exact rfl); (case kDz9 => decide +kernel); (case c2z9 => exact rfl); (case c3z9 => exact rfl); (case c4z9 => exact rfl); k_whole)
  exact trivial
section
variable {w : World} {mean : ExcName → Option Value} {mg mb : Str → Option Value} {dp un : Nat} {gd : Option (List Code)} {cn : Str} {cs : Scope} {a : Addr} {ccd : Value} {cl : List (Str × Addr)} {outer : List Env} {A₀ : Around} {base h₀ : Heap} {L : Addr} {m : Str → Option Value} {s : Shared} {Q E : Value → Shared → Prop}
   (B : Below A₀ base outer h₀) (F : Fr h₀ L s.heap m) (X : (heapK w.params).In h₀) (T : Top prgV (looseW prgV [Str.ofString "ShapeError"]) mean mg mb h₀) (hk : cs.kind = .function)
include B F X T hk
set_option maxRecDepth 100000 in
set_option maxHeartbeats 8000000 in
theorem draw_spec {pen : Addr} {n c many : Int} {t1 t2 t3 : Tok} {k : Nat}
   (N : News h₀ L s.heap [(pen, W.listOf #[.int n t1, .int c t2] k)])
   (hd : dp + 1 < recursionLimit) (_hu : un + 8 < cLine)
   (hm0 : 1 ≤ many) (hm1 : many < 100000) (hn0 : 0 ≤ n) (hc0 : 0 ≤ c)
   (hret : ∀ d n' c' t t1' t2' k' h' tk', 0 ≤ d → d < many → 0 ≤ n' → 0 ≤ c' → Kept s.heap h' [pen] → h'.get? pen = some (W.listOf #[.int n' t1', .int c' t2'] k') → Q (.int d t) { s with heap := h', toks := tk' }) :
   wpAny (model Challenge.rw_nu0154_01.row.prog w) (ktrTop dp un gd cn cs L a ccd cl outer) (call (.ref 216) [.ref pen, .int many t3]) Q E s := by
  revert X; k_fill; intro X
  refine wpAny_call ?_
  k_dflt (walk_at "M enter")
  k_steps
  all_goals (
    refine' hret _ _ _ _ _ _ _ _ _ ?a1 ?a2 ?a3 ?a4 ?a6 ?a7
    case a7 => exact News.get (by assumption) (.head _)
    case a6 => exact Kept.out (by assumption) (by assumption)
    case a1 => exact Int.fmod_nonneg_of_pos _ (by omega)
    case a2 => exact Int.fmod_lt_of_pos _ (by omega)
    case a3 => exact Int.fdiv_nonneg (by walk_at "M ar") (by omega)
    case a4 => walk_at "M ar")
theorem draw_use {pen : Addr} {n c many : Int} {t1 t2 t3 : Tok} {k : Nat} {news : List (Addr × Obj)} {g : Obj → List (Addr × Obj)}
   (N : News h₀ L s.heap news) (U : UpdF pen (W.listOf #[.int n t1, .int c t2] k) news g)
   (hd : dp + 1 < recursionLimit) (hu : un + 8 < cLine)
   (hm0 : 1 ≤ many) (hm1 : many < 100000) (hn0 : 0 ≤ n) (hc0 : 0 ≤ c)
   (hret : ∀ d n' c' t t1' t2' k' h' tk', 0 ≤ d → d < many → 0 ≤ n' → 0 ≤ c' → Fr h₀ L h' m → News h₀ L h' (g (W.listOf #[.int n' t1', .int c' t2'] k')) → Q (.int d t) { s with heap := h', toks := tk' }) :
   wpAny (model Challenge.rw_nu0154_01.row.prog w) (ktrTop dp un gd cn cs L a ccd cl outer) (call (.ref 216) [.ref pen, .int many t3]) Q E s := by
  refine draw_spec B F X T hk (UpdF.only N U) hd hu hm0 hm1 hn0 hc0 fun d n' c' t t1' t2' k' h' tk' a1 a2 a3 a4 kp e => ?_
  obtain ⟨F', N'⟩ := Kept.updF F N U kp e
  exact hret d n' c' t t1' t2' k' h' tk' a1 a2 a3 a4 F' N'
end
end
section
theorem rT4_0 : True := by
  k_with_none
  k_with "ne" => (refine neN ?_; (try dsimp only); first | with_reducible assumption | exact Ne.symm (by with_reducible assumption) | exact off_ne (by with_reducible assumption) (by k_mem) | exact Ne.symm (off_ne (by with_reducible assumption) (by k_mem)) | exact off_i (by with_reducible assumption) (by k_mem) | exact off_c (by with_reducible assumption) (by k_mem) | exact off_d (by with_reducible assumption) (by k_mem) | exact Ne.symm (off_i (by with_reducible assumption) (by k_mem)) | exact Ne.symm (off_c (by with_reducible assumption) (by k_mem)) | exact Ne.symm (off_d (by with_reducible assumption) (by k_mem)) | exact Ne3.a (by with_reducible assumption) | exact Ne3.b (by with_reducible assumption) | exact Ne3.c (by with_reducible assumption) | exact Ne.symm (Ne3.a (by with_reducible assumption)) | exact Ne.symm (Ne3.b (by with_reducible assumption)) | exact Ne.symm (Ne3.c (by with_reducible assumption)) | exact NeA.ne (by with_reducible assumption) | exact Ne.symm (NeA.ne (by with_reducible assumption)) | exact Nat.ne_of_lt (by with_reducible assumption) | exact Nat.ne_of_gt (by with_reducible assumption) | exact Nat.ne_of_lt (And.left (by with_reducible assumption)) | exact Nat.ne_of_gt (And.left (by with_reducible assumption)) | exact Nat.ne_of_lt (And.left (And.right (by with_reducible assumption))) | exact Nat.ne_of_gt (And.left (And.right (by with_reducible assumption))) | exact Nat.ne_of_lt (And.right (by with_reducible assumption)) | exact Nat.ne_of_gt (And.right (by with_reducible assumption)) | exact Nat.ne_of_lt (And.right (And.right (by with_reducible assumption))) | exact Nat.ne_of_gt (And.right (And.right (by with_reducible assumption))) | exact Nat.ne_of_lt (And.left (And.right (And.right (by with_reducible assumption)))) | exact Nat.ne_of_gt (And.left (And.right (And.right (by with_reducible assumption)))))
  k_with "M enter" => (refine' enterM ?k1z9 ?k2z9 ?k3z9 ?k4z9 ?k5z9 ?kAz9 ?kFz9 ?kKz9 ?k6z9 ?k7z9 ?k8z9 ?k9z9 ?kBz9 ?_ ?c2z9 ?c3z9 ?c4z9 ?c5z9; (case kAz9 => exact rfl); (case kFz9 => exact rfl); (case kKz9 => assumption); (case k1z9 => k_asm); (case k2z9 => k_asm); (case k3z9 => k_asm); (case k4z9 => k_asm); (case k5z9 => k_asm); (case k6z9 => k_is); (case k7z9 => k_is); (case k8z9 => ktr_room); (case k9z9 => first | exact BindsTo.of_eq rfl | exact binds_K (by k_in) rfl (by k_is) rfl rfl rfl); (case c5z9 => decide); (case kBz9 => exact locs rfl); (case c2z9 => exact rfl); (case c3z9 => exact rfl); (case c4z9 => exact rfl); k_whole; intro g' L' h' tk' K' G' FG' F' N' B' X' T' l1 l2; (try k_lt l1); (try dsimp only); (try k_lift B'); (try k_fold))
  k_with "M enter0" => (refine' enterM ?k1z9 ?k2z9 ?k3z9 ?k4z9 ?k5z9 ?kAz9 ?kFz9 ?kKz9 ?k6z9 ?k7z9 ?k8z9 ?k9z9 ?kBz9 ?_ ?c2z9 ?c3z9 ?c4z9 ?c5z9; (case kAz9 => exact rfl); (case kFz9 => exact rfl); (case kKz9 => assumption); (case k1z9 => k_asm); (case k2z9 => k_asm); (case k3z9 => k_asm); (case k4z9 => k_asm); (case k5z9 => k_asm); (case k6z9 => k_is); (case k7z9 => k_is); (case k8z9 => ktr_room); (case k9z9 => first | exact BindsTo.of_eq rfl | exact binds_K (by k_in) rfl (by k_is) rfl rfl rfl); (case c5z9 => decide); (case kBz9 => exact locs rfl); (case c2z9 => exact rfl); (case c3z9 => exact rfl); (case c4z9 => exact rfl); k_whole)
  k_with "M ar" => (first | with_reducible assumption | decide | omega | (simp [List.getD]; done) | (simp [List.getD]; omega))
  k_with "M keep" => (rename Kept _ _ [] => K7; (have F' := Kept.fr (by k_asm) K7); (have N' := Kept.news (by k_asm) K7); clear K7; (try dsimp only); (try k_sweep))
  k_with "M enterC" => (refine' enterMC ?k1z9 ?k2z9 ?k3z9 ?k4z9 ?k5z9 ?kAz9 ?kFz9 ?kKz9 ?k6z9 ?k7z9 ?k8z9 ?k9z9 ?kBz9 ?kDz9 ?_ ?c2z9 ?c3z9 ?c4z9; (case kAz9 => exact rfl); (case kFz9 => exact rfl); (case kKz9 => assumption); (case k1z9 => k_asm); (case k2z9 => k_asm); (case k3z9 => k_asm); (case k4z9 => k_asm); (case k5z9 => k_asm); (case k6z9 => k_is); (case k7z9 => k_is); (case k8z9 => ktr_room); (case k9z9 => first | exact BindsTo.of_eq rfl | exact binds_K (by k_in) rfl (by k_is) rfl rfl rfl); (case kBz9 => exact rfl); (case kDz9 => decide +kernel); (case c2z9 => exact rfl); (case c3z9 => exact rfl); (case c4z9 => exact rfl); k_whole; intro g' L' h' tk' cells' K' G' FG' F' N' Y' B' X' T' l1 l2; (try k_lt l1); k_cells Y'; (try simp only [List.cons_append, List.nil_append] at N'); (try dsimp only); (try k_lift B'); (try k_fold))
  k_with "M enterC0" => (refine' enterMC ?k1z9 ?k2z9 ?k3z9 ?k4z9 ?k5z9 ?kAz9 ?kFz9 ?kKz9 ?k6z9 ?k7z9 ?k8z9 ?k9z9 ?kBz9 ?kDz9 ?_ ?c2z9 ?c3z9 ?c4z9; (case kAz9 => exact rfl); (case kFz9 => exact rfl); (case kKz9 => assumption); (case k1z9 => k_asm); (case k2z9 => k_asm); (case k3z9 => k_asm); (case k4z9 => k_asm); (case k5z9 => k_asm); (case k6z9 => k_is); (case k7z9 => k_is); (case k8z9 => ktr_room); (case k9z9 => first | exact BindsTo.of_eq rfl | exact binds_K (by k_in) rfl (by k_is) rfl rfl rfl); (case kBz9 => exact rfl); (case kDz9 => decide +kernel); (case c2z9 => exact rfl); (case c3z9 => exact rfl); (case c4z9 => exact rfl); k_whole)
  k_with "call ref" => (k_here; (with_reducible show wpAny _ _ (call (Value.ref 216) [Value.ref _, Value.int _ _]) _ _ _); k_dflt (refine' draw_use ?Bz9 ?Fz9 ?Xz9 ?Tz9 ?hkz9 ?Nz9 ?Uz9 ?hdz9 ?huz9 ?az9 ?bz9 ?cz9 ?dz9 ?_; (case Bz9 => k_asm); (case Fz9 => k_asm); (case Xz9 => k_asm); (case Tz9 => k_asm); (case hkz9 => first | exact rfl | assumption); (case Nz9 => k_asm); (case Uz9 => k_updF); (case hdz9 => ktr_room); (case huz9 => ktr_units); (case az9 => walk_at "M ar"); (case bz9 => walk_at "M ar"); (case cz9 => walk_at "M ar"); (case dz9 => walk_at "M ar"); k_whole); intro d' n' c' t' t1' t2' k' h' tk' d0 d1 n0 c0 F' N'; (try dsimp only at N'); (try dsimp only); (try k_sweep); (try k_fold))
  exact trivial
section
variable {w : World} {mean : ExcName → Option Value} {mg mb : Str → Option Value} {dp un : Nat} {gd : Option (List Code)} {cn : Str} {cs : Scope} {a : Addr} {ccd : Value} {cl : List (Str × Addr)} {outer : List Env} {A₀ : Around} {base h₀ : Heap} {L : Addr} {m : Str → Option Value} {s : Shared} {Q E : Value → Shared → Prop}
   (B : Below A₀ base outer h₀) (F : Fr h₀ L s.heap m) (X : (heapK w.params).In h₀) (T : Top prgV (looseW prgV [Str.ofString "ShapeError"]) mean mg mb h₀) (hk : cs.kind = .function)
include B F X T hk
set_option maxRecDepth 100000 in
set_option maxHeartbeats 8000000 in
theorem pick_spec {pen l : Addr} {n c : Int} {t1 t2 : Tok} {k k2 : Nat} {vs : List Value} {ns : List Int}
   (N : News h₀ L s.heap [(pen, W.listOf #[.int n t1, .int c t2] k), (l, W.listOf vs.toArray k2)]) (hne : pen ≠ l)
   (hd : dp + 2 < recursionLimit) (hu : un + 100 < cLine) (hi : IntsAre vs ns)
   (hm0 : 1 ≤ ns.length) (hm1 : ns.length < 1000) (hn0 : 0 ≤ n) (hc0 : 0 ≤ c)
   (hret : ∀ x n' c' t t1' t2' k' h' tk', x ∈ ns → 0 ≤ n' → 0 ≤ c' → Kept s.heap h' [pen, l] → h'.get? pen = some (W.listOf #[.int n' t1', .int c' t2'] k') → h'.get? l = some (W.listOf vs.toArray k2) → Q (.int x t) { s with heap := h', toks := tk' }) :
   wpAny (model Challenge.rw_nu0154_01.row.prog w) (ktrTop dp un gd cn cs L a ccd cl outer) (call (.ref 223) [.ref pen, .ref l]) Q E s := by
  have hne := neN hne
  revert X; k_fill; intro X
  refine wpAny_call ?_
  k_dflt (walk_at "M enter")
  k_steps
  refine' hret _ _ _ _ _ _ _ _ _ ?a1 ?a2 ?a3 ?a5 ?a6 ?a7
  case a6 => exact News.get (by assumption) (.head _)
  case a7 => exact News.get (by assumption) (.tail _ (.head _))
  case a5 => exact Kept.out (by assumption) (by assumption)
  case a1 => exact getD_mem (by omega)
  all_goals omega
theorem pick_use {pen l : Addr} (lo hi : Int) {n c : Int} {t1 t2 : Tok} {k k2 : Nat} {vs : List Value} {ns : List Int} {news : List (Addr × Obj)} {g : Obj → List (Addr × Obj)}
   (N : News h₀ L s.heap news) (U : UpdF pen (W.listOf #[.int n t1, .int c t2] k) news g) (hl : (l, W.listOf vs.toArray k2) ∈ news) (hne : pen ≠ l)
   (hd : dp + 2 < recursionLimit) (hu : un + 100 < cLine) (hints : IntsAre vs ns)
   (hm0 : 1 ≤ ns.length) (hm1 : ns.length < 1000) (hn0 : 0 ≤ n) (hc0 : 0 ≤ c) (hb : ∀ y ∈ ns, lo ≤ y ∧ y ≤ hi)
   (hret : ∀ x n' c' t t1' t2' k' h' tk', lo ≤ x → x ≤ hi → 0 ≤ n' → 0 ≤ c' → Fr h₀ L h' m → News h₀ L h' (g (W.listOf #[.int n' t1', .int c' t2'] k')) → Q (.int x t) { s with heap := h', toks := tk' }) :
   wpAny (model Challenge.rw_nu0154_01.row.prog w) (ktrTop dp un gd cn cs L a ccd cl outer) (call (.ref 223) [.ref pen, .ref l]) Q E s := by
  have N1 : News h₀ L s.heap [(pen, W.listOf #[.int n t1, .int c t2] k), (l, W.listOf vs.toArray k2)] := fun p hp => by
    rcases List.mem_cons.mp hp with rfl | hp
    · exact UpdF.only N U _ (.head _)
    · rcases List.mem_singleton.mp hp with rfl; exact N _ hl
  refine pick_spec B F X T hk N1 hne hd hu hints hm0 hm1 hn0 hc0 fun x n' c' t t1' t2' k' h' tk' a1 a3 a4 kp e e2 => ?_
  have kp' : Kept s.heap h' [pen] := fun b o eb nb => by
    by_cases q : b = l
    · subst q; rw [(N _ hl).1] at eb; cases eb; exact e2
    · exact kp b o eb (by simpa [q] using nb)
  obtain ⟨F', N'⟩ := Kept.updF F N U kp' e
  exact hret x n' c' t t1' t2' k' h' tk' (hb x a1).1 (hb x a1).2 a3 a4 F' N'
end
end
section
theorem rT7_0 : True := by
  k_with_none
  k_with "ne" => (refine neN ?_; (try dsimp only); first | with_reducible assumption | exact Ne.symm (by with_reducible assumption) | exact off_ne (by with_reducible assumption) (by k_mem) | exact Ne.symm (off_ne (by with_reducible assumption) (by k_mem)) | exact off_i (by with_reducible assumption) (by k_mem) | exact off_c (by with_reducible assumption) (by k_mem) | exact off_d (by with_reducible assumption) (by k_mem) | exact Ne.symm (off_i (by with_reducible assumption) (by k_mem)) | exact Ne.symm (off_c (by with_reducible assumption) (by k_mem)) | exact Ne.symm (off_d (by with_reducible assumption) (by k_mem)) | exact Ne3.a (by with_reducible assumption) | exact Ne3.b (by with_reducible assumption) | exact Ne3.c (by with_reducible assumption) | exact Ne.symm (Ne3.a (by with_reducible assumption)) | exact Ne.symm (Ne3.b (by with_reducible assumption)) | exact Ne.symm (Ne3.c (by with_reducible assumption)) | exact NeA.ne (by with_reducible assumption) | exact Ne.symm (NeA.ne (by with_reducible assumption)) | exact Nat.ne_of_lt (by with_reducible assumption) | exact Nat.ne_of_gt (by with_reducible assumption) | exact Nat.ne_of_lt (And.left (by with_reducible assumption)) | exact Nat.ne_of_gt (And.left (by with_reducible assumption)) | exact Nat.ne_of_lt (And.left (And.right (by with_reducible assumption))) | exact Nat.ne_of_gt (And.left (And.right (by with_reducible assumption))) | exact Nat.ne_of_lt (And.right (by with_reducible assumption)) | exact Nat.ne_of_gt (And.right (by with_reducible assumption)) | exact Nat.ne_of_lt (And.right (And.right (by with_reducible assumption))) | exact Nat.ne_of_gt (And.right (And.right (by with_reducible assumption))) | exact Nat.ne_of_lt (And.left (And.right (And.right (by with_reducible assumption)))) | exact Nat.ne_of_gt (And.left (And.right (And.right (by with_reducible assumption)))))
  k_with "M enter" => (refine' enterM ?k1z9 ?k2z9 ?k3z9 ?k4z9 ?k5z9 ?kAz9 ?kFz9 ?kKz9 ?k6z9 ?k7z9 ?k8z9 ?k9z9 ?kBz9 ?_ ?c2z9 ?c3z9 ?c4z9 ?c5z9; (case kAz9 => exact rfl); (case kFz9 => exact rfl); (case kKz9 => assumption); (case k1z9 => k_asm); (case k2z9 => k_asm); (case k3z9 => k_asm); (case k4z9 => k_asm); (case k5z9 => k_asm); (case k6z9 => k_is); (case k7z9 => k_is); (case k8z9 => ktr_room); (case k9z9 => first | exact BindsTo.of_eq rfl | exact binds_K (by k_in) rfl (by k_is) rfl rfl rfl); (case c5z9 => decide); (case kBz9 => exact locs rfl); (case c2z9 => exact rfl); (case c3z9 => exact rfl); (case c4z9 => exact rfl); k_whole; intro g' L' h' tk' K' G' FG' F' N' B' X' T' l1 l2; (try k_lt l1); (try dsimp only); (try k_lift B'); (try k_fold))
  k_with "M enter0" => (refine' enterM ?k1z9 ?k2z9 ?k3z9 ?k4z9 ?k5z9 ?kAz9 ?kFz9 ?kKz9 ?k6z9 ?k7z9 ?k8z9 ?k9z9 ?kBz9 ?_ ?c2z9 ?c3z9 ?c4z9 ?c5z9; (case kAz9 => exact rfl); (case kFz9 => exact rfl); (case kKz9 => assumption); (case k1z9 => k_asm); (case k2z9 => k_asm); (case k3z9 => k_asm); (case k4z9 => k_asm); (case k5z9 => k_asm); (case k6z9 => k_is); (case k7z9 => k_is); (case k8z9 => ktr_room); (case k9z9 => first | exact BindsTo.of_eq rfl | exact binds_K (by k_in) rfl (by k_is) rfl rfl rfl); (case c5z9 => decide); (case kBz9 => exact locs rfl); (case c2z9 => exact rfl); (case c3z9 => exact rfl); (case c4z9 => exact rfl); k_whole)
  k_with "M ar" => (first | with_reducible assumption | decide | omega | (simp [List.getD]; done) | (simp [List.getD]; omega))
  k_with "M keep" => (rename Kept _ _ [] => K7; (have F' := Kept.fr (by k_asm) K7); (have N' := Kept.news (by k_asm) K7); clear K7; (try dsimp only); (try k_sweep))
  k_with "M enterC" => (refine' enterMC ?k1z9 ?k2z9 ?k3z9 ?k4z9 ?k5z9 ?kAz9 ?kFz9 ?kKz9 ?k6z9 ?k7z9 ?k8z9 ?k9z9 ?kBz9 ?kDz9 ?_ ?c2z9 ?c3z9 ?c4z9; (case kAz9 => exact rfl); (case kFz9 => exact rfl); (case kKz9 => assumption); (case k1z9 => k_asm); (case k2z9 => k_asm); (case k3z9 => k_asm); (case k4z9 => k_asm); (case k5z9 => k_asm); (case k6z9 => k_is); (case k7z9 => k_is); (case k8z9 => ktr_room); (case k9z9 => first | exact BindsTo.of_eq rfl | exact binds_K (by k_in) rfl (by k_is) rfl rfl rfl); (case kBz9 => exact rfl); (case kDz9 => decide +kernel); (case c2z9 => exact rfl); (case c3z9 => exact rfl); (case c4z9 => exact rfl); k_whole; intro g' L' h' tk' cells' K' G' FG' F' N' Y' B' X' T' l1 l2; (try k_lt l1); k_cells Y'; (try simp only [List.cons_append, List.nil_append] at N'); (try dsimp only); (try k_lift B'); (try k_fold))
  k_with "M enterC0" => (refine' enterMC ?k1z9 ?k2z9 ?k3z9 ?k4z9 ?k5z9 ?kAz9 ?kFz9 ?kKz9 ?k6z9 ?k7z9 ?k8z9 ?k9z9 ?kBz9 ?kDz9 ?_ ?c2z9 ?c3z9 ?c4z9; (case kAz9 => exact rfl); (case kFz9 => exact rfl); (case kKz9 => assumption); (case k1z9 => k_asm); (case k2z9 => k_asm); (case k3z9 => k_asm); (case k4z9 => k_asm); (case k5z9 => k_asm); (case k6z9 => k_is); (case k7z9 => k_is); (case k8z9 => ktr_room); (case k9z9 => first | exact BindsTo.of_eq rfl | exact binds_K (by k_in) rfl (by k_is) rfl rfl rfl); (case kBz9 => exact rfl); (case kDz9 => decide +kernel); (case c2z9 => exact rfl); (case c3z9 => exact rfl); (case c4z9 => exact rfl); k_whole)
  exact trivial
open Builtin Builtin.ObjectAttr
abbrev bmS : List Value := [.ref 48, .type "Exception", .type "BaseException", .type "object"]
abbrev tfCls : Obj := excClassObj "TableFault" "TableFault" 61 60 [.ref 48] bmS true [] [] false none none (some (.ref 52)) none (some (.str "TableFault" 238)) (some (.str "TableFault" 246)) (some (.bool true)) "Exception.__new__"
abbrev excObj (t : Addr) (d : Option Addr) : Obj := { cls := .ref 61, dict := d, data := .fields #[.ref t, .none, .none, .none, .bool false, .none] }
abbrev tupO (vs : List Value) : Obj := { cls := .type "tuple", data := .seq vs.toArray }
theorem tf_at {P : Params} {h : Heap} (X : (heapK P).In h) : h.get? 61 = some tfCls := X _ _ (by kernel_rfl)
section
variable {prog : Program} {w : World} {A : Around} {R : Result → Shared → Prop} {h : Heap} {g : Array GenState} {d : Drawn} {t : Nat} {os : OsState} {E : Value → Shared → Prop}
theorem tf_check_new {M : Model} {rest : List Value} {Q : Unit → Shared → Prop} (hC : h.get? 61 = some tfCls) (hq : Q () ⟨h, g, d, t, os⟩) : wpAny M A (checkBuiltinCall "Exception.__new__" ⟨.ref 61 :: rest, []⟩) Q E ⟨h, g, d, t, os⟩ := by
  have Fn := F.excBase_Exception
  have hcont : (Value.ref 61 :: bmS).contains (.type "Exception") = true := by decide
  have hstar := Fn.noStar
  simp only [checkBuiltinCall, Fn.newKind, Fn.newSplit, Fn.newRow]
  repeat (first | refine wpAny_loadPart_at hC ?_ | (refine wpAny_isSubtype_exc hC ?_; rw [hcont]) | refine wpAny_staticBase_exc hC ?_ | refine wpAny_madeBy_exc hC ?_ | simp only [bne_self_eq_false, Bool.false_eq_true, if_false] | wp_step)
  exact hq
theorem tf_new {rest : List Value} (hC : h.get? 61 = some tfCls)
    (hq : R (.ok (.ret (.ref (h.objs.size + 1)))) ⟨(h.push (tupO rest)).push (excObj h.objs.size none), g, d, t, os⟩) (hrest : rest.length ≤ sizeLine) :
    codeAny (model prog w) A (.builtin "Exception.__new__" ⟨.ref 61 :: rest, []⟩) R ⟨h, g, d, t, os⟩ := by
  have Fn := F.excBase_Exception
  have hends := Fn.ends
  have hcB : (Value.ref 61 :: bmS).contains (.type "Exception") = true := by decide
  have hcA : (Value.ref 61 :: bmS).contains (.type "AttributeError") = false := by decide
  have hcN : (Value.ref 61 :: bmS).contains (.type "NameError") = false := by decide
  refine codeAny_builtinAt Fn.entry ?_
  unfold Builtin.«BaseException.__new__»
  refine _root_.PySem.wpAt_bind ?_
  show _root_.PySem.wpAt _ _ _ (stack >>= _) _ _ _
  refine _root_.PySem.wpAt_bind (_root_.PySem.wpAt_stack fun p below => _root_.PySem.wpAt_of_wpAny ?_)
  wp_walk
  refine _root_.PySem.wpAt_of_wpAny ?_
  rw [Fn.owner]
  repeat (first | with_reducible refine wpAny_madeHere_exc Fn.canon hC ?_ | with_reducible refine wpAny_loadPart_at hC ?_ | (with_reducible refine wpAny_isSubtype_exc hC ?_; first | rw [hcB] | rw [hcA] | rw [hcN]) | wp_step)
  show R _ _
  rw [Heap.size_push]
  exact hq
end
end
section
theorem rT8_0 : True := by
  k_with_none
  k_with "ne" => (refine neN ?_; (try dsimp only); first | with_reducible assumption | exact Ne.symm (by with_reducible assumption) | exact off_ne (by with_reducible assumption) (by k_mem) | exact Ne.symm (off_ne (by with_reducible assumption) (by k_mem)) | exact off_i (by with_reducible assumption) (by k_mem) | exact off_c (by with_reducible assumption) (by k_mem) | exact off_d (by with_reducible assumption) (by k_mem) | exact Ne.symm (off_i (by with_reducible assumption) (by k_mem)) | exact Ne.symm (off_c (by with_reducible assumption) (by k_mem)) | exact Ne.symm (off_d (by with_reducible assumption) (by k_mem)) | exact Ne3.a (by with_reducible assumption) | exact Ne3.b (by with_reducible assumption) | exact Ne3.c (by with_reducible assumption) | exact Ne.symm (Ne3.a (by with_reducible assumption)) | exact Ne.symm (Ne3.b (by with_reducible assumption)) | exact Ne.symm (Ne3.c (by with_reducible assumption)) | exact NeA.ne (by with_reducible assumption) | exact Ne.symm (NeA.ne (by with_reducible assumption)) | exact Nat.ne_of_lt (by with_reducible assumption) | exact Nat.ne_of_gt (by with_reducible assumption) | exact Nat.ne_of_lt (And.left (by with_reducible assumption)) | exact Nat.ne_of_gt (And.left (by with_reducible assumption)) | exact Nat.ne_of_lt (And.left (And.right (by with_reducible assumption))) | exact Nat.ne_of_gt (And.left (And.right (by with_reducible assumption))) | exact Nat.ne_of_lt (And.right (by with_reducible assumption)) | exact Nat.ne_of_gt (And.right (by with_reducible assumption)) | exact Nat.ne_of_lt (And.right (And.right (by with_reducible assumption))) | exact Nat.ne_of_gt (And.right (And.right (by with_reducible assumption))) | exact Nat.ne_of_lt (And.left (And.right (And.right (by with_reducible assumption)))) | exact Nat.ne_of_gt (And.left (And.right (And.right (by with_reducible assumption)))))
  k_with "M enter" => (refine' enterM ?k1z9 ?k2z9 ?k3z9 ?k4z9 ?k5z9 ?kAz9 ?kFz9 ?kKz9 ?k6z9 ?k7z9 ?k8z9 ?k9z9 ?kBz9 ?_ ?c2z9 ?c3z9 ?c4z9 ?c5z9; (case kAz9 => exact rfl); (case kFz9 => exact rfl); (case kKz9 => assumption); (case k1z9 => k_asm); (case k2z9 => k_asm); (case k3z9 => k_asm); (case k4z9 => k_asm); (case k5z9 => k_asm); (case k6z9 => k_is); (case k7z9 => k_is); (case k8z9 => ktr_room); (case k9z9 => first | exact BindsTo.of_eq rfl | exact binds_K (by k_in) rfl (by k_is) rfl rfl rfl); (case c5z9 => decide); (case kBz9 => exact locs rfl); (case c2z9 => exact rfl); (case c3z9 => exact rfl); (case c4z9 => exact rfl); k_whole; intro g' L' h' tk' K' G' FG' F' N' B' X' T' l1 l2; (try k_lt l1); (try dsimp only); (try k_lift B'); (try k_fold))
  k_with "M enter0" => (refine' enterM ?k1z9 ?k2z9 ?k3z9 ?k4z9 ?k5z9 ?kAz9 ?kFz9 ?kKz9 ?k6z9 ?k7z9 ?k8z9 ?k9z9 ?kBz9 ?_ ?c2z9 ?c3z9 ?c4z9 ?c5z9; (case kAz9 => exact rfl); (case kFz9 => exact rfl); (case kKz9 => assumption); (case k1z9 => k_asm); (case k2z9 => k_asm); (case k3z9 => k_asm); (case k4z9 => k_asm); (case k5z9 => k_asm); (case k6z9 => k_is); (case k7z9 => k_is); (case k8z9 => ktr_room); (case k9z9 => first | exact BindsTo.of_eq rfl | exact binds_K (by k_in) rfl (by k_is) rfl rfl rfl); (case c5z9 => decide); (case kBz9 => exact locs rfl); (case c2z9 => exact rfl); (case c3z9 => exact rfl); (case c4z9 => exact rfl); k_whole)
  k_with "M ar" => (first | with_reducible assumption | decide | omega | (simp [List.getD]; done) | (simp [List.getD]; omega))
  k_with "M keep" => (rename Kept _ _ [] => K7; (have F' := Kept.fr (by k_asm) K7); (have N' := Kept.news (by k_asm) K7); clear K7; (try dsimp only); (try k_sweep))
  k_with "M enterC" => (refine' enterMC ?k1z9 ?k2z9 ?k3z9 ?k4z9 ?k5z9 ?kAz9 ?kFz9 ?kKz9 ?k6z9 ?k7z9 ?k8z9 ?k9z9 ?kBz9 ?kDz9 ?_ ?c2z9 ?c3z9 ?c4z9; (case kAz9 => exact rfl); (case kFz9 => exact rfl); (case kKz9 => assumption); (case k1z9 => k_asm); (case k2z9 => k_asm); (case k3z9 => k_asm); (case k4z9 => k_asm); (case k5z9 => k_asm); (case k6z9 => k_is); (case k7z9 => k_is); (case k8z9 => ktr_room); (case k9z9 => first | exact BindsTo.of_eq rfl | exact binds_K (by k_in) rfl (by k_is) rfl rfl rfl); (case kBz9 => exact rfl); (case kDz9 => decide +kernel); (case c2z9 => exact rfl); (case c3z9 => exact rfl); (case c4z9 => exact rfl); k_whole; intro g' L' h' tk' cells' K' G' FG' F' N' Y' B' X' T' l1 l2; (try k_lt l1); k_cells Y'; (try simp only [List.cons_append, List.nil_append] at N'); (try dsimp only); (try k_lift B'); (try k_fold))
  k_with "M enterC0" => (refine' enterMC ?k1z9 ?k2z9 ?k3z9 ?k4z9 ?k5z9 ?kAz9 ?kFz9 ?kKz9 ?k6z9 ?k7z9 ?k8z9 ?k9z9 ?kBz9 ?kDz9 ?_ ?c2z9 ?c3z9 ?c4z9; (case kAz9 => exact rfl); (case kFz9 => exact rfl); (case kKz9 => assumption); (case k1z9 => k_asm); (case k2z9 => k_asm); (case k3z9 => k_asm); (case k4z9 => k_asm); (case k5z9 => k_asm); (case k6z9 => k_is); (case k7z9 => k_is); (case k8z9 => ktr_room); (case k9z9 => first | exact BindsTo.of_eq rfl | exact binds_K (by k_in) rfl (by k_is) rfl rfl rfl); (case kBz9 => exact rfl); (case kDz9 => decide +kernel); (case c2z9 => exact rfl); (case c3z9 => exact rfl); (case c4z9 => exact rfl); k_whole)
  exact trivial
open Builtin Builtin.ObjectAttr
section
variable {prog : Program} {w : World} {A : Around} {R : Result → Shared → Prop} {h : Heap} {g : Array GenState} {d : Drawn} {t : Nat} {os : OsState} {E : Value → Shared → Prop}
/-- the class called: the object made, then its __init__ -/
theorem tf_make {rest : List Value} {Q : Value → Shared → Prop} (X : (heapK w.params).In h) (hrest : rest.length ≤ sizeLine)
    (hq : codeAny (model prog w) (A.under (.builtin "type.__call__" ⟨.ref 61 :: rest, []⟩)) (.call (.ref 38) ⟨.ref (h.objs.size + 1) :: rest, []⟩)
      (InitBack (h.objs.size + 1) fun r s' => match r with | .ok (.ret v) => Q v s' | .ok _ => False | .error e => E e s') ⟨(h.push (tupO rest)).push (excObj h.objs.size none), g, d, t, os⟩) :
    wpAny (model prog w) A (call (.ref 61) rest) Q E ⟨h, g, d, t, os⟩ := by
  have hC := tf_at X
  have f1 := tc_lookup
  have f2 := tc_bind (.ref 61)
  have hT : (⟨h, g, d, t, os⟩ : Shared).TypeIs (.ref 61) "type" := ⟨_, hC, rfl⟩
  have Fn := F.excBase_Exception
  refine wpAny_call (codeAny_of_tree ?_)
  show wpAny _ _ (callAny (.ref 61) _) _ _ _
  repeat (any_goals (first | assumption | with_reducible refine wpAny_loadPart_at hC ?_ | wp_step))
  refine ⟨rfl, ?_⟩
  refine codeAny_call_builtin_at (Code.quiet_builtin _ (by decide +kernel)) entry_typeCall (wpAny_check_type_call_sub hC ?_)
  repeat (first | with_reducible refine wpAny_loadPart_at hC ?_ | with_reducible refine wpAny_madeBy_exc hC ?_ | wp_step)
  refine codeAny_call_builtin_code (Code.quiet_builtin _ Fn.quiet) (tf_check_new hC ?_)
  refine tf_new hC ?_ hrest
  show wpAny _ _ _ _ _ _
  have k : ∀ b o, h.get? b = some o → ((h.push (tupO rest)).push (excObj h.objs.size none)).get? b = some o := fun b o e => Heap.get?_push_of_some _ (Heap.get?_push_of_some _ e)
  have hC₁ := k _ _ hC
  have X₁ : (heapK w.params).In ((h.push (tupO rest)).push (excObj h.objs.size none)) := X.keeps k
  have hget : ((h.push (tupO rest)).push (excObj h.objs.size none)).get? (h.objs.size + 1) = some (excObj h.objs.size none) := by heap_get
  have hcC : (Value.ref 61 :: bmS).contains (.ref 61) = true := by decide
  have hi : Looks (model prog w) ((h.push (tupO rest)).push (excObj h.objs.size none)) (typeLookup (.ref 61) "__init__") (some (.ref 38)) := looks_findIn X₁ (by kernel_rfl)
  have hb : Looks (model prog w) ((h.push (tupO rest)).push (excObj h.objs.size none)) (bindSpecial (.ref 38) (.ref (h.objs.size + 1))) (.ref 38, [.ref (h.objs.size + 1)]) := bind_fn X₁ _ (by kernel_rfl)
  unfold isInstance
  repeat (first | ((show wpAny _ _ (isSubtype (.ref 61) (.ref 61)) _ _ _); refine wpAny_isSubtype_exc hC₁ ?_; rw [hcC]) | ((show wpAny _ _ (typeLookup (.ref 61) _) _ _ _); refine hi.here ?_) | ((with_reducible show wpAny _ _ (bindSpecial _ _) _ _ _); refine hb.here ?_) | wp_step)
  refine codeAny_mono hq fun r s' z => ?_
  rcases r with e | (v | _ | _ | _) <;> first | exact z | exact z.elim | skip
  obtain ⟨rfl, z⟩ := z
  exact wpAny_pure (wpAny_pure z)
end
end
section
theorem rT10_0 : True := by
  k_with_none
  k_with "ne" => (refine neN ?_; (try dsimp only); first | with_reducible assumption | exact Ne.symm (by with_reducible assumption) | exact off_ne (by with_reducible assumption) (by k_mem) | exact Ne.symm (off_ne (by with_reducible assumption) (by k_mem)) | exact off_i (by with_reducible assumption) (by k_mem) | exact off_c (by with_reducible assumption) (by k_mem) | exact off_d (by with_reducible assumption) (by k_mem) | exact Ne.symm (off_i (by with_reducible assumption) (by k_mem)) | exact Ne.symm (off_c (by with_reducible assumption) (by k_mem)) | exact Ne.symm (off_d (by with_reducible assumption) (by k_mem)) | exact Ne3.a (by with_reducible assumption) | exact Ne3.b (by with_reducible assumption) | exact Ne3.c (by with_reducible assumption) | exact Ne.symm (Ne3.a (by with_reducible assumption)) | exact Ne.symm (Ne3.b (by with_reducible assumption)) | exact Ne.symm (Ne3.c (by with_reducible assumption)) | exact NeA.ne (by with_reducible assumption) | exact Ne.symm (NeA.ne (by with_reducible assumption)) | exact Nat.ne_of_lt (by with_reducible assumption) | exact Nat.ne_of_gt (by with_reducible assumption) | exact Nat.ne_of_lt (And.left (by with_reducible assumption)) | exact Nat.ne_of_gt (And.left (by with_reducible assumption)) | exact Nat.ne_of_lt (And.left (And.right (by with_reducible assumption))) | exact Nat.ne_of_gt (And.left (And.right (by with_reducible assumption))) | exact Nat.ne_of_lt (And.right (by with_reducible assumption)) | exact Nat.ne_of_gt (And.right (by with_reducible assumption)) | exact Nat.ne_of_lt (And.right (And.right (by with_reducible assumption))) | exact Nat.ne_of_gt (And.right (And.right (by with_reducible assumption))) | exact Nat.ne_of_lt (And.left (And.right (And.right (by with_reducible assumption)))) | exact Nat.ne_of_gt (And.left (And.right (And.right (by with_reducible assumption)))))
  k_with "M enter" => (refine' enterM ?k1z9 ?k2z9 ?k3z9 ?k4z9 ?k5z9 ?kAz9 ?kFz9 ?kKz9 ?k6z9 ?k7z9 ?k8z9 ?k9z9 ?kBz9 ?_ ?c2z9 ?c3z9 ?c4z9 ?c5z9; (case kAz9 => exact rfl); (case kFz9 => exact rfl); (case kKz9 => assumption); (case k1z9 => k_asm); (case k2z9 => k_asm); (case k3z9 => k_asm); (case k4z9 => k_asm); (case k5z9 => k_asm); (case k6z9 => k_is); (case k7z9 => k_is); (case k8z9 => ktr_room); (case k9z9 => first | exact BindsTo.of_eq rfl | exact binds_K (by k_in) rfl (by k_is) rfl rfl rfl); (case c5z9 => decide); (case kBz9 => exact locs rfl); (case c2z9 => exact rfl); (case c3z9 => exact rfl); (case c4z9 => exact rfl); k_whole; intro g' L' h' tk' K' G' FG' F' N' B' X' T' l1 l2; (try k_lt l1); (try dsimp only); (try k_lift B'); (try k_fold))
  k_with "M enter0" => (refine' enterM ?k1z9 ?k2z9 ?k3z9 ?k4z9 ?k5z9 ?kAz9 ?kFz9 ?kKz9 ?k6z9 ?k7z9 ?k8z9 ?k9z9 ?kBz9 ?_ ?c2z9 ?c3z9 ?c4z9 ?c5z9; (case kAz9 => exact rfl); (case kFz9 => exact rfl); (case kKz9 => assumption); (case k1z9 => k_asm); (case k2z9 => k_asm); (case k3z9 => k_asm); (case k4z9 => k_asm); (case k5z9 => k_asm); (case k6z9 => k_is); (case k7z9 => k_is); (case k8z9 => ktr_room); (case k9z9 => first | exact BindsTo.of_eq rfl | exact binds_K (by k_in) rfl (by k_is) rfl rfl rfl); (case c5z9 => decide); (case kBz9 => exact locs rfl); (case c2z9 => exact rfl); (case c3z9 => exact rfl); (case c4z9 => exact rfl); k_whole)
  k_with "M ar" => (first | with_reducible assumption | decide | omega | (simp [List.getD]; done) | (simp [List.getD]; omega))
  k_with "M keep" => (rename Kept _ _ [] => K7; (have F' := Kept.fr (by k_asm) K7); (have N' := Kept.news (by k_asm) K7); clear K7; (try dsimp only); (try k_sweep))
  k_with "M enterC" => (refine' enterMC ?k1z9 ?k2z9 ?k3z9 ?k4z9 ?k5z9 ?kAz9 ?kFz9 ?kKz9 ?k6z9 ?k7z9 ?k8z9 ?k9z9 ?kBz9 ?kDz9 ?_ ?c2z9 ?c3z9 ?c4z9; (case kAz9 => exact rfl); (case kFz9 => exact rfl); (case kKz9 => assumption); (case k1z9 => k_asm); (case k2z9 => k_asm); (case k3z9 => k_asm); (case k4z9 => k_asm); (case k5z9 => k_asm); (case k6z9 => k_is); (case k7z9 => k_is); (case k8z9 => ktr_room); (case k9z9 => first | exact BindsTo.of_eq rfl | exact binds_K (by k_in) rfl (by k_is) rfl rfl rfl); (case kBz9 => exact rfl); (case kDz9 => decide +kernel); (case c2z9 => exact rfl); (case c3z9 => exact rfl); (case c4z9 => exact rfl); k_whole; intro g' L' h' tk' cells' K' G' FG' F' N' Y' B' X' T' l1 l2; (try k_lt l1); k_cells Y'; (try simp only [List.cons_append, List.nil_append] at N'); (try dsimp only); (try k_lift B'); (try k_fold))
  k_with "M enterC0" => (refine' enterMC ?k1z9 ?k2z9 ?k3z9 ?k4z9 ?k5z9 ?kAz9 ?kFz9 ?kKz9 ?k6z9 ?k7z9 ?k8z9 ?k9z9 ?kBz9 ?kDz9 ?_ ?c2z9 ?c3z9 ?c4z9; (case kAz9 => exact rfl); (case kFz9 => exact rfl); (case kKz9 => assumption); (case k1z9 => k_asm); (case k2z9 => k_asm); (case k3z9 => k_asm); (case k4z9 => k_asm); (case k5z9 => k_asm); (case k6z9 => k_is); (case k7z9 => k_is); (case k8z9 => ktr_room); (case k9z9 => first | exact BindsTo.of_eq rfl | exact binds_K (by k_in) rfl (by k_is) rfl rfl rfl); (case kBz9 => exact rfl); (case kDz9 => decide +kernel); (case c2z9 => exact rfl); (case c3z9 => exact rfl); (case c4z9 => exact rfl); k_whole)
  exact trivial
open Builtin Builtin.ObjectAttr
theorem wd_type : typeOf (.builtin "Exception.__init__") = pure (.type "wrapper_descriptor") := by show builtinType _ = _; rw [builtinType_eq_fast]; kernel_rfl
theorem slot_wd : Slot "wrapper_descriptor" "__get__" "wrapper_descriptor.__get__" :=
  .of (owner := "wrapper_descriptor") (n := "__get__") (by rw [typeLookup_type, builtinLookup_eq_fast]; kernel_rfl) (by decide +kernel) (by decide +kernel) (by decide +kernel)
    (by first | exact .inl (by decide +kernel) | exact .inr (by decide +kernel)) (by rw [isSubtype_type]; kernel_rfl)
theorem entry_wd : entryFor table "wrapper_descriptor.__get__" = some Builtin.«wrapper_descriptor.__get__» := entryFor_of_tree (by kernel_rfl)
theorem args_wd (a b c : Value) : argsOk "wrapper_descriptor.__get__" ⟨[a, b, c], []⟩ := by unfold argsOk; kernel_rfl
abbrev mwObj (x : Addr) : Obj := { cls := .type "method-wrapper", data := .fields #[.builtin "Exception.__init__", .ref x] }
section
variable {prog : Program} {w : World} {A : Around} {E : Value → Shared → Prop} {h : Heap} {g : Array GenState} {d : Drawn} {t : Nat} {os : OsState}
set_option maxRecDepth 100000 in
set_option maxHeartbeats 4000000 in
theorem xs_super_ga0 {name : Str} {so x : Addr} {ox : Obj} {tk : Tok} {Q : PySem.Fin → Shared → Prop}
    (hso : h.get? so = some (ks_superObj 48 x 61)) (X : (heapK w.params).In h) (hx : h.get? x = some ox) (hc : ox.cls = .ref 61) (hxC : x ≠ 61) (hno : Looks (model prog w) h (opaqueClassAbove (.ref 61)) none)
    (hf : alongIn (heapK w.params) name [.type "Exception", .type "BaseException", .type "object"] = some (some (.builtin "Exception.__init__"))) (hn : (name == ("__class__" : Str)) = false)
    (hq : Q (.done (.ret (.ref h.objs.size))) ⟨h.push (mwObj x), g, d, t, os⟩) :
    wpAny (model prog w) A (Builtin.«super.__getattribute__» ⟨[.ref so, .str name tk], []⟩) Q E ⟨h, g, d, t, os⟩ := by
  have hlk := slot_wd.lookup
  have hwd := wd_type
  have hC61 := tf_at X
  have hne : (Value.ref x == Value.ref 61) = false := by simp [hxC]
  have hC : Looks (model prog w) h (mroOf (.ref 61)) [.ref 61, .ref 48, .type "Exception", .type "BaseException", .type "object"] :=
    ((Looks.ld (part := none) hC61).andThen .now).andThen .now
  have hl : (([.ref 61, .ref 48, .type "Exception", .type "BaseException", .type "object"] : List Value).dropWhile (· != .ref 48)).drop 1 = [.type "Exception", .type "BaseException", .type "object"] := by decide
  have hdt : (ks_superObj 48 x 61).data = .fields #[.ref 48, .ref x, .ref 61] := rfl
  have f0 : (#[.ref 48, .ref x, .ref 61] : Array Value)[0]? = some (.ref 48) := rfl
  have f1 : (#[.ref 48, .ref x, .ref 61] : Array Value)[1]? = some (.ref x) := rfl
  have f2 : (#[.ref 48, .ref x, .ref 61] : Array Value)[2]? = some (.ref 61) := rfl
  have hT : (⟨h, g, d, t, os⟩ : Shared).TypeIs (.builtin "Exception.__init__") "wrapper_descriptor" := wd_type
  have hcE : (Value.ref 61 :: bmS).contains (.type "Exception") = true := by decide
  unfold Builtin.«super.__getattribute__»
  repeat (first
    | (with_reducible refine wpAny_field hso hdt f0 ?_) | (with_reducible refine wpAny_field hso hdt f1 ?_) | (with_reducible refine wpAny_field hso hdt f2 ?_)
    | (with_reducible refine ks_wpAny_notOpaque hno ?_)
    | (with_reducible refine Looks.at hC ?_; rw [hl])
    | (refine ks_forIn_along X (fun _ _ => rfl) rfl ?_ hf)
    | (with_reducible refine wpAny_call_entry slot_wd hT entry_wd ?_ (args_wd _ _ _))
    | (with_reducible refine ⟨_, rfl, ?_⟩)
    | (simp only [hn, hne, Bool.or_false, Bool.false_eq_true, if_false])
    | wp_step
    | dsimp only)
  rw [hc, show (".".intercalate ("Exception.__init__".cutAt '.').dropLast) = "Exception" from by decide +kernel]
  refine wpAny_isSubtype_exc hC61 ?_
  rw [hcE]
  repeat (first | (with_reducible refine ⟨_, rfl, ?_⟩) | wp_step)
  exact hq
theorem xs_super_ga {so x : Addr} {ox : Obj} {tk : Tok} {Q : PySem.Fin → Shared → Prop}
    (hso : h.get? so = some (ks_superObj 48 x 61)) (X : (heapK w.params).In h) (hx : h.get? x = some ox) (hc : ox.cls = .ref 61) (hxC : x ≠ 61)
    (hq : Q (.done (.ret (.ref h.objs.size))) ⟨h.push (mwObj x), g, d, t, os⟩) :
    wpAny (model prog w) A (Builtin.«super.__getattribute__» ⟨[.ref so, .str "__init__" tk], []⟩) Q E ⟨h, g, d, t, os⟩ :=
  xs_super_ga0 hso X hx hc hxC (looks_opaque X (by kernel_rfl)) (by kernel_rfl) (by decide) hq
set_option maxRecDepth 100000 in
set_option maxHeartbeats 4000000 in
theorem xs_getMethod {so x : Addr} {ox : Obj} {pl : Sem Bool} {Q : Value × List Value → Shared → Prop}
    (hso : h.get? so = some (ks_superObj 48 x 61)) (X : (heapK w.params).In h) (hx : h.get? x = some ox) (hc : ox.cls = .ref 61) (hxC : x ≠ 61)
    (hq : Q (.ref h.objs.size, []) ⟨h.push (mwObj x), g, d, t + 1, os⟩) :
    wpAny (model prog w) A (getMethod (.ref so) "__init__" pl) Q E ⟨h, g, d, t, os⟩ := by
  have hlk := F.ks_slot_super_ga.lookup
  have hcan := F.ks_canon_super_ga
  have hT : ∀ t', (⟨h, g, d, t', os⟩ : Shared).TypeIs (.ref so) "super" := fun _ => ⟨_, hso, rfl⟩
  unfold getMethod
  refine wpAny_bind (wpAny_specialOf (hT _) hlk ?_)
  show wpAny _ _ (if (Manifest.canonical "super.__getattribute__" != "object.__getattribute__") = true then _ else _) _ _ _
  rw [if_pos hcan]
  unfold getAttr getAttrBy
  refine wpAny_bind (wpAny_bind (wpAny_mkText (wpAny_holding (wpAny_bind (wpAny_typeOf (hT _) (wpAny_bind (wpAny_of_eq hlk ?_)))))))
  show wpAny _ _ (getAttrByItsOwn (.ref so) (.str "__init__" t) (.type "super") (.builtin "super.__getattribute__") true false) _ _ _
  unfold getAttrByItsOwn hookBefore callGetattribute boundAndCalled
  refine wpAny_bind (wpAny_of_eq (show (if onTheHeap (.type "super") then typeLookup (.type "super") "__getattr__" else pure none) = pure none from rfl) ?_)
  refine wpAny_bind (wpAny_attempt (wpAny_holding ?_))
  show wpAny _ _ (bindSpecial (.builtin "super.__getattribute__") (.ref so) >>= _) _ _ _
  refine wpAny_bind (wpAny_of_eq (F.ks_slot_super_ga.bind _) ?_)
  refine wpAny_mono (Q := fun v s' => v = .ref h.objs.size ∧ s' = ⟨h.push (mwObj x), g, d, t + 1, os⟩) (E := fun _ _ => False)
    (wpAny_call_entry F.ks_slot_super_ga (hT _) F.ks_entry_super_ga (xs_super_ga hso X hx hc hxC ⟨_, rfl, rfl, rfl⟩) (F.ks_gaArgs_super _ _)) (fun v s' hv => ?_) fun _ _ z => z.elim
  obtain ⟨rfl, rfl⟩ := hv
  exact wpAny_pure (wpAny_pure hq)
end
end
section
theorem rT11_0 : True := by
  k_with_none
  k_with "ne" => (refine neN ?_; (try dsimp only); first | with_reducible assumption | exact Ne.symm (by with_reducible assumption) | exact off_ne (by with_reducible assumption) (by k_mem) | exact Ne.symm (off_ne (by with_reducible assumption) (by k_mem)) | exact off_i (by with_reducible assumption) (by k_mem) | exact off_c (by with_reducible assumption) (by k_mem) | exact off_d (by with_reducible assumption) (by k_mem) | exact Ne.symm (off_i (by with_reducible assumption) (by k_mem)) | exact Ne.symm (off_c (by with_reducible assumption) (by k_mem)) | exact Ne.symm (off_d (by with_reducible assumption) (by k_mem)) | exact Ne3.a (by with_reducible assumption) | exact Ne3.b (by with_reducible assumption) | exact Ne3.c (by with_reducible assumption) | exact Ne.symm (Ne3.a (by with_reducible assumption)) | exact Ne.symm (Ne3.b (by with_reducible assumption)) | exact Ne.symm (Ne3.c (by with_reducible assumption)) | exact NeA.ne (by with_reducible assumption) | exact Ne.symm (NeA.ne (by with_reducible assumption)) | exact Nat.ne_of_lt (by with_reducible assumption) | exact Nat.ne_of_gt (by with_reducible assumption) | exact Nat.ne_of_lt (And.left (by with_reducible assumption)) | exact Nat.ne_of_gt (And.left (by with_reducible assumption)) | exact Nat.ne_of_lt (And.left (And.right (by with_reducible assumption))) | exact Nat.ne_of_gt (And.left (And.right (by with_reducible assumption))) | exact Nat.ne_of_lt (And.right (by with_reducible assumption)) | exact Nat.ne_of_gt (And.right (by with_reducible assumption)) | exact Nat.ne_of_lt (And.right (And.right (by with_reducible assumption))) | exact Nat.ne_of_gt (And.right (And.right (by with_reducible assumption))) | exact Nat.ne_of_lt (And.left (And.right (And.right (by with_reducible assumption)))) | exact Nat.ne_of_gt (And.left (And.right (And.right (by with_reducible assumption)))))
  k_with "M enter" => (refine' enterM ?k1z9 ?k2z9 ?k3z9 ?k4z9 ?k5z9 ?kAz9 ?kFz9 ?kKz9 ?k6z9 ?k7z9 ?k8z9 ?k9z9 ?kBz9 ?_ ?c2z9 ?c3z9 ?c4z9 ?c5z9; (case kAz9 => exact rfl); (case kFz9 => exact rfl); (case kKz9 => assumption); (case k1z9 => k_asm); (case k2z9 => k_asm); (case k3z9 => k_asm); (case k4z9 => k_asm); (case k5z9 => k_asm); (case k6z9 => k_is); (case k7z9 => k_is); (case k8z9 => ktr_room); (case k9z9 => first | exact BindsTo.of_eq rfl | exact binds_K (by k_in) rfl (by k_is) rfl rfl rfl); (case c5z9 => decide); (case kBz9 => exact locs rfl); (case c2z9 => exact rfl); (case c3z9 => exact rfl); (case c4z9 => exact rfl); k_whole; intro g' L' h' tk' K' G' FG' F' N' B' X' T' l1 l2; (try k_lt l1); (try dsimp only); (try k_lift B'); (try k_fold))
  k_with "M enter0" => (refine' enterM ?k1z9 ?k2z9 ?k3z9 ?k4z9 ?k5z9 ?kAz9 ?kFz9 ?kKz9 ?k6z9 ?k7z9 ?k8z9 ?k9z9 ?kBz9 ?_ ?c2z9 ?c3z9 ?c4z9 ?c5z9; (case kAz9 => exact rfl); (case kFz9 => exact rfl); (case kKz9 => assumption); (case k1z9 => k_asm); (case k2z9 => k_asm); (case k3z9 => k_asm); (case k4z9 => k_asm); (case k5z9 => k_asm); (case k6z9 => k_is); (case k7z9 => k_is); (case k8z9 => ktr_room); (case k9z9 => first | exact BindsTo.of_eq rfl | exact binds_K (by k_in) rfl (by k_is) rfl rfl rfl); (case c5z9 => decide); (case kBz9 => exact locs rfl); (case c2z9 => exact rfl); (case c3z9 => exact rfl); (case c4z9 => exact rfl); k_whole)
  k_with "M ar" => (first | with_reducible assumption | decide | omega | (simp [List.getD]; done) | (simp [List.getD]; omega))
  k_with "M keep" => (rename Kept _ _ [] => K7; (have F' := Kept.fr (by k_asm) K7); (have N' := Kept.news (by k_asm) K7); clear K7; (try dsimp only); (try k_sweep))
  k_with "M enterC" => (refine' enterMC ?k1z9 ?k2z9 ?k3z9 ?k4z9 ?k5z9 ?kAz9 ?kFz9 ?kKz9 ?k6z9 ?k7z9 ?k8z9 ?k9z9 ?kBz9 ?kDz9 ?_ ?c2z9 ?c3z9 ?c4z9; (case kAz9 => exact rfl); (case kFz9 => exact rfl); (case kKz9 => assumption); (case k1z9 => k_asm); (case k2z9 => k_asm); (case k3z9 => k_asm); (case k4z9 => k_asm); (case k5z9 => k_asm); (case k6z9 => k_is); (case k7z9 => k_is); (case k8z9 => ktr_room); (case k9z9 => first | exact BindsTo.of_eq rfl | exact binds_K (by k_in) rfl (by k_is) rfl rfl rfl); (case kBz9 => exact rfl); (case kDz9 => decide +kernel); (case c2z9 => exact rfl); (case c3z9 => exact rfl); (case c4z9 => exact rfl); k_whole; intro g' L' h' tk' cells' K' G' FG' F' N' Y' B' X' T' l1 l2; (try k_lt l1); k_cells Y'; (try simp only [List.cons_append, List.nil_append] at N'); (try dsimp only); (try k_lift B'); (try k_fold))
  k_with "M enterC0" => (refine' enterMC ?k1z9 ?k2z9 ?k3z9 ?k4z9 ?k5z9 ?kAz9 ?kFz9 ?kKz9 ?k6z9 ?k7z9 ?k8z9 ?k9z9 ?kBz9 ?kDz9 ?_ ?c2z9 ?c3z9 ?c4z9; (case kAz9 => exact rfl); (case kFz9 => exact rfl); (case kKz9 => assumption); (case k1z9 => k_asm); (case k2z9 => k_asm); (case k3z9 => k_asm); (case k4z9 => k_asm); (case k5z9 => k_asm); (case k6z9 => k_is); (case k7z9 => k_is); (case k8z9 => ktr_room); (case k9z9 => first | exact BindsTo.of_eq rfl | exact binds_K (by k_in) rfl (by k_is) rfl rfl rfl); (case kBz9 => exact rfl); (case kDz9 => decide +kernel); (case c2z9 => exact rfl); (case c3z9 => exact rfl); (case c4z9 => exact rfl); k_whole)
  exact trivial
open Builtin Builtin.ObjectAttr
section
variable {prog : Program} {w : World} {A : Around} {E : Value → Shared → Prop} {h : Heap} {g : Array GenState} {d : Drawn} {t : Nat} {os : OsState}
/-- the bound initialiser of the base called -/
theorem xs_call_init {mw e t₀ : Addr} {v : Value} {dd : Option Addr} {Q : Value → Shared → Prop} (X : (heapK w.params).In h) (hm : h.get? mw = some (mwObj e)) (he : h.get? e = some (excObj t₀ dd))
    (hq : Q .none ⟨(h.push (tupO [v])).update e (Obj.mapFields (·.setIfInBounds 0 (.ref h.objs.size))), g, d, t, os⟩) :
    wpAny (model prog w) A (call (.ref mw) [v]) Q E ⟨h, g, d, t, os⟩ := by
  have Fn := F.excBase_Exception
  have hC61 := tf_at X
  have hcE : (Value.ref 61 :: bmS).contains (.type "Exception") = true := by decide
  have hshort := Fn.noStar
  refine wpAny_call (codeAny_of_tree ?_)
  show wpAny _ _ (callAny (.ref mw) _) _ _ _
  repeat (first | (with_reducible refine wpAny_loadPart_at hm ?_; dsimp only) | wp_step)
  refine ⟨Code.quiet_builtin _ (by decide +kernel), ?_⟩
  show codeAny _ _ (.builtin "Exception.__init__" ⟨[.ref e, v], []⟩) _ _
  refine codeAny_builtin Fn.initEntry ?_
  unfold Builtin.«BaseException.__init__»
  wp_walk
  exact hq
end
end
section
theorem rT12_0 : True := by
  k_with_none
  k_with "ne" => (refine neN ?_; (try dsimp only); first | with_reducible assumption | exact Ne.symm (by with_reducible assumption) | exact off_ne (by with_reducible assumption) (by k_mem) | exact Ne.symm (off_ne (by with_reducible assumption) (by k_mem)) | exact off_i (by with_reducible assumption) (by k_mem) | exact off_c (by with_reducible assumption) (by k_mem) | exact off_d (by with_reducible assumption) (by k_mem) | exact Ne.symm (off_i (by with_reducible assumption) (by k_mem)) | exact Ne.symm (off_c (by with_reducible assumption) (by k_mem)) | exact Ne.symm (off_d (by with_reducible assumption) (by k_mem)) | exact Ne3.a (by with_reducible assumption) | exact Ne3.b (by with_reducible assumption) | exact Ne3.c (by with_reducible assumption) | exact Ne.symm (Ne3.a (by with_reducible assumption)) | exact Ne.symm (Ne3.b (by with_reducible assumption)) | exact Ne.symm (Ne3.c (by with_reducible assumption)) | exact NeA.ne (by with_reducible assumption) | exact Ne.symm (NeA.ne (by with_reducible assumption)) | exact Nat.ne_of_lt (by with_reducible assumption) | exact Nat.ne_of_gt (by with_reducible assumption) | exact Nat.ne_of_lt (And.left (by with_reducible assumption)) | exact Nat.ne_of_gt (And.left (by with_reducible assumption)) | exact Nat.ne_of_lt (And.left (And.right (by with_reducible assumption))) | exact Nat.ne_of_gt (And.left (And.right (by with_reducible assumption))) | exact Nat.ne_of_lt (And.right (by with_reducible assumption)) | exact Nat.ne_of_gt (And.right (by with_reducible assumption)) | exact Nat.ne_of_lt (And.right (And.right (by with_reducible assumption))) | exact Nat.ne_of_gt (And.right (And.right (by with_reducible assumption))) | exact Nat.ne_of_lt (And.left (And.right (And.right (by with_reducible assumption)))) | exact Nat.ne_of_gt (And.left (And.right (And.right (by with_reducible assumption)))))
  k_with "M enter" => (refine' enterM ?k1z9 ?k2z9 ?k3z9 ?k4z9 ?k5z9 ?kAz9 ?kFz9 ?kKz9 ?k6z9 ?k7z9 ?k8z9 ?k9z9 ?kBz9 ?_ ?c2z9 ?c3z9 ?c4z9 ?c5z9; (case kAz9 => exact rfl); (case kFz9 => exact rfl); (case kKz9 => assumption); (case k1z9 => k_asm); (case k2z9 => k_asm); (case k3z9 => k_asm); (case k4z9 => k_asm); (case k5z9 => k_asm); (case k6z9 => k_is); (case k7z9 => k_is); (case k8z9 => ktr_room); (case k9z9 => first | exact BindsTo.of_eq rfl | exact binds_K (by k_in) rfl (by k_is) rfl rfl rfl); (case c5z9 => decide); (case kBz9 => exact locs rfl); (case c2z9 => exact rfl); (case c3z9 => exact rfl); (case c4z9 => exact rfl); k_whole; intro g' L' h' tk' K' G' FG' F' N' B' X' T' l1 l2; (try k_lt l1); (try dsimp only); (try k_lift B'); (try k_fold))
  k_with "M enter0" => (refine' enterM ?k1z9 ?k2z9 ?k3z9 ?k4z9 ?k5z9 ?kAz9 ?kFz9 ?kKz9 ?k6z9 ?k7z9 ?k8z9 ?k9z9 ?kBz9 ?_ ?c2z9 ?c3z9 ?c4z9 ?c5z9; (case kAz9 => exact rfl); (case kFz9 => exact rfl); (case kKz9 => assumption); (case k1z9 => k_asm); (case k2z9 => k_asm); (case k3z9 => k_asm); (case k4z9 => k_asm); (case k5z9 => k_asm); (case k6z9 => k_is); (case k7z9 => k_is); (case k8z9 => ktr_room); (case k9z9 => first | exact BindsTo.of_eq rfl | exact binds_K (by k_in) rfl (by k_is) rfl rfl rfl); (case c5z9 => decide); (case kBz9 => exact locs rfl); (case c2z9 => exact rfl); (case c3z9 => exact rfl); (case c4z9 => exact rfl); k_whole)
  k_with "M ar" => (first | with_reducible assumption | decide | omega | (simp [List.getD]; done) | (simp [List.getD]; omega))
  k_with "M keep" => (rename Kept _ _ [] => K7; (have F' := Kept.fr (by k_asm) K7); (have N' := Kept.news (by k_asm) K7); clear K7; (try dsimp only); (try k_sweep))
  k_with "M enterC" => (refine' enterMC ?k1z9 ?k2z9 ?k3z9 ?k4z9 ?k5z9 ?kAz9 ?kFz9 ?kKz9 ?k6z9 ?k7z9 ?k8z9 ?k9z9 ?kBz9 ?kDz9 ?_ ?c2z9 ?c3z9 ?c4z9; (case kAz9 => exact rfl); (case kFz9 => exact rfl); (case kKz9 => assumption); (case k1z9 => k_asm); (case k2z9 => k_asm); (case k3z9 => k_asm); (case k4z9 => k_asm); (case k5z9 => k_asm); (case k6z9 => k_is); (case k7z9 => k_is); (case k8z9 => ktr_room); (case k9z9 => first | exact BindsTo.of_eq rfl | exact binds_K (by k_in) rfl (by k_is) rfl rfl rfl); (case kBz9 => exact rfl); (case kDz9 => decide +kernel); (case c2z9 => exact rfl); (case c3z9 => exact rfl); (case c4z9 => exact rfl); k_whole; intro g' L' h' tk' cells' K' G' FG' F' N' Y' B' X' T' l1 l2; (try k_lt l1); k_cells Y'; (try simp only [List.cons_append, List.nil_append] at N'); (try dsimp only); (try k_lift B'); (try k_fold))
  k_with "M enterC0" => (refine' enterMC ?k1z9 ?k2z9 ?k3z9 ?k4z9 ?k5z9 ?kAz9 ?kFz9 ?kKz9 ?k6z9 ?k7z9 ?k8z9 ?k9z9 ?kBz9 ?kDz9 ?_ ?c2z9 ?c3z9 ?c4z9; (case kAz9 => exact rfl); (case kFz9 => exact rfl); (case kKz9 => assumption); (case k1z9 => k_asm); (case k2z9 => k_asm); (case k3z9 => k_asm); (case k4z9 => k_asm); (case k5z9 => k_asm); (case k6z9 => k_is); (case k7z9 => k_is); (case k8z9 => ktr_room); (case k9z9 => first | exact BindsTo.of_eq rfl | exact binds_K (by k_in) rfl (by k_is) rfl rfl rfl); (case kBz9 => exact rfl); (case kDz9 => decide +kernel); (case c2z9 => exact rfl); (case c3z9 => exact rfl); (case c4z9 => exact rfl); k_whole)
  exact trivial
open Builtin Builtin.ObjectAttr
abbrev tfCd : ClassData := { name := "TableFault", bases := [.ref 48], mro := .ref 61 :: bmS, ns := 60, qualname := "TableFault", hasDict := true, slotNames := [], subclasses := [], abstract := false, collection := none, hasDel := false }
section
variable {prog : Program} {w : World} {A : Around} {E : Value → Shared → Prop} {s : Shared} {R : Result → Shared → Prop}
theorem xs_looks_mro {h : Heap} (X : (heapK w.params).In h) : Looks (model prog w) h (mroOf (.ref 61)) [.ref 61, .ref 48, .type "Exception", .type "BaseException", .type "object"] :=
  ((Looks.ld (part := none) (tf_at X)).andThen .now).andThen .now
theorem xs_osa {x : Addr} {ox : Obj} {od : Option Obj} {name : Str} {tk : Tok} {v : Value} (X : (heapK w.params).In s.heap) (I : InstAt s.heap x ox 61 od) (ht : findIn (heapK w.params) (.ref 61) name = some none)
    (h : ∀ b, wpAny (model prog w) A.in1 (storeInOwnDict (.ref x) (.ref 61) (.str name tk) name v b)
      (fun fin s' => match fin with | .done f => R (.ok f) s' | .again c' => c'.quiet = true ∧ codeAny (model prog w) A c' R s') (fun e s' => R (.error e) s') s) :
    codeAny (model prog w) A (.call (.builtin "object.__setattr__") ⟨[.ref x, .str name tk, v], []⟩) R s := by
  have SF := PySem.F.store_object
  have hm := xs_looks_mro (prog := prog) X
  have sub : Looks (model prog w) s.heap (isInstance (.ref x) (.type "object")) true := I.type.andThen (looks_mroIn X (by kernel_rfl))
  refine codeAny_call_builtin SF.slot.plain SF.entry (@check_slot (model prog w) _ _ s "object.__setattr__" "object" "__setattr__" (.ref x) [.str name tk, v] [] _ SF.kind SF.split sub (SF.args (.ref x) (.str name tk) v) ?_)
  have hp := PySem.F.store_Exception.passes (.ref x)
  rw [osa_eq, refuse_eq]
  refine wpAny_bind (wpAny_bind (I.type.here (wpAny_bind (hm.here ?_))))
  rw [refuseLoop_ref, refuseLoop_ref, hp]
  refine wpAny_pure (wpAny_bind (I.type.here (wpAny_bind ((looks_findIn X ht).here (wpAny_bind (wpAny_pure ?_))))))
  exact h _
theorem xs_nsSet {dx : Addr} {es : List DictEntry} {n : Nat} {name : Str} {tk : Tok} {v : Value} {Q : PySem.Fin → Shared → Prop} (D : s.heap.get? dx = some (dictOf es n)) (hl : (getL name es).isSome = true) (hz : es.length ≤ 1000)
    (hq : Q (.done (.ret .none)) { s with heap := s.heap.update dx (Obj.putName name (PyData.keyHash w.params name) (.str name s.toks) v), toks := s.toks + 1 }) :
    wpAny (model prog w) A (storeInDict dx (.str name tk) name v) Q E s := by
  have D' : (s.heap.update dx (Obj.putName name (PyData.keyHash w.params name) (.str name s.toks) v)).get? dx = some (dictOf (putL name (PyData.keyHash w.params name) (.str name s.toks) v es) (putN name es n)) := by
    rw [Heap.get?_update_self _ D (by rw [putName_dict]; rfl), putName_dict]
  have hlen : (putL name (PyData.keyHash w.params name) (.str name s.toks) v es).length ≤ 1001 := by
    have : ∀ es : List DictEntry, (putL name (PyData.keyHash w.params name) (.str name s.toks) v es).length ≤ es.length + 1 := by
      intro es
      induction es with
      | nil => exact Nat.le_refl _
      | cons e r ih => unfold putL; split <;> simp only [List.length_cons] <;> omega
    have := this es
    omega
  unfold storeInDict newKeyGuard
  refine wpAny_bind (wpAny_pure (wpAny_bind ?_))
  unfold nsSet
  refine wpAny_bind (wpAny_bind (wpAny_askSetting (wpAny_pure (wpAny_bind (wpAny_mkText (wpAny_bind (wpAny_loadPart D ?_)))))))
  dsimp only
  have c : (!es.toArray.any (·.key.isStr name) && es.toArray.any (·.refKey)) = false := by
    rw [← Array.any_toList, ← Array.any_toList]
    unfold getL at hl
    split at hl
    · rename_i en he
      rw [List.any_eq_true.mpr ⟨en, List.mem_of_find?_eq_some he, List.find?_some he⟩]; rfl
    · split at hl
      · cases hl
      · rename_i z; rw [Bool.not_eq_true] at z; rw [z, Bool.and_false]
  rw [aRefKeyMayBeTheName_at, c]
  refine wpAny_updatePart D ?_
  refine wpAny_bind (wpAny_lookBehind D' (pastItsLine_dict (by rw [List.size_toArray, sizeLine_eq]; omega)) ?_)
  exact wpAny_pure hq
theorem xs_set0 {x : Addr} {t₀ : Addr} {name : Str} {v : Value} {Q : Unit → Shared → Prop} (X : (heapK w.params).In s.heap) (he : s.heap.get? x = some (excObj t₀ none)) (ht : findIn (heapK w.params) (.ref 61) name = some none)
    (hq : Q () { s with heap := ((s.heap.push emptyDict).update x fun o => { o with dict := some s.heap.objs.size }).update s.heap.objs.size (Obj.putName name (PyData.keyHash w.params name) (.str name (s.toks + 1)) v), toks := s.toks + 2 }) :
    wpAny (model prog w) A (setAttr (.ref x) name v) Q E s := by
  refine set_plain (od := none) X ⟨he, rfl, rfl, trivial⟩ (by kernel_rfl) ?_
  refine xs_osa (od := none) (s := { s with toks := s.toks + 1 }) X ⟨he, rfl, rfl, trivial⟩ ht fun b => ?_
  have hxs : s.heap.objs.size ≠ x := Nat.ne_of_gt (Heap.lt_size he)
  have hx₁ : (s.heap.push emptyDict).get? x = some (excObj t₀ none) := Heap.get?_push_of_some _ he
  refine wpAny_bind (wpAny_pure (wpAny_bind ?_))
  refine wpAny_bind (wpAny_loadPart he (wpAny_bind ?_))
  have hcls : Looks (model prog w) s.heap (classData 61) tfCd := looks_clsIn (C := 61) X (by kernel_rfl)
  refine hcls _ _ _ _ (fun _ _ e => e) ?_
  rw [if_neg (by decide)]
  show wpAny _ _ (alloc emptyDict >>= fun d => update x (fun o => { o with dict := some d }) >>= fun _ => dictMade (.ref 61) x d) _ _ _
  refine wpAny_bind (wpAny_alloc' (wpAny_bind (wpAny_update' hx₁ ?_)))
  refine wpAny_pure ?_
  have hgd : ((s.heap.push emptyDict).update x fun o => { o with dict := some s.heap.objs.size }).get? s.heap.objs.size = some emptyDict :=
    (Heap.get?_update_ne _ _ _ _ hxs).trans (Heap.get?_push_at rfl rfl)
  refine xs_nsSet (es := []) (n := 0) (s := { s with heap := (s.heap.push emptyDict).update x fun o => { o with dict := some s.heap.objs.size }, toks := s.toks + 1 }) hgd rfl (by decide) ?_
  exact hq
theorem xs_set1 {x dx : Addr} {t₀ : Addr} {es : List DictEntry} {n : Nat} {name : Str} {v : Value} {Q : Unit → Shared → Prop} (X : (heapK w.params).In s.heap) (he : s.heap.get? x = some (excObj t₀ (some dx))) (D : s.heap.get? dx = some (dictOf es n))
    (hl : (getL name es).isSome = true) (hz : es.length ≤ 1000) (ht : findIn (heapK w.params) (.ref 61) name = some none)
    (hq : Q () { s with heap := s.heap.update dx (Obj.putName name (PyData.keyHash w.params name) (.str name (s.toks + 1)) v), toks := s.toks + 2 }) :
    wpAny (model prog w) A (setAttr (.ref x) name v) Q E s := by
  refine set_plain (od := some (dictOf es n)) X ⟨he, rfl, rfl, D⟩ (by kernel_rfl) ?_
  refine xs_osa (od := some (dictOf es n)) (s := { s with toks := s.toks + 1 }) X ⟨he, rfl, rfl, D⟩ ht fun b => ?_
  refine wpAny_bind (wpAny_pure (wpAny_bind ?_))
  refine wpAny_bind (wpAny_loadPart he (wpAny_bind ?_))
  have hcls : Looks (model prog w) s.heap (classData 61) tfCd := looks_clsIn (C := 61) X (by kernel_rfl)
  refine hcls _ _ _ _ (fun _ _ e => e) ?_
  rw [if_neg (by decide)]
  refine wpAny_pure ?_
  exact xs_nsSet (s := { s with toks := s.toks + 1 }) D hl hz hq
end
end
section
theorem rT13_0 : True := by
  k_with_none
  k_with "ne" => (refine neN ?_; (try dsimp only); first | with_reducible assumption | exact Ne.symm (by with_reducible assumption) | exact off_ne (by with_reducible assumption) (by k_mem) | exact Ne.symm (off_ne (by with_reducible assumption) (by k_mem)) | exact off_i (by with_reducible assumption) (by k_mem) | exact off_c (by with_reducible assumption) (by k_mem) | exact off_d (by with_reducible assumption) (by k_mem) | exact Ne.symm (off_i (by with_reducible assumption) (by k_mem)) | exact Ne.symm (off_c (by with_reducible assumption) (by k_mem)) | exact Ne.symm (off_d (by with_reducible assumption) (by k_mem)) | exact Ne3.a (by with_reducible assumption) | exact Ne3.b (by with_reducible assumption) | exact Ne3.c (by with_reducible assumption) | exact Ne.symm (Ne3.a (by with_reducible assumption)) | exact Ne.symm (Ne3.b (by with_reducible assumption)) | exact Ne.symm (Ne3.c (by with_reducible assumption)) | exact NeA.ne (by with_reducible assumption) | exact Ne.symm (NeA.ne (by with_reducible assumption)) | exact Nat.ne_of_lt (by with_reducible assumption) | exact Nat.ne_of_gt (by with_reducible assumption) | exact Nat.ne_of_lt (And.left (by with_reducible assumption)) | exact Nat.ne_of_gt (And.left (by with_reducible assumption)) | exact Nat.ne_of_lt (And.left (And.right (by with_reducible assumption))) | exact Nat.ne_of_gt (And.left (And.right (by with_reducible assumption))) | exact Nat.ne_of_lt (And.right (by with_reducible assumption)) | exact Nat.ne_of_gt (And.right (by with_reducible assumption)) | exact Nat.ne_of_lt (And.right (And.right (by with_reducible assumption))) | exact Nat.ne_of_gt (And.right (And.right (by with_reducible assumption))) | exact Nat.ne_of_lt (And.left (And.right (And.right (by with_reducible assumption)))) | exact Nat.ne_of_gt (And.left (And.right (And.right (by with_reducible assumption)))))
  k_with "M enter" => (refine' enterM ?k1z9 ?k2z9 ?k3z9 ?k4z9 ?k5z9 ?kAz9 ?kFz9 ?kKz9 ?k6z9 ?k7z9 ?k8z9 ?k9z9 ?kBz9 ?_ ?c2z9 ?c3z9 ?c4z9 ?c5z9; (case kAz9 => exact rfl); (case kFz9 => exact rfl); (case kKz9 => assumption); (case k1z9 => k_asm); (case k2z9 => k_asm); (case k3z9 => k_asm); (case k4z9 => k_asm); (case k5z9 => k_asm); (case k6z9 => k_is); (case k7z9 => k_is); (case k8z9 => ktr_room); (case k9z9 => first | exact BindsTo.of_eq rfl | exact binds_K (by k_in) rfl (by k_is) rfl rfl rfl); (case c5z9 => decide); (case kBz9 => exact locs rfl); (case c2z9 => exact rfl); (case c3z9 => exact rfl); (case c4z9 => exact rfl); k_whole; intro g' L' h' tk' K' G' FG' F' N' B' X' T' l1 l2; (try k_lt l1); (try dsimp only); (try k_lift B'); (try k_fold))
  k_with "M enter0" => (refine' enterM ?k1z9 ?k2z9 ?k3z9 ?k4z9 ?k5z9 ?kAz9 ?kFz9 ?kKz9 ?k6z9 ?k7z9 ?k8z9 ?k9z9 ?kBz9 ?_ ?c2z9 ?c3z9 ?c4z9 ?c5z9; (case kAz9 => exact rfl); (case kFz9 => exact rfl); (case kKz9 => assumption); (case k1z9 => k_asm); (case k2z9 => k_asm); (case k3z9 => k_asm); (case k4z9 => k_asm); (case k5z9 => k_asm); (case k6z9 => k_is); (case k7z9 => k_is); (case k8z9 => ktr_room); (case k9z9 => first | exact BindsTo.of_eq rfl | exact binds_K (by k_in) rfl (by k_is) rfl rfl rfl); (case c5z9 => decide); (case kBz9 => exact locs rfl); (case c2z9 => exact rfl); (case c3z9 => exact rfl); (case c4z9 => exact rfl); k_whole)
  k_with "M ar" => (first | with_reducible assumption | decide | omega | (simp [List.getD]; done) | (simp [List.getD]; omega))
  k_with "M keep" => (rename Kept _ _ [] => K7; (have F' := Kept.fr (by k_asm) K7); (have N' := Kept.news (by k_asm) K7); clear K7; (try dsimp only); (try k_sweep))
  k_with "M enterC" => (refine' enterMC ?k1z9 ?k2z9 ?k3z9 ?k4z9 ?k5z9 ?kAz9 ?kFz9 ?kKz9 ?k6z9 ?k7z9 ?k8z9 ?k9z9 ?kBz9 ?kDz9 ?_ ?c2z9 ?c3z9 ?c4z9; (case kAz9 => exact rfl); (case kFz9 => exact rfl); (case kKz9 => assumption); (case k1z9 => k_asm); (case k2z9 => k_asm); (case k3z9 => k_asm); (case k4z9 => k_asm); (case k5z9 => k_asm); (case k6z9 => k_is); (case k7z9 => k_is); (case k8z9 => ktr_room); (case k9z9 => first | exact BindsTo.of_eq rfl | exact binds_K (by k_in) rfl (by k_is) rfl rfl rfl); (case kBz9 => exact rfl); (case kDz9 => decide +kernel); (case c2z9 => exact rfl); (case c3z9 => exact rfl); (case c4z9 => exact rfl); k_whole; intro g' L' h' tk' cells' K' G' FG' F' N' Y' B' X' T' l1 l2; (try k_lt l1); k_cells Y'; (try simp only [List.cons_append, List.nil_append] at N'); (try dsimp only); (try k_lift B'); (try k_fold))
  k_with "M enterC0" => (refine' enterMC ?k1z9 ?k2z9 ?k3z9 ?k4z9 ?k5z9 ?kAz9 ?kFz9 ?kKz9 ?k6z9 ?k7z9 ?k8z9 ?k9z9 ?kBz9 ?kDz9 ?_ ?c2z9 ?c3z9 ?c4z9; (case kAz9 => exact rfl); (case kFz9 => exact rfl); (case kKz9 => assumption); (case k1z9 => k_asm); (case k2z9 => k_asm); (case k3z9 => k_asm); (case k4z9 => k_asm); (case k5z9 => k_asm); (case k6z9 => k_is); (case k7z9 => k_is); (case k8z9 => ktr_room); (case k9z9 => first | exact BindsTo.of_eq rfl | exact binds_K (by k_in) rfl (by k_is) rfl rfl rfl); (case kBz9 => exact rfl); (case kDz9 => decide +kernel); (case c2z9 => exact rfl); (case c3z9 => exact rfl); (case c4z9 => exact rfl); k_whole)
  exact trivial
open Builtin Builtin.ObjectAttr
theorem updNews {h₀ h : Heap} {L d : Addr} {m : Str → Option Value} {o o' : Obj} {f : Obj → Obj} {news : List (Addr × Obj)} {g : Obj → List (Addr × Obj)} (F : Fr h₀ L h m) (N : News h₀ L h news) (U : UpdF d o news g) (e : f o = o') (hf : o'.isFreed = false) :
    Fr h₀ L (h.update d f) m ∧ News h₀ L (h.update d f) (g o') := by
  obtain ⟨pre, post, rfl, hg, h1, h2⟩ := U.split
  rw [hg]
  exact news_upd F N h1 h2 e hf
theorem UpdF.mem {d : Addr} {o : Obj} {news : List (Addr × Obj)} {g : Obj → List (Addr × Obj)} (U : UpdF d o news g) (o' : Obj) : (d, o) ∈ news ∧ (d, o') ∈ g o' := by
  obtain ⟨pre, post, rfl, hg, _, _⟩ := U.split
  exact ⟨by simp, by rw [hg]; simp⟩
section
variable {prog : Program} {w : World} {A : Around} {E : Value → Shared → Prop} {s : Shared} {h₀ : Heap} {L : Addr} {m : Str → Option Value} {news : List (Addr × Obj)} {g : Obj → List (Addr × Obj)}
theorem xs_method_K {so x : Addr} {t₀ : Addr} {pl : Sem Bool} {Q : Value × List Value → Shared → Prop} (F : Fr h₀ L s.heap m) (X : (heapK w.params).In h₀) (N : News h₀ L s.heap news)
    (hso : (so, ks_superObj 48 x 61) ∈ news) (hx : (x, excObj t₀ none) ∈ news)
    (h : ∀ q h', Fr h₀ L h' m → News h₀ L h' ((q, mwObj x) :: news) → (∀ p ∈ news, p.1 < q) → Q (.ref q, []) { s with heap := h', toks := s.toks + 1 }) :
    wpAny (model prog w) A (getMethod (.ref so) "__init__" pl) Q E s := by
  have X' := X.keeps F.keep
  obtain ⟨hh, gg, d, t, os⟩ := s
  have hxC : x ≠ 61 := fun q => by
    have := (N _ hx).2.2
    rw [q, tf_at X] at this; cases this
  refine xs_getMethod (N _ hso).1 X' (N _ hx).1 rfl hxC ?_
  obtain ⟨F', N', l'⟩ := ks_newsPush (s := ⟨hh, gg, d, t, os⟩) (o := mwObj x) F N rfl (Heap.get?_push_at rfl rfl) (fun b o e => Heap.get?_push_of_some _ e)
  exact h _ _ F' N' l'
theorem keeps_mw {M : Model} {q x : Addr} (h : Heap) (hm : h.get? q = some (mwObj x)) : ∃ k, (k = Keeper.frame ∨ k = Keeper.machine ∨ k = Keeper.boundFrame) ∧ Looks M h (keeperOf (.ref q)) k :=
  ⟨.machine, .inr (.inl rfl), (Looks.ld (part := none) hm).andThen .now⟩
theorem callWith_mw {env : Env} {pos : Pos} {q x : Addr} {e : Expr} {rest : List Expr} {Q : Value → Shared → Prop} {M : Model} (N : News h₀ L s.heap news) (hq : (q, mwObj x) ∈ news)
    (h : wpAny M A (spliced (backTo pos (starEach (e :: rest) env))) (fun vs s₁ => s₁.heap.get? q = some (mwObj x) ∧ wpAny M A (call (.ref q) ([] ++ vs)) Q E s₁) E s)
    (he : starEach (e :: rest) env = (false, eval e env) :: starEach rest env := by rfl) (hplain : (backTo pos (starEach rest env)).any (·.1) = false := by rfl) :
    wpAny M A (callWith pos (.ref q) [] (backTo pos (starEach (e :: rest) env)) []) Q E s := by
  rw [he] at h ⊢
  exact callWith_of (P := fun h => h.get? q = some (mwObj x)) (by show ((false || (backTo pos (starEach rest env)).any (·.1)) || false) = false; rw [hplain]; rfl) (fun h hm => keeps_mw h hm) (evalArgs_plain h)
theorem xs_call_K {mw e t₀ : Addr} {v : Value} {Q : Value → Shared → Prop} (F : Fr h₀ L s.heap m) (X : (heapK w.params).In h₀) (N : News h₀ L s.heap news) (hm : (mw, mwObj e) ∈ news) (U : UpdF e (excObj t₀ none) news g)
    (h : ∀ t₁ h', Fr h₀ L h' m → News h₀ L h' ((t₁, tupO [v]) :: g (excObj t₁ none)) → (∀ p ∈ news, p.1 < t₁) → Q .none { s with heap := h' }) :
    wpAny (model prog w) A (call (.ref mw) [v]) Q E s := by
  have X' := X.keeps F.keep
  have hx := (UpdF.mem U (excObj t₀ none)).1
  obtain ⟨hh, gg, d, t, os⟩ := s
  refine xs_call_init X' (N _ hm).1 (N _ hx).1 ?_
  have U' : UpdF e (excObj t₀ none) ((hh.objs.size, tupO [v]) :: news) (fun o => (hh.objs.size, tupO [v]) :: g o) := UpdF.tail (Nat.ne_of_gt (Heap.lt_size (N _ hx).1)) U
  obtain ⟨F', N'⟩ := updNews (f := Obj.mapFields (·.setIfInBounds 0 (.ref hh.objs.size))) (o' := excObj hh.objs.size none) (F.push _) (N.push F (tupO [v])) U' rfl rfl
  exact h _ _ F' N' (fun p hp => Heap.lt_size (N p hp).1)
theorem xs_set0_K {e t₀ : Addr} {name : Str} {v : Value} {Q : Unit → Shared → Prop} (F : Fr h₀ L s.heap m) (X : (heapK w.params).In h₀) (N : News h₀ L s.heap news) (U : UpdF e (excObj t₀ none) news g)
    (ht : findIn (heapK w.params) (.ref 61) name = some none)
    (h : ∀ dx h', Fr h₀ L h' m → News h₀ L h' ((dx, dictOf [⟨PyData.keyHash w.params name, .str name (s.toks + 1), v⟩] 1) :: g (excObj t₀ (some dx))) → (∀ p ∈ news, p.1 < dx) → Q () { s with heap := h', toks := s.toks + 2 }) :
    wpAny (model prog w) A (setAttr (.ref e) name v) Q E s := by
  have X' := X.keeps F.keep
  have hx := (UpdF.mem U (excObj t₀ none)).1
  refine xs_set0 X' (N _ hx).1 ht ?_
  have lt : ∀ p ∈ news, p.1 < s.heap.objs.size := fun p hp => Heap.lt_size (N p hp).1
  have U' : UpdF e (excObj t₀ none) ((s.heap.objs.size, emptyDict) :: news) (fun o => (s.heap.objs.size, emptyDict) :: g o) := UpdF.tail (Nat.ne_of_gt (lt _ hx)) U
  obtain ⟨F', N'⟩ := updNews (f := fun o => { o with dict := some s.heap.objs.size }) (o' := excObj t₀ (some s.heap.objs.size)) (F.push _) (N.push F emptyDict) U' rfl rfl
  have U2 : UpdF s.heap.objs.size (dictOf [] 0) ((s.heap.objs.size, emptyDict) :: g (excObj t₀ (some s.heap.objs.size))) (fun o => (s.heap.objs.size, o) :: g (excObj t₀ (some s.heap.objs.size))) := UpdF.head fun p hp => by
    obtain ⟨pre, post, rfl, hg, h1, h2⟩ := U.split
    rw [hg] at hp
    rcases List.mem_append.mp hp with hp | hp
    · exact Nat.ne_of_lt (lt p (List.mem_append_left _ hp))
    · rcases List.mem_cons.mp hp with rfl | hp
      · exact Nat.ne_of_lt (lt (e, excObj t₀ none) hx)
      · exact Nat.ne_of_lt (lt p (List.mem_append_right _ (.tail _ hp)))
  obtain ⟨F2, N2⟩ := updNews (f := Obj.putName name (PyData.keyHash w.params name) (.str name (s.toks + 1)) v) (o' := dictOf [⟨PyData.keyHash w.params name, .str name (s.toks + 1), v⟩] 1) F' N' U2 (putName_dict _ _ _ _ _ _) rfl
  exact h _ _ F2 N2 lt
theorem xs_set1_K {e dx t₀ : Addr} {es es' : List DictEntry} {n n' : Nat} {name : Str} {v : Value} {Q : Unit → Shared → Prop} (F : Fr h₀ L s.heap m) (X : (heapK w.params).In h₀) (N : News h₀ L s.heap news) (he : (e, excObj t₀ (some dx)) ∈ news) (U : UpdF dx (dictOf es n) news g)
    (hl : (getL name es).isSome = true) (hz : es.length ≤ 1000) (ht : findIn (heapK w.params) (.ref 61) name = some none)
    (ep : (putL name (PyData.keyHash w.params name) (.str name (s.toks + 1)) v es, putN name es n) = (es', n'))
    (h : ∀ h', Fr h₀ L h' m → News h₀ L h' (g (dictOf es' n')) → Q () { s with heap := h', toks := s.toks + 2 }) :
    wpAny (model prog w) A (setAttr (.ref e) name v) Q E s := by
  have X' := X.keeps F.keep
  have hx := (UpdF.mem U (dictOf es n)).1
  obtain ⟨e1, e2⟩ := Prod.mk.inj ep
  refine xs_set1 X' (N _ he).1 (N _ hx).1 hl hz ht ?_
  obtain ⟨F', N'⟩ := updNews (f := Obj.putName name (PyData.keyHash w.params name) (.str name (s.toks + 1)) v) (o' := dictOf es' n') F N U (by rw [putName_dict, e1, e2]) rfl
  exact h _ F' N'
end
end
section
theorem rT9_0 : True := by
  k_with_none
  k_with "ne" => (refine neN ?_; (try dsimp only); first | with_reducible assumption | exact Ne.symm (by with_reducible assumption) | exact off_ne (by with_reducible assumption) (by k_mem) | exact Ne.symm (off_ne (by with_reducible assumption) (by k_mem)) | exact off_i (by with_reducible assumption) (by k_mem) | exact off_c (by with_reducible assumption) (by k_mem) | exact off_d (by with_reducible assumption) (by k_mem) | exact Ne.symm (off_i (by with_reducible assumption) (by k_mem)) | exact Ne.symm (off_c (by with_reducible assumption) (by k_mem)) | exact Ne.symm (off_d (by with_reducible assumption) (by k_mem)) | exact Ne3.a (by with_reducible assumption) | exact Ne3.b (by with_reducible assumption) | exact Ne3.c (by with_reducible assumption) | exact Ne.symm (Ne3.a (by with_reducible assumption)) | exact Ne.symm (Ne3.b (by with_reducible assumption)) | exact Ne.symm (Ne3.c (by with_reducible assumption)) | exact NeA.ne (by with_reducible assumption) | exact Ne.symm (NeA.ne (by with_reducible assumption)) | exact Nat.ne_of_lt (by with_reducible assumption) | exact Nat.ne_of_gt (by with_reducible assumption) | exact Nat.ne_of_lt (And.left (by with_reducible assumption)) | exact Nat.ne_of_gt (And.left (by with_reducible assumption)) | exact Nat.ne_of_lt (And.left (And.right (by with_reducible assumption))) | exact Nat.ne_of_gt (And.left (And.right (by with_reducible assumption))) | exact Nat.ne_of_lt (And.right (by with_reducible assumption)) | exact Nat.ne_of_gt (And.right (by with_reducible assumption)) | exact Nat.ne_of_lt (And.right (And.right (by with_reducible assumption))) | exact Nat.ne_of_gt (And.right (And.right (by with_reducible assumption))) | exact Nat.ne_of_lt (And.left (And.right (And.right (by with_reducible assumption)))) | exact Nat.ne_of_gt (And.left (And.right (And.right (by with_reducible assumption)))))
  k_with "M enter" => (refine' enterM ?k1z9 ?k2z9 ?k3z9 ?k4z9 ?k5z9 ?kAz9 ?kFz9 ?kKz9 ?k6z9 ?k7z9 ?k8z9 ?k9z9 ?kBz9 ?_ ?c2z9 ?c3z9 ?c4z9 ?c5z9; (case kAz9 => exact rfl); (case kFz9 => exact rfl); (case kKz9 => assumption); (case k1z9 => k_asm); (case k2z9 => k_asm); (case k3z9 => k_asm); (case k4z9 => k_asm); (case k5z9 => k_asm); (case k6z9 => k_is); (case k7z9 => k_is); (case k8z9 => ktr_room); (case k9z9 => first | exact BindsTo.of_eq rfl | exact binds_K (by k_in) rfl (by k_is) rfl rfl rfl); (case c5z9 => decide); (case kBz9 => exact locs rfl); (case c2z9 => exact rfl); (case c3z9 => exact rfl); (case c4z9 => exact rfl); k_whole; intro g' L' h' tk' K' G' FG' F' N' B' X' T' l1 l2; (try k_lt l1); (try dsimp only); (try k_lift B'); (try k_fold))
  k_with "M enter0" => (refine' enterM ?k1z9 ?k2z9 ?k3z9 ?k4z9 ?k5z9 ?kAz9 ?kFz9 ?kKz9 ?k6z9 ?k7z9 ?k8z9 ?k9z9 ?kBz9 ?_ ?c2z9 ?c3z9 ?c4z9 ?c5z9; (case kAz9 => exact rfl); (case kFz9 => exact rfl); (case kKz9 => assumption); (case k1z9 => k_asm); (case k2z9 => k_asm); (case k3z9 => k_asm); (case k4z9 => k_asm); (case k5z9 => k_asm); (case k6z9 => k_is); (case k7z9 => k_is); (case k8z9 => ktr_room); (case k9z9 => first | exact BindsTo.of_eq rfl | exact binds_K (by k_in) rfl (by k_is) rfl rfl rfl); (case c5z9 => decide); (case kBz9 => exact locs rfl); (case c2z9 => exact rfl); (case c3z9 => exact rfl); (case c4z9 => exact rfl); k_whole)
  k_with "M ar" => (first | with_reducible assumption | decide | omega | (simp [List.getD]; done) | (simp [List.getD]; omega))
  k_with "M keep" => (rename Kept _ _ [] => K7; (have F' := Kept.fr (by k_asm) K7); (have N' := Kept.news (by k_asm) K7); clear K7; (try dsimp only); (try k_sweep))
  k_with "M enterC" => (refine' enterMC ?k1z9 ?k2z9 ?k3z9 ?k4z9 ?k5z9 ?kAz9 ?kFz9 ?kKz9 ?k6z9 ?k7z9 ?k8z9 ?k9z9 ?kBz9 ?kDz9 ?_ ?c2z9 ?c3z9 ?c4z9; (case kAz9 => exact rfl); (case kFz9 => exact rfl); (case kKz9 => assumption); (case k1z9 => k_asm); (case k2z9 => k_asm); (case k3z9 => k_asm); (case k4z9 => k_asm); (case k5z9 => k_asm); (case k6z9 => k_is); (case k7z9 => k_is); (case k8z9 => ktr_room); (case k9z9 => first | exact BindsTo.of_eq rfl | exact binds_K (by k_in) rfl (by k_is) rfl rfl rfl); (case kBz9 => exact rfl); (case kDz9 => decide +kernel); (case c2z9 => exact rfl); (case c3z9 => exact rfl); (case c4z9 => exact rfl); k_whole; intro g' L' h' tk' cells' K' G' FG' F' N' Y' B' X' T' l1 l2; (try k_lt l1); k_cells Y'; (try simp only [List.cons_append, List.nil_append] at N'); (try dsimp only); (try k_lift B'); (try k_fold))
  k_with "M enterC0" => (refine' enterMC ?k1z9 ?k2z9 ?k3z9 ?k4z9 ?k5z9 ?kAz9 ?kFz9 ?kKz9 ?k6z9 ?k7z9 ?k8z9 ?k9z9 ?kBz9 ?kDz9 ?_ ?c2z9 ?c3z9 ?c4z9; (case kAz9 => exact rfl); (case kFz9 => exact rfl); (case kKz9 => assumption); (case k1z9 => k_asm); (case k2z9 => k_asm); (case k3z9 => k_asm); (case k4z9 => k_asm); (case k5z9 => k_asm); (case k6z9 => k_is); (case k7z9 => k_is); (case k8z9 => ktr_room); (case k9z9 => first | exact BindsTo.of_eq rfl | exact binds_K (by k_in) rfl (by k_is) rfl rfl rfl); (case kBz9 => exact rfl); (case kDz9 => decide +kernel); (case c2z9 => exact rfl); (case c3z9 => exact rfl); (case c4z9 => exact rfl); k_whole)
  exact trivial
section
variable {prog : Program} {w : World} {A A₀ : Around} {s : Shared} {K : Frag} {L : Addr} {h₀ base : Heap} {m mg mb : Str → Option Value} {news : List (Addr × Obj)} {p : Program} {loose : List Str} {mean : ExcName → Option Value}
theorem enterS {env : Env} {outer : List Env} {R : Result → Shared → Prop} {name qual : Str} {params : Arguments} {body : List Stmt} {scope : Scope} {dV kV doc pm cdv ct oc : Value} {an od : Option Addr} {osl : Array (Option Value)} {f cc : Addr} {args : Args} {binds : List (Str × Value)}
    (B : Below A₀ base outer h₀) (F : Fr h₀ L s.heap m) (X₀ : K.In h₀) (N : News h₀ L s.heap news) (T : Top p loose mean mg mb h₀) (hA : A.frames = some (env :: outer)) (hf : env.frame = some L) (hke : env.scope.kind = .function)
    (ho : K.lookup f = some ⟨oc, od, .func (ksFn name qual params body scope dV kV doc pm an cdv ct cc), osl⟩) (hcd : codeIn K cdv qual = true) (hroom : A.depth < recursionLimit)
    (hbind : BindsTo s (ksFn name qual params body scope dV kV doc pm an cdv ct cc) args binds) (hloc : ∀ y ∈ binds, scope.names.lookup y.1 = some .local)
    (h : ∀ g L' h₁ tk, Kept s.heap g (news.map (·.1)) → (∀ b o, g.get? b = some o → s.heap.get? b = some o) → Fr h₀ L g m → Fr g L' h₁ (fun y => binds.reverse.lookup y) → News g L' h₁ news → Below A base (env :: outer) g → K.In g → Top p loose mean mg mb g → (∀ p ∈ news, p.1 < L') →
      _root_.PySem.wpAt (model prog w) (A.deeper (ksEnv qual scope L' f cdv cc)) (.func body (ksEnv qual scope L' f cdv cc)) (execs body (ksEnv qual scope L' f cdv cc))
        (fun fl s' => LeaveK h₀ L m g R (match fl with | .ret v => v | _ => .none) s')
        (fun e s' => wpAny (model prog w) (A.deeper (ksEnv qual scope L' f cdv cc)) (leaving (ksEnv qual scope L' f cdv cc) e) (fun _ s'' => R (.error e) s'') (fun e' s'' => R (.error e') s'') s')
        { s with heap := h₁, toks := tk })
    (hcell : ∀ x ∈ scope.names, x.2 ≠ .cell) (hco : scope.isCoroutine = false) (hgen : scope.isGenerator = false) (hk : scope.kind = .function) : codeAny (model prog w) A (.call (.ref f) args) R s := by
  obtain ⟨FG, BG, st, lv⟩ := groundX (R := R) B F N hA hf hke
  refine ks_codeAny_call_defAt (fd := ksFn name qual params body scope dV kV doc pm an cdv ct cc) (body := body) (binds := binds) hroom ((X₀.keeps F.keep) _ _ ho) rfl (T.nolimit.keeps F.keep) (codeRec_of (X₀.keeps F.keep) hcd) rfl hbind hcell hloc (fun h₁ hns hk₁ => ?_) hco hgen hk
  exact ks_wpAt_mono (h _ s.heap.objs.size h₁ _ (fun b o e n => hideAll_get _ e n) (fun b o e => of_hideAll _ e) FG ⟨hns, fun b o e => hk₁ b o (of_hideAll _ e), Nat.le_of_eq (hideAll_size _ _)⟩
    (fun p hp => ⟨hk₁ _ _ (N p hp).1, Nat.ne_of_lt (Heap.lt_size (N p hp).1), hideAll_none _ (List.mem_map_of_mem hp)⟩) BG (X₀.keeps st) (T.keeps st) (fun p hp => Heap.lt_size (N p hp).1)) (fun fl s' hl => lv _ _ hl) fun _ _ y => y
end
section
variable {w : World} {mean : ExcName → Option Value} {mg mb : Str → Option Value} {env : Env} {outer : List Env} {A A₀ : Around} {base h₀ : Heap} {L : Addr} {m : Str → Option Value} {s : Shared} {R : Result → Shared → Prop}
   (B : Below A₀ base outer h₀) (F : Fr h₀ L s.heap m) (X : (heapK w.params).In h₀) (T : Top prgV (looseW prgV [Str.ofString "ShapeError"]) mean mg mb h₀)
   (hA : A.frames = some (env :: outer)) (hf : env.frame = some L) (hke : env.scope.kind = .function)
include B F X T hA hf hke
set_option maxRecDepth 100000 in
set_option maxHeartbeats 8000000 in
theorem init_spec {e t : Addr} {S : Str} {i : Int} {t1 t2 : Tok} (hroom : A.depth + 10 < recursionLimit) (hu : A.units + 100 < cLine) (hh : A.handled = none)
   (N : News h₀ L s.heap [(e, excObj t none)]) (hS : S.length ≤ 1000)
   (hret : ∀ dx t4 k1 k2 h' tk', Kept s.heap h' [e] → h'.get? e = some (excObj t4 (some dx)) →
     h'.get? dx = some (dictOf [⟨PyData.keyHash w.params "what", .str "what" k1, .str S t1⟩, ⟨PyData.keyHash w.params "at", .str "at" k2, .int i t2⟩] 2) →
     s.heap.get? dx = none → h'.get? t4 = some (tupO [.str S t1]) → s.heap.get? t4 = none → R (.ok (.ret .none)) { s with heap := h', toks := tk' }) :
   codeAny (model Challenge.rw_nu0154_01.row.prog w) A (.call (.ref 38) ⟨[.ref e, .str S t1, .int i t2], []⟩) R s := by
  revert X; k_fill; intro X
  k_dflt (refine' enterS ?k1 ?k2 ?k3 ?k4 ?k5 ?kA ?kF ?kK ?k6 ?k7 ?k8 ?k9 ?kB ?_ ?c1 ?c2 ?c3 ?c4; (case kA => assumption); (case kF => assumption); (case kK => assumption); (case k1 => k_asm); (case k2 => k_asm); (case k3 => k_asm); (case k4 => k_asm); (case k5 => k_asm); (case k6 => k_is); (case k7 => k_is); (case k8 => omega); (case k9 => exact binds_K (by k_in) rfl (by k_is) rfl rfl rfl); (case kB => exact locs rfl); (case c1 => decide); (case c2 => exact rfl); (case c3 => exact rfl); (case c4 => exact rfl); intro g' L' h' tk' K' G' FG' F' N' B' X' T' l1; (try k_lt l1); (try dsimp only))
  k_steps
  have I : InstAt h' e (excObj t none) 61 none := ⟨(N' _ (.head _)).1, rfl, rfl, trivial⟩
  k_dflt (refine ks_node F' X' N' T' (by k_is) (by rfl) (by rfl) I (by k_is) (by rfl) (by first | rfl | decide +kernel) (by k_is) (by k_is) (by k_is) (by k_is) (by decide) (by rfl) (by rfl) (by rfl) (by rfl) (by decide +kernel) (by first | boot_by_name | rfl | kernel_rfl) ?_)
  intro so h2 F2 N2 l2
  k_lt l2
  refine xs_method_K F2 X' N2 (by k_mem) (by k_mem) ?_
  intro q h3 F3 N3 l3
  k_lt l3
  dsimp only
  refine callWith_mw N3 (by k_mem) ?_
  k_steps
  · exact (N3 _ (.head _)).1
  refine xs_call_K F3 X' N3 (by k_mem) (by k_updF) ?_
  intro t4 h4 F4 N4 l4
  k_lt l4
  try dsimp only at N4
  k_steps
  refine xs_set0_K F4 X' N4 (by k_updF) (by k_is) ?_
  intro dx h5 F5 N5 l5
  k_lt l5
  try dsimp only at N5
  k_steps
  refine xs_set1_K F5 X' N5 (by k_mem) (by k_updF) (by k_get) (by simp) (by k_is) (by k_put) ?_
  intro h6 F6 N6
  try dsimp only at N6
  k_steps
  have hN := fun p hp => (N6 p hp).2.2
  refine hret dx t4 _ _ h6 _ (Kept.out K' F6) (N6 (e, _) (by k_mem)).1 (N6 _ (.head _)).1 (Kept.fresh K' (hN _ (.head _)) ?_) (N6 (t4, _) (by k_mem)).1 (Kept.fresh K' (hN (t4, _) (by k_mem)) ?_)
  · simp only [List.map_cons, List.map_nil, List.mem_singleton]; refine neN ?_; omega
  · simp only [List.map_cons, List.map_nil, List.mem_singleton]; refine neN ?_; omega
end
end
section
theorem rT14_0 : True := by
  k_with_none
  k_with "ne" => (refine neN ?_; (try dsimp only); first | with_reducible assumption | exact Ne.symm (by with_reducible assumption) | exact off_ne (by with_reducible assumption) (by k_mem) | exact Ne.symm (off_ne (by with_reducible assumption) (by k_mem)) | exact off_i (by with_reducible assumption) (by k_mem) | exact off_c (by with_reducible assumption) (by k_mem) | exact off_d (by with_reducible assumption) (by k_mem) | exact Ne.symm (off_i (by with_reducible assumption) (by k_mem)) | exact Ne.symm (off_c (by with_reducible assumption) (by k_mem)) | exact Ne.symm (off_d (by with_reducible assumption) (by k_mem)) | exact Ne3.a (by with_reducible assumption) | exact Ne3.b (by with_reducible assumption) | exact Ne3.c (by with_reducible assumption) | exact Ne.symm (Ne3.a (by with_reducible assumption)) | exact Ne.symm (Ne3.b (by with_reducible assumption)) | exact Ne.symm (Ne3.c (by with_reducible assumption)) | exact NeA.ne (by with_reducible assumption) | exact Ne.symm (NeA.ne (by with_reducible assumption)) | exact Nat.ne_of_lt (by with_reducible assumption) | exact Nat.ne_of_gt (by with_reducible assumption) | exact Nat.ne_of_lt (And.left (by with_reducible assumption)) | exact Nat.ne_of_gt (And.left (by with_reducible assumption)) | exact Nat.ne_of_lt (And.left (And.right (by with_reducible assumption))) | exact Nat.ne_of_gt (And.left (And.right (by with_reducible assumption))) | exact Nat.ne_of_lt (And.right (by with_reducible assumption)) | exact Nat.ne_of_gt (And.right (by with_reducible assumption)) | exact Nat.ne_of_lt (And.right (And.right (by with_reducible assumption))) | exact Nat.ne_of_gt (And.right (And.right (by with_reducible assumption))) | exact Nat.ne_of_lt (And.left (And.right (And.right (by with_reducible assumption)))) | exact Nat.ne_of_gt (And.left (And.right (And.right (by with_reducible assumption)))))
  k_with "M enter" => (refine' enterM ?k1z9 ?k2z9 ?k3z9 ?k4z9 ?k5z9 ?kAz9 ?kFz9 ?kKz9 ?k6z9 ?k7z9 ?k8z9 ?k9z9 ?kBz9 ?_ ?c2z9 ?c3z9 ?c4z9 ?c5z9; (case kAz9 => exact rfl); (case kFz9 => exact rfl); (case kKz9 => assumption); (case k1z9 => k_asm); (case k2z9 => k_asm); (case k3z9 => k_asm); (case k4z9 => k_asm); (case k5z9 => k_asm); (case k6z9 => k_is); (case k7z9 => k_is); (case k8z9 => ktr_room); (case k9z9 => first | exact BindsTo.of_eq rfl | exact binds_K (by k_in) rfl (by k_is) rfl rfl rfl); (case c5z9 => decide); (case kBz9 => exact locs rfl); (case c2z9 => exact rfl); (case c3z9 => exact rfl); (case c4z9 => exact rfl); k_whole; intro g' L' h' tk' K' G' FG' F' N' B' X' T' l1 l2; (try k_lt l1); (try dsimp only); (try k_lift B'); (try k_fold))
  k_with "M enter0" => (refine' enterM ?k1z9 ?k2z9 ?k3z9 ?k4z9 ?k5z9 ?kAz9 ?kFz9 ?kKz9 ?k6z9 ?k7z9 ?k8z9 ?k9z9 ?kBz9 ?_ ?c2z9 ?c3z9 ?c4z9 ?c5z9; (case kAz9 => exact rfl); (case kFz9 => exact rfl); (case kKz9 => assumption); (case k1z9 => k_asm); (case k2z9 => k_asm); (case k3z9 => k_asm); (case k4z9 => k_asm); (case k5z9 => k_asm); (case k6z9 => k_is); (case k7z9 => k_is); (case k8z9 => ktr_room); (case k9z9 => first | exact BindsTo.of_eq rfl | exact binds_K (by k_in) rfl (by k_is) rfl rfl rfl); (case c5z9 => decide); (case kBz9 => exact locs rfl); (case c2z9 => exact rfl); (case c3z9 => exact rfl); (case c4z9 => exact rfl); k_whole)
  k_with "M ar" => (first | with_reducible assumption | decide | omega | (simp [List.getD]; done) | (simp [List.getD]; omega))
  k_with "M keep" => (rename Kept _ _ [] => K7; (have F' := Kept.fr (by k_asm) K7); (have N' := Kept.news (by k_asm) K7); clear K7; (try dsimp only); (try k_sweep))
  k_with "M enterC" => (refine' enterMC ?k1z9 ?k2z9 ?k3z9 ?k4z9 ?k5z9 ?kAz9 ?kFz9 ?kKz9 ?k6z9 ?k7z9 ?k8z9 ?k9z9 ?kBz9 ?kDz9 ?_ ?c2z9 ?c3z9 ?c4z9; (case kAz9 => exact rfl); (case kFz9 => exact rfl); (case kKz9 => assumption); (case k1z9 => k_asm); (case k2z9 => k_asm); (case k3z9 => k_asm); (case k4z9 => k_asm); (case k5z9 => k_asm); (case k6z9 => k_is); (case k7z9 => k_is); (case k8z9 => ktr_room); (case k9z9 => first | exact BindsTo.of_eq rfl | exact binds_K (by k_in) rfl (by k_is) rfl rfl rfl); (case kBz9 => exact rfl); (case kDz9 => decide +kernel); (case c2z9 => exact rfl); (case c3z9 => exact rfl); (case c4z9 => exact rfl); k_whole; intro g' L' h' tk' cells' K' G' FG' F' N' Y' B' X' T' l1 l2; (try k_lt l1); k_cells Y'; (try simp only [List.cons_append, List.nil_append] at N'); (try dsimp only); (try k_lift B'); (try k_fold))
  k_with "M enterC0" => (refine' enterMC ?k1z9 ?k2z9 ?k3z9 ?k4z9 ?k5z9 ?kAz9 ?kFz9 ?kKz9 ?k6z9 ?k7z9 ?k8z9 ?k9z9 ?kBz9 ?kDz9 ?_ ?c2z9 ?c3z9 ?c4z9; (case kAz9 => exact rfl); (case kFz9 => exact rfl); (case kKz9 => assumption); (case k1z9 => k_asm); (case k2z9 => k_asm); (case k3z9 => k_asm); (case k4z9 => k_asm); (case k5z9 => k_asm); (case k6z9 => k_is); (case k7z9 => k_is); (case k8z9 => ktr_room); (case k9z9 => first | exact BindsTo.of_eq rfl | exact binds_K (by k_in) rfl (by k_is) rfl rfl rfl); (case kBz9 => exact rfl); (case kDz9 => decide +kernel); (case c2z9 => exact rfl); (case c3z9 => exact rfl); (case c4z9 => exact rfl); k_whole)
  exact trivial
/-- a tree that changes no object's dict -/
def KD {α : Type} : Sem α → Prop
  | .pure _ => True
  | .raise _ => True
  | .unsupported _ => True
  | .finish _ => True
  | .rule _ k => KD (k ())
  | .at _ k => KD (k ())
  | .load _ _ k => ∀ o, KD (k o)
  | .update _ _ f k => (∀ o : Obj, (f o).dict = o.dict ∧ (f o).isFreed = o.isFreed) ∧ KD (k ())
  | .alloc _ k => ∀ a, KD (k a)
  | .loadIfAlive _ k => ∀ o, KD (k o)
  | .point _ k => KD (k ())
  | .fresh k => ∀ t, KD (k t)
  | .ask k => ∀ x, KD (k x)
  | .choose _ _ k => ∀ n, KD (k n)
  | .os _ _ k => ∀ r, KD (k r)
  | .handled _ k => ∀ h, KD (k h)
  | .newGen _ k => ∀ n, KD (k n)
  | .genState _ k => ∀ x, KD (k x)
  | .stack k => ∀ l, KD (k l)
  | .thread k => ∀ n, KD (k n)
  | _ => False
def DK (h h' : Heap) : Prop := ∀ b o, h.get? b = some o → ∃ o', h'.get? b = some o' ∧ o'.dict = o.dict
theorem DK.refl (h : Heap) : DK h h := fun _ o e => ⟨o, e, rfl⟩
theorem DK.trans {h₁ h₂ h₃ : Heap} (x : DK h₁ h₂) (y : DK h₂ h₃) : DK h₁ h₃ := fun b o e => by
  obtain ⟨o₂, e₂, d₂⟩ := x b o e
  obtain ⟨o₃, e₃, d₃⟩ := y b o₂ e₂
  exact ⟨o₃, e₃, d₃.trans d₂⟩
theorem DK.update {h : Heap} {a : Addr} {f : Obj → Obj} (hf : ∀ o : Obj, (f o).dict = o.dict ∧ (f o).isFreed = o.isFreed) : DK h (h.update a f) := fun b o e => by
  by_cases q : b = a
  · subst q
    exact ⟨f o, Heap.get?_update_self _ e (by rw [(hf o).2]; exact (Heap.get?_some_iff.mp e).2), (hf o).1⟩
  · exact ⟨o, (Heap.get?_update_ne _ _ _ _ q).trans e, rfl⟩
theorem KD.wp {α : Type} {M : Model} {Γ : PySem.Ctx} {t : Sem α} {Q : α → Pos → Shared → Prop} {E : Value → Pos → Shared → Prop} {h₀ : Heap} (k : KD t) {p : Pos} {s : Shared} (d : DK h₀ s.heap) (h : Sem.wp M Γ t Q E p s) :
    Sem.wp M Γ t (fun a p' s' => Q a p' s' ∧ DK h₀ s'.heap) (fun e p' s' => E e p' s' ∧ DK h₀ s'.heap) p s := by
  induction t generalizing p s with
  | pure a => exact ⟨h, d⟩
  | raise e => exact ⟨h, d⟩
  | unsupported | finish => exact h
  | rule _ k' ih => exact ih _ k d h
  | «at» _ k' ih => exact ih _ k d h
  | load a _ k' ih => obtain ⟨o, ho, h⟩ := h; exact ⟨o, ho, ih _ (k o) d h⟩
  | update a _ f k' ih => exact ⟨h.1, ih _ k.2 (d.trans (DK.update k.1)) h.2⟩
  | alloc o k' ih => exact ih _ (k _) (d.trans fun b x e => ⟨x, Heap.get?_push_of_some _ e, rfl⟩) h
  | loadIfAlive a k' ih => exact ih _ (k _) d h
  | point _ k' ih => exact ih _ k d h
  | fresh k' ih => exact ih _ (k _) d h
  | ask k' ih => exact ih _ (k _) d h
  | choose _ _ k' ih => exact ⟨h.1, ih _ (k _) d h.2⟩
  | os _ _ k' ih => exact ih _ (k _) d h
  | handled _ k' ih => exact ih _ (k _) d h
  | newGen _ k' ih => exact ih _ (k _) d h
  | genState _ k' ih => obtain ⟨st, hs, h⟩ := h; exact ⟨st, hs, ih _ (k _) d h⟩
  | stack k' ih => exact ih _ (k _) d h
  | thread k' ih => exact ih _ (k _) d h
  | call _ _ _ _ _ _ => exact k.elim
  | resume _ _ _ _ _ => exact k.elim
  | yield _ _ _ _ _ => exact k.elim
  | register _ _ _ => exact k.elim
  | fork _ _ _ => exact k.elim
  | await _ _ _ _ _ _ => exact k.elim
theorem KD.any {α : Type} {M : Model} {A : Around} {t : Sem α} {Q : α → Shared → Prop} {E : Value → Shared → Prop} {s : Shared} (k : KD t) (h : wpAny M A t Q E s) :
    wpAny M A t (fun a s' => Q a s' ∧ DK s.heap s'.heap) (fun e s' => E e s' ∧ DK s.heap s'.heap) s := fun Γ p hΓ => k.wp (DK.refl _) (h Γ p hΓ)
theorem KD.bind {α β : Type} {t : Sem α} {f : α → Sem β} (k : KD t) (kf : ∀ a, KD (f a)) : KD (t >>= f) := by
  show KD (t.bind f)
  induction t with
  | pure a => exact kf a
  | raise | unsupported | finish => trivial
  | update a _ g k' ih => exact ⟨k.1, ih _ k.2⟩
  | rule _ k' ih | «at» _ k' ih | point _ k' ih => exact ih _ k
  | load _ _ k' ih | alloc _ k' ih | loadIfAlive _ k' ih | fresh k' ih | ask k' ih | choose _ _ k' ih | os _ _ k' ih | handled _ k' ih | newGen _ k' ih | genState _ k' ih | stack k' ih | thread k' ih => exact fun x => ih _ (k x)
  | call | resume | yield | register | fork | await => exact k.elim
theorem KD.pure {α : Type} {a : α} : KD (Pure.pure a : Sem α) := True.intro
theorem KD.unsup {α : Type} {w : String} : KD (unsupported w : Sem α) := True.intro
theorem KD.load {a : Addr} : KD (load a) := fun _ => True.intro
theorem KD.loadPart {a : Addr} {p : Option Value} : KD (loadPart a p) := fun _ => True.intro
theorem KD.stack : KD stack := fun _ => True.intro
theorem KD.alloc {o : Obj} : KD (alloc o) := fun _ => True.intro
theorem KD.fields {v : Value} : KD (fieldsOf v) := by
  unfold fieldsOf
  cases v <;> first | exact KD.unsup | skip
  refine KD.bind KD.load fun o => ?_
  split <;> first | exact KD.pure | exact KD.unsup
theorem KD.field {v : Value} {i : Nat} : KD (field v i) := by
  unfold PySem.field
  refine KD.bind KD.fields fun o => ?_
  split <;> first | exact KD.pure | exact KD.unsup
theorem mapFields_keeps {f : Array Value → Array Value} (o : Obj) : (Obj.mapFields f o).dict = o.dict ∧ (Obj.mapFields f o).isFreed = o.isFreed := by
  obtain ⟨c, d, dt, sl⟩ := o
  cases dt <;> exact ⟨rfl, rfl⟩
theorem KD.lookBehind {a : Addr} {p : Option Value} : KD (lookBehind a p) := by
  unfold PySem.lookBehind
  refine KD.bind KD.loadPart fun o => ?_
  split <;> first | exact KD.pure | exact KD.unsup
theorem KD.updateFields {a : Addr} {f : Array Value → Array Value} : KD (updateFields a f) := by
  unfold PySem.updateFields
  refine KD.bind KD.load fun o => ?_
  split
  · exact KD.bind ⟨mapFields_keeps, True.intro⟩ fun _ => KD.lookBehind
  · exact KD.unsup
theorem KD.setField {v : Value} {i : Nat} {x : Value} : KD (setField v i x) := by
  unfold PySem.setField
  split
  · unfold updateField
    refine KD.bind KD.load fun o => ?_
    split
    · split
      · exact ⟨mapFields_keeps, True.intro⟩
      · exact KD.unsup
    · exact KD.unsup
  · exact KD.unsup
theorem KD.claims : KD underTheClaimsCaller := fun _ => True.intro
theorem KD.behind {env : Env} {outer : List Env} : KD (behindIsImport env outer) := by
  unfold behindIsImport
  split
  · exact KD.pure
  · split
    · exact KD.pure
    · exact KD.bind KD.field fun _ => KD.pure
theorem KD.kept {env : Env} {b : Bool} {outer : List Env} : KD (keptBack env b outer) := by
  unfold keptBack
  split
  · split
    · exact KD.pure
    · exact KD.bind KD.claims fun _ => KD.pure
  · exact KD.pure
theorem slots_keeps {g : Obj → Array (Option Value)} (o : Obj) : ({ o with slots := g o } : Obj).dict = o.dict ∧ ({ o with slots := g o } : Obj).isFreed = o.isFreed := by
  obtain ⟨c, d, dt, sl⟩ := o
  cases dt <;> exact ⟨rfl, rfl⟩
theorem KD.readyFrames : ∀ l : List Env, KD (readyFrames l)
  | [] => KD.pure
  | env :: outer => by
    unfold PySem.readyFrames
    split
    · refine KD.bind KD.load fun o => ?_
      split
      · exact KD.pure
      · refine KD.bind KD.behind fun _ => KD.bind KD.kept fun _ => KD.bind ?_ fun _ => KD.readyFrames outer
        exact ⟨fun o => ⟨rfl, by obtain ⟨c, d, dt, sl⟩ := o; cases dt <;> rfl⟩, True.intro⟩
    · exact KD.unsup
theorem KD.frameOf {env : Env} : KD (frameOf env) := by
  unfold PySem.frameOf
  refine KD.bind (KD.bind KD.stack fun _ => KD.pure) fun l => KD.bind ?_ fun r => ?_
  · unfold frameObject
    split
    · exact KD.pure
    · exact KD.bind (KD.readyFrames _) fun _ => KD.pure
  · split
    · exact KD.pure
    · exact KD.unsup
theorem KD.newFields {ty : String} {vs : List Value} : KD (newFields ty vs) := by
  unfold PySem.newFields PySem.newObj
  dsimp only
  have fin : KD (newObjAsIs (.type ty) (.fields vs.toArray)) := KD.bind KD.alloc fun _ => KD.pure
  split
  · exact KD.bind KD.unsup fun _ => fin
  · exact fin
theorem KD.place {f : Addr} {b : Bool} : KD (entryPlaceOf f b) := by
  unfold entryPlaceOf
  refine KD.bind KD.stack fun l => ?_
  split <;> exact KD.pure
theorem KD.setFlight {e : Value} {f : Option Addr} : KD (setFlight e f) := by
  unfold PySem.setFlight
  refine KD.bind KD.field fun _ => ?_
  split
  · exact KD.setField
  · exact KD.pure
theorem KD.noteFrame {e : Value} {env : Env} : KD (noteFrame e env) := by
  unfold PySem.noteFrame
  have fin : ∀ (f : Addr) (head : Value), KD (do PySem.setField e 1 (← EntryCells.newEntry head (← PySem.frameOf env) .none (rawInt f) .none (← entryPlaceOf f (head != .none)))) := fun f head =>
    KD.bind KD.frameOf fun _ => KD.bind KD.place fun _ => KD.bind KD.newFields fun _ => KD.setField
  split
  · refine KD.bind KD.field fun head => ?_
    split
    · refine KD.bind KD.field fun _ => ?_
      split
      · exact KD.pure
      · exact KD.bind KD.setField fun _ => fin _ _
    · exact fin _ _
  · exact KD.unsup
theorem KD.leaving {e : Value} {env : Env} : KD (leaving env e) := KD.bind KD.noteFrame fun _ => KD.setFlight
end
section
theorem rT15_0 : True := by
  k_with_none
  k_with "ne" => (refine neN ?_; (try dsimp only); first | with_reducible assumption | exact Ne.symm (by with_reducible assumption) | exact off_ne (by with_reducible assumption) (by k_mem) | exact Ne.symm (off_ne (by with_reducible assumption) (by k_mem)) | exact off_i (by with_reducible assumption) (by k_mem) | exact off_c (by with_reducible assumption) (by k_mem) | exact off_d (by with_reducible assumption) (by k_mem) | exact Ne.symm (off_i (by with_reducible assumption) (by k_mem)) | exact Ne.symm (off_c (by with_reducible assumption) (by k_mem)) | exact Ne.symm (off_d (by with_reducible assumption) (by k_mem)) | exact Ne3.a (by with_reducible assumption) | exact Ne3.b (by with_reducible assumption) | exact Ne3.c (by with_reducible assumption) | exact Ne.symm (Ne3.a (by with_reducible assumption)) | exact Ne.symm (Ne3.b (by with_reducible assumption)) | exact Ne.symm (Ne3.c (by with_reducible assumption)) | exact NeA.ne (by with_reducible assumption) | exact Ne.symm (NeA.ne (by with_reducible assumption)) | exact Nat.ne_of_lt (by with_reducible assumption) | exact Nat.ne_of_gt (by with_reducible assumption) | exact Nat.ne_of_lt (And.left (by with_reducible assumption)) | exact Nat.ne_of_gt (And.left (by with_reducible assumption)) | exact Nat.ne_of_lt (And.left (And.right (by with_reducible assumption))) | exact Nat.ne_of_gt (And.left (And.right (by with_reducible assumption))) | exact Nat.ne_of_lt (And.right (by with_reducible assumption)) | exact Nat.ne_of_gt (And.right (by with_reducible assumption)) | exact Nat.ne_of_lt (And.right (And.right (by with_reducible assumption))) | exact Nat.ne_of_gt (And.right (And.right (by with_reducible assumption))) | exact Nat.ne_of_lt (And.left (And.right (And.right (by with_reducible assumption)))) | exact Nat.ne_of_gt (And.left (And.right (And.right (by with_reducible assumption)))))
  k_with "M enter" => (refine' enterM ?k1z9 ?k2z9 ?k3z9 ?k4z9 ?k5z9 ?kAz9 ?kFz9 ?kKz9 ?k6z9 ?k7z9 ?k8z9 ?k9z9 ?kBz9 ?_ ?c2z9 ?c3z9 ?c4z9 ?c5z9; (case kAz9 => exact rfl); (case kFz9 => exact rfl); (case kKz9 => assumption); (case k1z9 => k_asm); (case k2z9 => k_asm); (case k3z9 => k_asm); (case k4z9 => k_asm); (case k5z9 => k_asm); (case k6z9 => k_is); (case k7z9 => k_is); (case k8z9 => ktr_room); (case k9z9 => first | exact BindsTo.of_eq rfl | exact binds_K (by k_in) rfl (by k_is) rfl rfl rfl); (case c5z9 => decide); (case kBz9 => exact locs rfl); (case c2z9 => exact rfl); (case c3z9 => exact rfl); (case c4z9 => exact rfl); k_whole; intro g' L' h' tk' K' G' FG' F' N' B' X' T' l1 l2; (try k_lt l1); (try dsimp only); (try k_lift B'); (try k_fold))
  k_with "M enter0" => (refine' enterM ?k1z9 ?k2z9 ?k3z9 ?k4z9 ?k5z9 ?kAz9 ?kFz9 ?kKz9 ?k6z9 ?k7z9 ?k8z9 ?k9z9 ?kBz9 ?_ ?c2z9 ?c3z9 ?c4z9 ?c5z9; (case kAz9 => exact rfl); (case kFz9 => exact rfl); (case kKz9 => assumption); (case k1z9 => k_asm); (case k2z9 => k_asm); (case k3z9 => k_asm); (case k4z9 => k_asm); (case k5z9 => k_asm); (case k6z9 => k_is); (case k7z9 => k_is); (case k8z9 => ktr_room); (case k9z9 => first | exact BindsTo.of_eq rfl | exact binds_K (by k_in) rfl (by k_is) rfl rfl rfl); (case c5z9 => decide); (case kBz9 => exact locs rfl); (case c2z9 => exact rfl); (case c3z9 => exact rfl); (case c4z9 => exact rfl); k_whole)
  k_with "M ar" => (first | with_reducible assumption | decide | omega | (simp [List.getD]; done) | (simp [List.getD]; omega))
  k_with "M keep" => (rename Kept _ _ [] => K7; (have F' := Kept.fr (by k_asm) K7); (have N' := Kept.news (by k_asm) K7); clear K7; (try dsimp only); (try k_sweep))
  k_with "M enterC" => (refine' enterMC ?k1z9 ?k2z9 ?k3z9 ?k4z9 ?k5z9 ?kAz9 ?kFz9 ?kKz9 ?k6z9 ?k7z9 ?k8z9 ?k9z9 ?kBz9 ?kDz9 ?_ ?c2z9 ?c3z9 ?c4z9; (case kAz9 => exact rfl); (case kFz9 => exact rfl); (case kKz9 => assumption); (case k1z9 => k_asm); (case k2z9 => k_asm); (case k3z9 => k_asm); (case k4z9 => k_asm); (case k5z9 => k_asm); (case k6z9 => k_is); (case k7z9 => k_is); (case k8z9 => ktr_room); (case k9z9 => first | exact BindsTo.of_eq rfl | exact binds_K (by k_in) rfl (by k_is) rfl rfl rfl); (case kBz9 => exact rfl); (case kDz9 => decide +kernel); (case c2z9 => exact rfl); (case c3z9 => exact rfl); (case c4z9 => exact rfl); k_whole; intro g' L' h' tk' cells' K' G' FG' F' N' Y' B' X' T' l1 l2; (try k_lt l1); k_cells Y'; (try simp only [List.cons_append, List.nil_append] at N'); (try dsimp only); (try k_lift B'); (try k_fold))
  k_with "M enterC0" => (refine' enterMC ?k1z9 ?k2z9 ?k3z9 ?k4z9 ?k5z9 ?kAz9 ?kFz9 ?kKz9 ?k6z9 ?k7z9 ?k8z9 ?k9z9 ?kBz9 ?kDz9 ?_ ?c2z9 ?c3z9 ?c4z9; (case kAz9 => exact rfl); (case kFz9 => exact rfl); (case kKz9 => assumption); (case k1z9 => k_asm); (case k2z9 => k_asm); (case k3z9 => k_asm); (case k4z9 => k_asm); (case k5z9 => k_asm); (case k6z9 => k_is); (case k7z9 => k_is); (case k8z9 => ktr_room); (case k9z9 => first | exact BindsTo.of_eq rfl | exact binds_K (by k_in) rfl (by k_is) rfl rfl rfl); (case kBz9 => exact rfl); (case kDz9 => decide +kernel); (case c2z9 => exact rfl); (case c3z9 => exact rfl); (case c4z9 => exact rfl); k_whole)
  exact trivial
open Builtin Builtin.ObjectAttr
def RaisableM (w : World) (E : Value → Shared → Prop) (v : Value) (s₁ : Shared) : Prop := ∃ e t d, v = .ref e ∧ s₁.heap.get? e = some (excObj t d) ∧ (heapK w.params).In s₁.heap ∧ E (.ref e) s₁
theorem raise_own {prog : Program} {w : World} {A : Around} {E : Value → Shared → Prop} {s : Shared} {env : Env} {x : Expr} {pos : Pos} {Q : Flow → Shared → Prop} (hh : A.handled = none)
    (h : wpAny (model prog w) A (eval x env) (RaisableM w E) E s) : wpAny (model prog w) A (exec (.Raise (some x) none pos) env) Q E s := by
  show wpAny (model prog w) A (do standAt pos; raiseStmt env (some (do let v ← eval x env; standAt pos; pure v)) none) Q E s
  have hcB : (Value.ref 61 :: bmS).contains (.type "BaseException") = true := by decide
  refine wpAny_bind (wpAny_standAt ?_)
  unfold raiseStmt
  dsimp only
  refine wpAny_bind (wpAny_bind (wpAny_mono h (fun v s₁ h₁ => wpAny_bind (wpAny_standAt (wpAny_pure ?_))) fun _ _ x => x))
  obtain ⟨e, t, d, rfl, he, X, hE⟩ := h₁
  have hC := tf_at X
  obtain ⟨hp, g, dd, tk, os⟩ := s₁
  refine wpAny_bind (wpAny_pure ?_)
  dsimp only
  repeat (first | with_reducible refine wpAny_loadPart_at he ?_ | with_reducible refine wpAny_loadPart_at hC ?_ | ((show wpAny _ _ (isSubtype (.ref 61) _) _ _ _); with_reducible refine wpAny_isSubtype_exc hC ?_; rw [hcB]) | wp_step)
  exact wpAny_raiseNew_none hh hE
section
variable {w : World} {mean : ExcName → Option Value} {mg mb : Str → Option Value} {env : Env} {outer : List Env} {A A₀ : Around} {base h₀ : Heap} {L : Addr} {m : Str → Option Value} {s : Shared} {Q E : Value → Shared → Prop}
   (B : Below A₀ base outer h₀) (F : Fr h₀ L s.heap m) (X : (heapK w.params).In h₀) (T : Top prgV (looseW prgV [Str.ofString "ShapeError"]) mean mg mb h₀)
   (hA : A.frames = some (env :: outer)) (hf : env.frame = some L) (hke : env.scope.kind = .function)
include B F X T hA hf hke
theorem tf_use {S : Str} {i : Int} {t1 t2 : Tok} (hroom : A.depth + 20 < recursionLimit) (hu : A.units + 200 < cLine) (hh : A.handled = none) (hS : S.length ≤ 1000)
   (hret : ∀ e dx t4 k1 k2 h' tk', (∀ b o, s.heap.get? b = some o → h'.get? b = some o) → s.heap.get? e = none → h'.get? e = some (excObj t4 (some dx)) →
     h'.get? dx = some (dictOf [⟨PyData.keyHash w.params "what", .str "what" k1, .str S t1⟩, ⟨PyData.keyHash w.params "at", .str "at" k2, .int i t2⟩] 2) →
     s.heap.get? dx = none → h'.get? t4 = some (tupO [.str S t1]) → s.heap.get? t4 = none → Q (.ref e) { s with heap := h', toks := tk' }) :
   wpAny (model Challenge.rw_nu0154_01.row.prog w) A (call (.ref 61) [.str S t1, .int i t2]) Q E s := by
  have X' := X.keeps F.keep
  obtain ⟨h, g, d, t, os⟩ := s
  have N := (News.nil (h₀ := h₀) (L := L) (h := h.push (tupO [.str S t1, .int i t2]))).push (F.push _) (excObj h.objs.size none)
  rw [Heap.size_push] at N
  have keep : ∀ b o, h.get? b = some o → ((h.push (tupO [.str S t1, .int i t2])).push (excObj h.objs.size none)).get? b = some o := fun b o e => Heap.get?_push_of_some _ (Heap.get?_push_of_some _ e)
  refine tf_make X' (by simp [sizeLine_eq]) ?_
  refine init_spec (A := A.under (.builtin "type.__call__" ⟨.ref 61 :: [.str S t1, .int i t2], []⟩)) B ((F.push _).push _) X T ?_ hf hke ?_ ?_ hh N hS ?_
  · exact hA
  · rw [depth_under_make]; omega
  · show A.units + 1 + 100 < cLine; omega
  · intro dx t4 k1 k2 h' tk' kp e1 e2 e3 e4 e5
    have none_of : ∀ b, ((h.push (tupO [.str S t1, .int i t2])).push (excObj h.objs.size none)).get? b = none → h.get? b = none := fun b q => by
      cases z : h.get? b with
      | none => rfl
      | some o => rw [keep b o z] at q; cases q
    refine ⟨rfl, hret _ dx t4 k1 k2 h' tk' (fun b o e => kp b o (keep b o e) (by simp only [List.mem_singleton]; exact Nat.ne_of_lt (Nat.lt_succ_of_lt (Heap.lt_size e)))) (Heap.get?_none_of_le (Nat.le_succ _)) e1 e2 (none_of _ e3) e4 (none_of _ e5)⟩
end
end
section
theorem rT16_0 : True := by
  k_with_none
  k_with "ne" => (refine neN ?_; (try dsimp only); first | with_reducible assumption | exact Ne.symm (by with_reducible assumption) | exact off_ne (by with_reducible assumption) (by k_mem) | exact Ne.symm (off_ne (by with_reducible assumption) (by k_mem)) | exact off_i (by with_reducible assumption) (by k_mem) | exact off_c (by with_reducible assumption) (by k_mem) | exact off_d (by with_reducible assumption) (by k_mem) | exact Ne.symm (off_i (by with_reducible assumption) (by k_mem)) | exact Ne.symm (off_c (by with_reducible assumption) (by k_mem)) | exact Ne.symm (off_d (by with_reducible assumption) (by k_mem)) | exact Ne3.a (by with_reducible assumption) | exact Ne3.b (by with_reducible assumption) | exact Ne3.c (by with_reducible assumption) | exact Ne.symm (Ne3.a (by with_reducible assumption)) | exact Ne.symm (Ne3.b (by with_reducible assumption)) | exact Ne.symm (Ne3.c (by with_reducible assumption)) | exact NeA.ne (by with_reducible assumption) | exact Ne.symm (NeA.ne (by with_reducible assumption)) | exact Nat.ne_of_lt (by with_reducible assumption) | exact Nat.ne_of_gt (by with_reducible assumption) | exact Nat.ne_of_lt (And.left (by with_reducible assumption)) | exact Nat.ne_of_gt (And.left (by with_reducible assumption)) | exact Nat.ne_of_lt (And.left (And.right (by with_reducible assumption))) | exact Nat.ne_of_gt (And.left (And.right (by with_reducible assumption))) | exact Nat.ne_of_lt (And.right (by with_reducible assumption)) | exact Nat.ne_of_gt (And.right (by with_reducible assumption)) | exact Nat.ne_of_lt (And.right (And.right (by with_reducible assumption))) | exact Nat.ne_of_gt (And.right (And.right (by with_reducible assumption))) | exact Nat.ne_of_lt (And.left (And.right (And.right (by with_reducible assumption)))) | exact Nat.ne_of_gt (And.left (And.right (And.right (by with_reducible assumption)))))
  k_with "M enter" => (refine' enterM ?k1z9 ?k2z9 ?k3z9 ?k4z9 ?k5z9 ?kAz9 ?kFz9 ?kKz9 ?k6z9 ?k7z9 ?k8z9 ?k9z9 ?kBz9 ?_ ?c2z9 ?c3z9 ?c4z9 ?c5z9; (case kAz9 => exact rfl); (case kFz9 => exact rfl); (case kKz9 => assumption); (case k1z9 => k_asm); (case k2z9 => k_asm); (case k3z9 => k_asm); (case k4z9 => k_asm); (case k5z9 => k_asm); (case k6z9 => k_is); (case k7z9 => k_is); (case k8z9 => ktr_room); (case k9z9 => first | exact BindsTo.of_eq rfl | exact binds_K (by k_in) rfl (by k_is) rfl rfl rfl); (case c5z9 => decide); (case kBz9 => exact locs rfl); (case c2z9 => exact rfl); (case c3z9 => exact rfl); (case c4z9 => exact rfl); k_whole; intro g' L' h' tk' K' G' FG' F' N' B' X' T' l1 l2; (try k_lt l1); (try dsimp only); (try k_lift B'); (try k_fold))
  k_with "M enter0" => (refine' enterM ?k1z9 ?k2z9 ?k3z9 ?k4z9 ?k5z9 ?kAz9 ?kFz9 ?kKz9 ?k6z9 ?k7z9 ?k8z9 ?k9z9 ?kBz9 ?_ ?c2z9 ?c3z9 ?c4z9 ?c5z9; (case kAz9 => exact rfl); (case kFz9 => exact rfl); (case kKz9 => assumption); (case k1z9 => k_asm); (case k2z9 => k_asm); (case k3z9 => k_asm); (case k4z9 => k_asm); (case k5z9 => k_asm); (case k6z9 => k_is); (case k7z9 => k_is); (case k8z9 => ktr_room); (case k9z9 => first | exact BindsTo.of_eq rfl | exact binds_K (by k_in) rfl (by k_is) rfl rfl rfl); (case c5z9 => decide); (case kBz9 => exact locs rfl); (case c2z9 => exact rfl); (case c3z9 => exact rfl); (case c4z9 => exact rfl); k_whole)
  k_with "M ar" => (first | with_reducible assumption | decide | omega | (simp [List.getD]; done) | (simp [List.getD]; omega))
  k_with "M keep" => (rename Kept _ _ [] => K7; (have F' := Kept.fr (by k_asm) K7); (have N' := Kept.news (by k_asm) K7); clear K7; (try dsimp only); (try k_sweep))
  k_with "M enterC" => (refine' enterMC ?k1z9 ?k2z9 ?k3z9 ?k4z9 ?k5z9 ?kAz9 ?kFz9 ?kKz9 ?k6z9 ?k7z9 ?k8z9 ?k9z9 ?kBz9 ?kDz9 ?_ ?c2z9 ?c3z9 ?c4z9; (case kAz9 => exact rfl); (case kFz9 => exact rfl); (case kKz9 => assumption); (case k1z9 => k_asm); (case k2z9 => k_asm); (case k3z9 => k_asm); (case k4z9 => k_asm); (case k5z9 => k_asm); (case k6z9 => k_is); (case k7z9 => k_is); (case k8z9 => ktr_room); (case k9z9 => first | exact BindsTo.of_eq rfl | exact binds_K (by k_in) rfl (by k_is) rfl rfl rfl); (case kBz9 => exact rfl); (case kDz9 => decide +kernel); (case c2z9 => exact rfl); (case c3z9 => exact rfl); (case c4z9 => exact rfl); k_whole; intro g' L' h' tk' cells' K' G' FG' F' N' Y' B' X' T' l1 l2; (try k_lt l1); k_cells Y'; (try simp only [List.cons_append, List.nil_append] at N'); (try dsimp only); (try k_lift B'); (try k_fold))
  k_with "M enterC0" => (refine' enterMC ?k1z9 ?k2z9 ?k3z9 ?k4z9 ?k5z9 ?kAz9 ?kFz9 ?kKz9 ?k6z9 ?k7z9 ?k8z9 ?k9z9 ?kBz9 ?kDz9 ?_ ?c2z9 ?c3z9 ?c4z9; (case kAz9 => exact rfl); (case kFz9 => exact rfl); (case kKz9 => assumption); (case k1z9 => k_asm); (case k2z9 => k_asm); (case k3z9 => k_asm); (case k4z9 => k_asm); (case k5z9 => k_asm); (case k6z9 => k_is); (case k7z9 => k_is); (case k8z9 => ktr_room); (case k9z9 => first | exact BindsTo.of_eq rfl | exact binds_K (by k_in) rfl (by k_is) rfl rfl rfl); (case kBz9 => exact rfl); (case kDz9 => decide +kernel); (case c2z9 => exact rfl); (case c3z9 => exact rfl); (case c4z9 => exact rfl); k_whole)
  exact trivial
/-- a TableFault on its way: n is its «at»; s₀ is the heap before the call that raised, xs what that call may have touched, l the frames below -/
def RaisedM (P : Params) (s₀ : Heap) (xs : List Addr) (l : List Env) (e : Addr) (n : Int) (h : Heap) : Prop :=
  ∃ (Bh : Heap) (dx t : Addr) (k1 k2 : Tok) (S : Str) (ts ti : Tok),
    (∀ b o, s₀.get? b = some o → b ∉ xs → b ∉ l.filterMap (·.frame) → Bh.get? b = some o) ∧
    Heap.FlyingW Bh l e (.ref 61) (.ref t) h ∧
    Bh.get? dx = some (dictOf [⟨PyData.keyHash P "what", .str "what" k1, .str S ts⟩, ⟨PyData.keyHash P "at", .str "at" k2, .int n ti⟩] 2) ∧
    (∃ o, h.get? e = some o ∧ o.dict = some dx) ∧
    (∀ b o, s₀.get? b = some o → b ∉ xs → (∀ vs, o.data ≠ .fields vs) → ∃ sl, h.get? b = some { o with slots := sl })
section
variable {M : Model} {A : Around} {E : Value → Shared → Prop} {s' : Shared} {base g h s₀ s₁ : Heap} {outer : List Env} {L a e : Addr} {m : Str → Option Value} {name : Str} {scope : Scope} {cd : Value} {Q : Unit → Shared → Prop} {P : Params}
theorem leaveM_first {dx t : Addr} {k1 k2 ts ti : Tok} {S : Str} {n : Int} {xs : List Addr} (K : Below A base outer g) (F : Fr g L h m) (hs₀ : Kept s₀ h xs) (hL : s₀.objs.size ≤ L)
    (kp : ∀ b o, h.get? b = some o → s'.heap.get? b = some o) (ne : h.get? e = none) (he : s'.heap.get? e = some (excObj t (some dx))) (hdx : s'.heap.get? dx = some (dictOf [⟨PyData.keyHash P "what", .str "what" k1, .str S ts⟩, ⟨PyData.keyHash P "at", .str "at" k2, .int n ti⟩] 2)) (nd : h.get? dx = none)
    (hQ : ∀ h', RaisedM P s₀ xs outer e n h' → Q () { s' with heap := h' }) (hk : scope.kind = .function) :
    wpAny M (A.deeper (envOf name scope L a cd)) (leaving (envOf name scope L a cd) (.ref e)) Q E s' := by
  have K' := K.push (name := name) (a := a) (cd := cd) F hk
  have hfr : ∀ b, b ∈ (envOf name scope L a cd :: outer).filterMap (·.frame) → ∃ o, h.get? b = some o := fun b hb => by
    obtain ⟨_, o, ho, _⟩ := K'.frames.mem hb
    exact ⟨o, ho⟩
  have ned : e ≠ dx := fun q => by rw [q, hdx] at he; cases he
  have nfr : ∀ b, h.get? b = none → b ∉ (envOf name scope L a cd :: outer).filterMap (·.frame) := fun b q hb => by
    obtain ⟨o, ho⟩ := hfr b hb
    rw [q] at ho; cases ho
  -- the ground: all that stands, but the frames and the exception
  let fs := (envOf name scope L a cd :: outer).filterMap (·.frame)
  let Bh := hideAll s'.heap (e :: fs)
  have Bget : ∀ b o, s'.heap.get? b = some o → b ≠ e → b ∉ fs → Bh.get? b = some o := fun b o q n1 n2 => hideAll_get _ q (by simp only [List.mem_cons, not_or]; exact ⟨n1, n2⟩)
  have Bst : Bh.StaysIn s'.heap := fun b o q => of_hideAll _ q
  have Be : Bh.get? e = none := hideAll_none _ (.head _)
  have Bfr : s'.heap.FunFrames Bh (envOf name scope L a cd :: outer) := by
    have hin : ∀ env ∈ (envOf name scope L a cd :: outer), ∀ b, env.frame = some b → b ∈ e :: fs := fun env he b hb => List.mem_cons_of_mem _ (List.mem_filterMap.mpr ⟨env, he, hb⟩)
    exact funFrames_hide (K'.frames.of_keeps fun b o q _ => ⟨o, kp b o q, rfl⟩) hin
  have run : wpAny M (A.deeper (envOf name scope L a cd)) (leaving (envOf name scope L a cd) (.ref e)) (fun _ s'' => ∃ h', s'' = { s' with heap := h' } ∧ Heap.LeftW Bh (envOf name scope L a cd :: outer) e (.ref 61) (.ref t) s'.heap h') (fun _ _ => False) s' :=
    wpAny_leaving_firstW (a0 := .ref t) K'.stack Bfr rfl he Bst Be rfl rfl rfl fun h' hl => ⟨h', rfl, hl⟩
  refine wpAny_mono (KD.any KD.leaving run) (fun _ s'' z => ?_) fun _ _ z => z.1.elim
  obtain ⟨⟨h', rfl, q1, ⟨_, _, q2⟩, q3, q4⟩, dk⟩ := z
  refine hQ h' ⟨Bh, dx, t, k1, k2, S, ts, ti, fun b o q n1 n2 => ?_, ⟨q1, Be, q2, q3⟩, ?_, ?_, fun b o q n1 n2 => ?_⟩
  · have hb := hs₀ b o q n1
    refine Bget b o (kp b o hb) (ne_of_get hb ne) ?_
    intro hm
    rcases List.mem_cons.mp (show b ∈ L :: outer.filterMap (·.frame) from hm) with rfl | hm
    · exact absurd (Heap.lt_size q) (Nat.not_lt.mpr hL)
    · exact n2 hm
  · exact Bget dx _ hdx (Ne.symm ned) (nfr dx nd)
  · obtain ⟨o', e1, e2⟩ := dk e _ he
    exact ⟨o', e1, e2⟩
  · exact q4 b o (kp b o (hs₀ b o q n1)) n2
theorem leaveM_next {n : Int} {xs ys : List Addr} (K : Below A base outer g) (F : Fr g L h m) (R : RaisedM P h ys (envOf name scope L a cd :: outer) e n s'.heap) (hs₀ : Kept s₀ h xs) (hL : s₀.objs.size ≤ L) (hys : ∀ b ∈ ys, b ∈ xs ∨ s₀.get? b = none)
    (hQ : ∀ h', RaisedM P s₀ xs outer e n h' → Q () { s' with heap := h' }) (hk : scope.kind = .function) :
    wpAny M (A.deeper (envOf name scope L a cd)) (leaving (envOf name scope L a cd) (.ref e)) Q E s' := by
  have K' := K.push (name := name) (a := a) (cd := cd) F hk
  obtain ⟨Bh, dx, t, k1, k2, S, ts, ti, r1, r2, r3, ⟨oe, he, hed⟩, r5⟩ := R
  have run : wpAny M (A.deeper (envOf name scope L a cd)) (leaving (envOf name scope L a cd) (.ref e)) (fun _ s'' => ∃ h', s'' = { s' with heap := h' } ∧ Heap.FlyingW Bh outer e (.ref 61) (.ref t) h' ∧ s'.heap.UpToSlots h') (fun _ _ => False) s' :=
    wpAny_leaves_onW K'.stack rfl r2 fun h' x1 x2 => ⟨h', rfl, x1, x2⟩
  refine wpAny_mono (KD.any KD.leaving run) (fun _ s'' z => ?_) fun _ _ z => z.1.elim
  obtain ⟨⟨h', rfl, q1, q2⟩, dk⟩ := z
  have ny : ∀ b o, s₀.get? b = some o → b ∉ xs → b ∉ ys := fun b o q n1 hb => by
    rcases hys b hb with z | z
    · exact n1 z
    · rw [q] at z; cases z
  refine hQ h' ⟨Bh, dx, t, k1, k2, S, ts, ti, fun b o q n1 n2 => ?_, q1, r3, ?_, fun b o q n1 n2 => ?_⟩
  · refine r1 b o (hs₀ b o q n1) (ny b o q n1) ?_
    intro hm
    rcases List.mem_cons.mp (show b ∈ L :: outer.filterMap (·.frame) from hm) with rfl | hm
    · exact absurd (Heap.lt_size q) (Nat.not_lt.mpr hL)
    · exact n2 hm
  · obtain ⟨o', e1, e2⟩ := dk e _ he
    exact ⟨o', e1, e2.trans hed⟩
  · obtain ⟨sl, z⟩ := r5 b o (hs₀ b o q n1) (ny b o q n1) n2
    obtain ⟨sl', z'⟩ := q2 b { o with slots := sl } z n2
    exact ⟨sl', z'⟩
end
end
section
theorem rT42_0 : True := by
  k_with_none
  k_with "ne" => (refine neN ?_; (try dsimp only); first | with_reducible assumption | exact Ne.symm (by with_reducible assumption) | exact off_ne (by with_reducible assumption) (by k_mem) | exact Ne.symm (off_ne (by with_reducible assumption) (by k_mem)) | exact off_i (by with_reducible assumption) (by k_mem) | exact off_c (by with_reducible assumption) (by k_mem) | exact off_d (by with_reducible assumption) (by k_mem) | exact Ne.symm (off_i (by with_reducible assumption) (by k_mem)) | exact Ne.symm (off_c (by with_reducible assumption) (by k_mem)) | exact Ne.symm (off_d (by with_reducible assumption) (by k_mem)) | exact Ne3.a (by with_reducible assumption) | exact Ne3.b (by with_reducible assumption) | exact Ne3.c (by with_reducible assumption) | exact Ne.symm (Ne3.a (by with_reducible assumption)) | exact Ne.symm (Ne3.b (by with_reducible assumption)) | exact Ne.symm (Ne3.c (by with_reducible assumption)) | exact NeA.ne (by with_reducible assumption) | exact Ne.symm (NeA.ne (by with_reducible assumption)) | exact Nat.ne_of_lt (by with_reducible assumption) | exact Nat.ne_of_gt (by with_reducible assumption) | exact Nat.ne_of_lt (And.left (by with_reducible assumption)) | exact Nat.ne_of_gt (And.left (by with_reducible assumption)) | exact Nat.ne_of_lt (And.left (And.right (by with_reducible assumption))) | exact Nat.ne_of_gt (And.left (And.right (by with_reducible assumption))) | exact Nat.ne_of_lt (And.right (by with_reducible assumption)) | exact Nat.ne_of_gt (And.right (by with_reducible assumption)) | exact Nat.ne_of_lt (And.right (And.right (by with_reducible assumption))) | exact Nat.ne_of_gt (And.right (And.right (by with_reducible assumption))) | exact Nat.ne_of_lt (And.left (And.right (And.right (by with_reducible assumption)))) | exact Nat.ne_of_gt (And.left (And.right (And.right (by with_reducible assumption)))))
  k_with "M enter" => (refine' enterM ?k1z9 ?k2z9 ?k3z9 ?k4z9 ?k5z9 ?kAz9 ?kFz9 ?kKz9 ?k6z9 ?k7z9 ?k8z9 ?k9z9 ?kBz9 ?_ ?c2z9 ?c3z9 ?c4z9 ?c5z9; (case kAz9 => exact rfl); (case kFz9 => exact rfl); (case kKz9 => assumption); (case k1z9 => k_asm); (case k2z9 => k_asm); (case k3z9 => k_asm); (case k4z9 => k_asm); (case k5z9 => k_asm); (case k6z9 => k_is); (case k7z9 => k_is); (case k8z9 => ktr_room); (case k9z9 => first | exact BindsTo.of_eq rfl | exact binds_K (by k_in) rfl (by k_is) rfl rfl rfl); (case c5z9 => decide); (case kBz9 => exact locs rfl); (case c2z9 => exact rfl); (case c3z9 => exact rfl); (case c4z9 => exact rfl); k_whole; intro g' L' h' tk' K' G' FG' F' N' B' X' T' l1 l2; (try k_lt l1); (try dsimp only); (try k_lift B'); (try k_fold))
  k_with "M enter0" => (refine' enterM ?k1z9 ?k2z9 ?k3z9 ?k4z9 ?k5z9 ?kAz9 ?kFz9 ?kKz9 ?k6z9 ?k7z9 ?k8z9 ?k9z9 ?kBz9 ?_ ?c2z9 ?c3z9 ?c4z9 ?c5z9; (case kAz9 => exact rfl); (case kFz9 => exact rfl); (case kKz9 => assumption); (case k1z9 => k_asm); (case k2z9 => k_asm); (case k3z9 => k_asm); (case k4z9 => k_asm); (case k5z9 => k_asm); (case k6z9 => k_is); (case k7z9 => k_is); (case k8z9 => ktr_room); (case k9z9 => first | exact BindsTo.of_eq rfl | exact binds_K (by k_in) rfl (by k_is) rfl rfl rfl); (case c5z9 => decide); (case kBz9 => exact locs rfl); (case c2z9 => exact rfl); (case c3z9 => exact rfl); (case c4z9 => exact rfl); k_whole)
  k_with "M ar" => (first | with_reducible assumption | decide | omega | (simp [List.getD]; done) | (simp [List.getD]; omega))
  k_with "M keep" => (rename Kept _ _ [] => K7; (have F' := Kept.fr (by k_asm) K7); (have N' := Kept.news (by k_asm) K7); clear K7; (try dsimp only); (try k_sweep))
  k_with "M enterC" => (refine' enterMC ?k1z9 ?k2z9 ?k3z9 ?k4z9 ?k5z9 ?kAz9 ?kFz9 ?kKz9 ?k6z9 ?k7z9 ?k8z9 ?k9z9 ?kBz9 ?kDz9 ?_ ?c2z9 ?c3z9 ?c4z9; (case kAz9 => exact rfl); (case kFz9 => exact rfl); (case kKz9 => assumption); (case k1z9 => k_asm); (case k2z9 => k_asm); (case k3z9 => k_asm); (case k4z9 => k_asm); (case k5z9 => k_asm); (case k6z9 => k_is); (case k7z9 => k_is); (case k8z9 => ktr_room); (case k9z9 => first | exact BindsTo.of_eq rfl | exact binds_K (by k_in) rfl (by k_is) rfl rfl rfl); (case kBz9 => exact rfl); (case kDz9 => decide +kernel); (case c2z9 => exact rfl); (case c3z9 => exact rfl); (case c4z9 => exact rfl); k_whole; intro g' L' h' tk' cells' K' G' FG' F' N' Y' B' X' T' l1 l2; (try k_lt l1); k_cells Y'; (try simp only [List.cons_append, List.nil_append] at N'); (try dsimp only); (try k_lift B'); (try k_fold))
  k_with "M enterC0" => (refine' enterMC ?k1z9 ?k2z9 ?k3z9 ?k4z9 ?k5z9 ?kAz9 ?kFz9 ?kKz9 ?k6z9 ?k7z9 ?k8z9 ?k9z9 ?kBz9 ?kDz9 ?_ ?c2z9 ?c3z9 ?c4z9; (case kAz9 => exact rfl); (case kFz9 => exact rfl); (case kKz9 => assumption); (case k1z9 => k_asm); (case k2z9 => k_asm); (case k3z9 => k_asm); (case k4z9 => k_asm); (case k5z9 => k_asm); (case k6z9 => k_is); (case k7z9 => k_is); (case k8z9 => ktr_room); (case k9z9 => first | exact BindsTo.of_eq rfl | exact binds_K (by k_in) rfl (by k_is) rfl rfl rfl); (case kBz9 => exact rfl); (case kDz9 => decide +kernel); (case c2z9 => exact rfl); (case c3z9 => exact rfl); (case c4z9 => exact rfl); k_whole)
  k_with "exec Raise some none" => (k_here; k_dflt (refine raise_own (by exact rfl) ?_); (try k_fold))
  k_with "M raise" => (k_dflt (refine' tf_use ?Bz9 ?Fz9 ?Xz9 ?Tz9 ?hAz9 ?hfz9 ?hkez9 ?hroomz9 ?huz9 ?hhz9 ?hSz9 ?_; (case hAz9 => exact rfl); (case hfz9 => exact rfl); (case hkez9 => first | exact rfl | assumption); (case Bz9 => k_asm); (case Fz9 => k_asm); (case Xz9 => k_asm); (case Tz9 => k_asm); (case hroomz9 => ktr_room); (case huz9 => ktr_units); (case hhz9 => exact rfl); (case hSz9 => first | decide | decide +kernel | walk_at "M ar")); intro e9 dx9 t9 k1 k2 h9 tk9 kp9 ne9 he9 hdx9 nd9 ht9 nt9; (try k_unfold); show RaisableM _ _ _ _; refine ⟨_, _, _, rfl, he9, Frag.In.keeps (Frag.In.keeps (by k_asm) (Fr.keep (by k_asm))) kp9, ?_⟩; (repeat k_unfold); (try dsimp only); (k_dflt (refine' leaveM_first ?Kz9 ?Fz9 ?hsz9 ?hLz9 kp9 ne9 he9 hdx9 nd9 ?_ ?hkz9; (case Kz9 => k_asm); (case Fz9 => k_asm); (case hsz9 => exact Kept.out (by assumption) (by assumption)); (case hLz9 => assumption); (case hkz9 => exact rfl))); intro h8 R8)
  k_with "M next" => ((repeat k_unfold); (try dsimp only); (rename RaisedM _ _ _ _ _ _ _ => R7); (k_dflt (refine' leaveM_next ?Kz9 ?Fz9 R7 ?hsz9 ?hLz9 ?hysz9 ?_ ?hkz9; (case Kz9 => k_asm); (case Fz9 => k_asm); (case hsz9 => exact Kept.out (by assumption) (by assumption)); (case hLz9 => assumption); (case hysz9 => first | exact (fun _ hb => absurd hb List.not_mem_nil) | (walk_at "M ys")); (case hkz9 => exact rfl))); clear R7; intro h8 R8)
  exact trivial
section
variable {w : World} {mean : ExcName → Option Value} {mg mb : Str → Option Value} {dp un : Nat} {gd : Option (List Code)} {cn : Str} {cs : Scope} {a : Addr} {ccd : Value} {cl : List (Str × Addr)} {outer : List Env} {A₀ : Around} {base h₀ : Heap} {L : Addr} {m : Str → Option Value} {s : Shared} {Q E : Value → Shared → Prop}
   (B : Below A₀ base outer h₀) (F : Fr h₀ L s.heap m) (X : (heapK w.params).In h₀) (T : Top prgV (looseW prgV [Str.ofString "ShapeError"]) mean mg mb h₀) (hk : cs.kind = .function)
include B F X T hk
theorem rT42_1 : True := by
  k_with "pyIter ref" => (refine stopped ?_)
  k_with "exec For Name Subscript cons nil" => (k_here; (rename Fr _ _ _ _ => lF'); (with_unfolding_all refine' For_invVF lF' ?k1z9 ?k2z9 ?_; (case k1z9 => exact rfl); (case k2z9 => exact rfl); k_whole))
  exact trivial
set_option maxRecDepth 100000 in
set_option maxHeartbeats 8000000 in
theorem pen_spec {sc : Addr} {vs : List Value} {ns : List Int}
   (hd : dp + 30 < recursionLimit) (hu : un + 300 < cLine)
   (hl : h₀.IsList sc vs.toArray) (hi : IntsAre vs ns) (hn : ns.length ≤ 63)
   (hret : ∀ D n t1 t2 k h' tk', 0 ≤ n → Kept s.heap h' [] → h'.get? D = some (W.listOf #[.int n t1, .int 0 t2] k) → s.heap.get? D = none → Q (.ref D) { s with heap := h', toks := tk' }) :
   wpAny (model Challenge.rw_nu0154_01.row.prog w) (ktrTop dp un gd cn cs L a ccd cl outer) (call (.ref 209) [.ref sc]) Q E s := by
  have N : News h₀ L s.heap [] := News.nil
  revert X; k_fill; intro X
  refine wpAny_call ?_
  k_dflt (walk_at "M enter0")
  intro g1 L1 hh1 tk1 K1 G1 FG1 F1 N1 B1 X1 T1 l1 l2
  clear l1
  have hlg : g1.IsList sc vs.toArray := by
    obtain ⟨o, e, r⟩ := hl
    exact ⟨o, FG1.keep _ _ e, r⟩
  dsimp only
  k_lift B1
  try k_fold
  k_steps
  refine Stop.go ?_
  k_state (fun (pre : List Int) (number : Int) => 0 ≤ number) "number"
  · k_steps
  · k_steps
    rename Fr g1 L1 _ _ => F8
    rename News g1 L1 _ _ => N8
    refine hret _ _ _ _ _ _ _ kInv (Kept.out K1 F8) (News.get N8 (.head _)) (Kept.fresh K1 (N8 _ (.head _)).2.2 List.not_mem_nil)
theorem pen_use {sc : Addr} {vs : List Value} {ns : List Int} {news : List (Addr × Obj)}
   (N : News h₀ L s.heap news)
   (hd : dp + 30 < recursionLimit) (hu : un + 300 < cLine)
   (hl : h₀.IsList sc vs.toArray) (hi : IntsAre vs ns) (hn : ns.length ≤ 63)
   (hret : ∀ D n t1 t2 k h' tk', 0 ≤ n → Fr h₀ L h' m → News h₀ L h' ((D, W.listOf #[.int n t1, .int 0 t2] k) :: news) → LCg.Off1 D news → Q (.ref D) { s with heap := h', toks := tk' }) :
   wpAny (model Challenge.rw_nu0154_01.row.prog w) (ktrTop dp un gd cn cs L a ccd cl outer) (call (.ref 209) [.ref sc]) Q E s := by
  refine pen_spec B F X T hk hd hu hl hi hn fun D n t1 t2 k h' tk' hn kp e nD => ?_
  exact hret D n t1 t2 k h' tk' hn (Kept.fr F kp) (News.cons_new F (Kept.news N kp) e nD) (News.all_ne N nD)
end
end
section
theorem rT43_0 : True := by
  k_with_none
  k_with "ne" => (refine neN ?_; (try dsimp only); first | with_reducible assumption | exact Ne.symm (by with_reducible assumption) | exact off_ne (by with_reducible assumption) (by k_mem) | exact Ne.symm (off_ne (by with_reducible assumption) (by k_mem)) | exact off_i (by with_reducible assumption) (by k_mem) | exact off_c (by with_reducible assumption) (by k_mem) | exact off_d (by with_reducible assumption) (by k_mem) | exact Ne.symm (off_i (by with_reducible assumption) (by k_mem)) | exact Ne.symm (off_c (by with_reducible assumption) (by k_mem)) | exact Ne.symm (off_d (by with_reducible assumption) (by k_mem)) | exact Ne3.a (by with_reducible assumption) | exact Ne3.b (by with_reducible assumption) | exact Ne3.c (by with_reducible assumption) | exact Ne.symm (Ne3.a (by with_reducible assumption)) | exact Ne.symm (Ne3.b (by with_reducible assumption)) | exact Ne.symm (Ne3.c (by with_reducible assumption)) | exact NeA.ne (by with_reducible assumption) | exact Ne.symm (NeA.ne (by with_reducible assumption)) | exact Nat.ne_of_lt (by with_reducible assumption) | exact Nat.ne_of_gt (by with_reducible assumption) | exact Nat.ne_of_lt (And.left (by with_reducible assumption)) | exact Nat.ne_of_gt (And.left (by with_reducible assumption)) | exact Nat.ne_of_lt (And.left (And.right (by with_reducible assumption))) | exact Nat.ne_of_gt (And.left (And.right (by with_reducible assumption))) | exact Nat.ne_of_lt (And.right (by with_reducible assumption)) | exact Nat.ne_of_gt (And.right (by with_reducible assumption)) | exact Nat.ne_of_lt (And.right (And.right (by with_reducible assumption))) | exact Nat.ne_of_gt (And.right (And.right (by with_reducible assumption))) | exact Nat.ne_of_lt (And.left (And.right (And.right (by with_reducible assumption)))) | exact Nat.ne_of_gt (And.left (And.right (And.right (by with_reducible assumption)))))
  k_with "M enter" => (refine' enterM ?k1z9 ?k2z9 ?k3z9 ?k4z9 ?k5z9 ?kAz9 ?kFz9 ?kKz9 ?k6z9 ?k7z9 ?k8z9 ?k9z9 ?kBz9 ?_ ?c2z9 ?c3z9 ?c4z9 ?c5z9; (case kAz9 => exact rfl); (case kFz9 => exact rfl); (case kKz9 => assumption); (case k1z9 => k_asm); (case k2z9 => k_asm); (case k3z9 => k_asm); (case k4z9 => k_asm); (case k5z9 => k_asm); (case k6z9 => k_is); (case k7z9 => k_is); (case k8z9 => ktr_room); (case k9z9 => first | exact BindsTo.of_eq rfl | exact binds_K (by k_in) rfl (by k_is) rfl rfl rfl); (case c5z9 => decide); (case kBz9 => exact locs rfl); (case c2z9 => exact rfl); (case c3z9 => exact rfl); (case c4z9 => exact rfl); k_whole; intro g' L' h' tk' K' G' FG' F' N' B' X' T' l1 l2; (try k_lt l1); (try dsimp only); (try k_lift B'); (try k_fold))
  k_with "M enter0" => (refine' enterM ?k1z9 ?k2z9 ?k3z9 ?k4z9 ?k5z9 ?kAz9 ?kFz9 ?kKz9 ?k6z9 ?k7z9 ?k8z9 ?k9z9 ?kBz9 ?_ ?c2z9 ?c3z9 ?c4z9 ?c5z9; (case kAz9 => exact rfl); (case kFz9 => exact rfl); (case kKz9 => assumption); (case k1z9 => k_asm); (case k2z9 => k_asm); (case k3z9 => k_asm); (case k4z9 => k_asm); (case k5z9 => k_asm); (case k6z9 => k_is); (case k7z9 => k_is); (case k8z9 => ktr_room); (case k9z9 => first | exact BindsTo.of_eq rfl | exact binds_K (by k_in) rfl (by k_is) rfl rfl rfl); (case c5z9 => decide); (case kBz9 => exact locs rfl); (case c2z9 => exact rfl); (case c3z9 => exact rfl); (case c4z9 => exact rfl); k_whole)
  k_with "M ar" => (first | with_reducible assumption | decide | omega | (simp [List.getD]; done) | (simp [List.getD]; omega))
  k_with "M keep" => (rename Kept _ _ [] => K7; (have F' := Kept.fr (by k_asm) K7); (have N' := Kept.news (by k_asm) K7); clear K7; (try dsimp only); (try k_sweep))
  k_with "M enterC" => (refine' enterMC ?k1z9 ?k2z9 ?k3z9 ?k4z9 ?k5z9 ?kAz9 ?kFz9 ?kKz9 ?k6z9 ?k7z9 ?k8z9 ?k9z9 ?kBz9 ?kDz9 ?_ ?c2z9 ?c3z9 ?c4z9; (case kAz9 => exact rfl); (case kFz9 => exact rfl); (case kKz9 => assumption); (case k1z9 => k_asm); (case k2z9 => k_asm); (case k3z9 => k_asm); (case k4z9 => k_asm); (case k5z9 => k_asm); (case k6z9 => k_is); (case k7z9 => k_is); (case k8z9 => ktr_room); (case k9z9 => first | exact BindsTo.of_eq rfl | exact binds_K (by k_in) rfl (by k_is) rfl rfl rfl); (case kBz9 => exact rfl); (case kDz9 => decide +kernel); (case c2z9 => exact rfl); (case c3z9 => exact rfl); (case c4z9 => exact rfl); k_whole; intro g' L' h' tk' cells' K' G' FG' F' N' Y' B' X' T' l1 l2; (try k_lt l1); k_cells Y'; (try simp only [List.cons_append, List.nil_append] at N'); (try dsimp only); (try k_lift B'); (try k_fold))
  k_with "M enterC0" => (refine' enterMC ?k1z9 ?k2z9 ?k3z9 ?k4z9 ?k5z9 ?kAz9 ?kFz9 ?kKz9 ?k6z9 ?k7z9 ?k8z9 ?k9z9 ?kBz9 ?kDz9 ?_ ?c2z9 ?c3z9 ?c4z9; (case kAz9 => exact rfl); (case kFz9 => exact rfl); (case kKz9 => assumption); (case k1z9 => k_asm); (case k2z9 => k_asm); (case k3z9 => k_asm); (case k4z9 => k_asm); (case k5z9 => k_asm); (case k6z9 => k_is); (case k7z9 => k_is); (case k8z9 => ktr_room); (case k9z9 => first | exact BindsTo.of_eq rfl | exact binds_K (by k_in) rfl (by k_is) rfl rfl rfl); (case kBz9 => exact rfl); (case kDz9 => decide +kernel); (case c2z9 => exact rfl); (case c3z9 => exact rfl); (case c4z9 => exact rfl); k_whole)
  k_with "call ref" => (k_here; (with_reducible show wpAny _ _ (call (Value.ref 216) [Value.ref _, Value.int _ _]) _ _ _); k_dflt (refine' draw_use ?Bz9 ?Fz9 ?Xz9 ?Tz9 ?hkz9 ?Nz9 ?Uz9 ?hdz9 ?huz9 ?az9 ?bz9 ?cz9 ?dz9 ?_; (case Bz9 => k_asm); (case Fz9 => k_asm); (case Xz9 => k_asm); (case Tz9 => k_asm); (case hkz9 => first | exact rfl | assumption); (case Nz9 => k_asm); (case Uz9 => k_updF); (case hdz9 => ktr_room); (case huz9 => ktr_units); (case az9 => walk_at "M ar"); (case bz9 => walk_at "M ar"); (case cz9 => walk_at "M ar"); (case dz9 => walk_at "M ar"); k_whole); intro d' n' c' t' t1' t2' k' h' tk' d0 d1 n0 c0 F' N'; (try dsimp only at N'); (try dsimp only); (try k_sweep); (try k_fold))
  k_with "call ref" => (k_here; (with_reducible show wpAny _ _ (call (Value.ref 223) [Value.ref _, Value.ref _]) _ _ _); k_dflt (first | (refine' pick_use (lo := 0) (hi := 65535) ?Bz9 ?Fz9 ?Xz9 ?Tz9 ?hkz9 ?Nz9 ?Uz9 ?hlz9 ?hnez9 ?hdz9 ?huz9 ?hiz9 ?az9 ?bz9 ?cz9 ?dz9 ?bdz9 ?_; (case Bz9 => k_asm); (case Fz9 => k_asm); (case Xz9 => k_asm); (case Tz9 => k_asm); (case hkz9 => first | exact rfl | assumption); (case Nz9 => k_asm); (case hlz9 => k_mem); (case Uz9 => k_updF); (case hnez9 => k_ne); (case hdz9 => ktr_room); (case huz9 => ktr_units); (case hiz9 => l_ints); (case bdz9 => (simp only [List.forall_mem_cons, List.not_mem_nil, false_implies, implies_true, and_true]; omega)); (case az9 => (simp only [List.length_cons, List.length_nil]; omega)); (case bz9 => (simp only [List.length_cons, List.length_nil]; omega)); (case cz9 => walk_at "M ar"); (case dz9 => walk_at "M ar"); k_whole) | (refine' pick_use (lo := -200000) (hi := 200000) ?Bz9 ?Fz9 ?Xz9 ?Tz9 ?hkz9 ?Nz9 ?Uz9 ?hlz9 ?hnez9 ?hdz9 ?huz9 ?hiz9 ?az9 ?bz9 ?cz9 ?dz9 ?bdz9 ?_; (case Bz9 => k_asm); (case Fz9 => k_asm); (case Xz9 => k_asm); (case Tz9 => k_asm); (case hkz9 => first | exact rfl | assumption); (case Nz9 => k_asm); (case hlz9 => k_mem); (case Uz9 => k_updF); (case hnez9 => k_ne); (case hdz9 => ktr_room); (case huz9 => ktr_units); (case hiz9 => l_ints); (case bdz9 => (simp only [List.forall_mem_cons, List.not_mem_nil, false_implies, implies_true, and_true]; omega)); (case az9 => (simp only [List.length_cons, List.length_nil]; omega)); (case bz9 => (simp only [List.length_cons, List.length_nil]; omega)); (case cz9 => walk_at "M ar"); (case dz9 => walk_at "M ar"); k_whole)); intro x' n' c' t' t1' t2' k' h' tk' d0 d1 n0 c0 F' N'; (try dsimp only at N'); (try dsimp only); (try k_sweep); (try k_fold))
  exact trivial
theorem Kept.drop2 {h h' : Heap} {x y : Addr} {o : Obj} (k : Kept h h' [x, y]) (e : h.get? y = some o) (e' : h'.get? y = some o) : Kept h h' [x] := fun b ob q n => by
  by_cases z : b = y
  · subst z; rw [e] at q; cases q; exact e'
  · exact k b ob q (by simp only [List.mem_cons, List.not_mem_nil, or_false, not_or] at n ⊢; exact ⟨n, z⟩)
theorem bent_len {nn : List Int} {a b : Int} {x : Int} (h : b = a + 1) (h0 : 0 ≤ a) : ((nn.take a.toNat ++ [x]) ++ nn.drop b.toNat).length ≤ nn.length + 1 := by
  simp only [List.length_append, List.length_take, List.length_drop, List.length_singleton]
  omega
theorem bent_len0 {nn : List Int} {b : Int} {x : Int} (h0 : 0 ≤ b) : ([x] ++ nn.drop b.toNat).length ≤ nn.length + 1 := by
  simp only [List.length_append, List.length_drop, List.length_singleton]
  omega
/-- the places that the law may bend: a dict of ints, none below zero -/
def Spots (kvs : List (Int × Value)) : Prop := ∀ p ∈ kvs, ∃ x t, p.2 = .int x t ∧ 0 ≤ x
theorem Spots.nil : Spots [] := fun _ h => nomatch h
theorem Spots.cons {k x : Int} {t : Tok} {kvs : List (Int × Value)} (hx : 0 ≤ x) (h : Spots kvs) : Spots ((k, .int x t) :: kvs) := fun p hp => by
  rcases List.mem_cons.mp hp with rfl | hp
  · exact ⟨x, t, rfl, hx⟩
  · exact h p hp
theorem Spots.at {k : Int} {v : Value} {kvs : List (Int × Value)} (h : Spots kvs) (e : valueAt kvs k = some v) : ∃ x t, v = .int x t ∧ 0 ≤ x := by
  unfold valueAt at e
  cases hf : kvs.find? fun kv => kv.1 = k with
  | none => rw [hf] at e; cases e
  | some p => rw [hf] at e; cases e; exact h p (List.mem_of_find?_eq_some hf)
section
variable {prog : Program} {w : World} {A : Around} {E : Value → Shared → Prop} {Q : Value → Shared → Prop} {s : Shared} {h₀ : Heap} {L d : Addr} {o : Obj} {news : List (Addr × Obj)} {kvs : List (Int × Value)} {k : Int} {t : Tok}
theorem dig_notin (N : News h₀ L s.heap news) (hm : (d, o) ∈ news) (lo : (d == sysModules) = false) (hd : o.IsDictOf (intKind prog w) kvs) (sp : Spots kvs)
    (h1 : ∀ x u, valueAt kvs k = some (.int x u) → 0 ≤ x → Q (.bool false) { s with toks := s.toks + 1 }) (h2 : Q (.bool true) { s with toks := s.toks + 1 }) :
    wpAny (model prog w) A (compareOp .NotIn (.int k t) (.ref d)) Q E s := by
  refine wpAny_notIn_of (intKind_is _ _ _ _) lo (Heap.dictOf_iff.mpr ⟨o, (N _ hm).1, hd⟩).mapOf ?_
  cases e : valueAt kvs k with
  | none => exact h2
  | some v => obtain ⟨x, u, rfl, hx⟩ := sp.at e; exact h1 x u e hx
theorem dig_item {x y : Str} {px py : Pos} {v : Value} (N : News h₀ L s.heap news) (hm : (d, o) ∈ news) (hd : o.IsDictOf (intKind prog w) kvs) (hv : valueAt kvs k = some v) (h : Q v { s with toks := s.toks + 1 }) :
    wpAny (model prog w) A (subscriptTail (.Name x px) (.Name y py) (.ref d) (.int k t)) Q E s := by
  have D := Heap.dictOf_iff.mpr ⟨o, (N _ hm).1, hd⟩
  exact subscriptTail_builtin D.typeIs slot_dict_getitem.lookup (wpAny_getItem_of (intKind_is _ _ _ _) D.mapOf hv h) (by with_unfolding_all rfl) (by intro _; with_unfolding_all rfl)
end
theorem rT43_1 : True := by
  k_with "compareOp NotIn int ref" => (refine stopped ?_)
  k_with "subscriptTail" => (k_here; (with_reducible show wpAny _ _ (subscriptTail _ _ (Value.ref _) (Value.int _ _)) _ _ _); k_dflt (refine' dig_item ?Nz9 ?mz9 ?hdz9 ?hvz9 ?_; (case Nz9 => k_asm); (case mz9 => k_mem); (case hdz9 => assumption); (case hvz9 => assumption); k_whole))
  k_with "subscriptTail Name Slice ref ref" => (k_here; (with_reducible show wpAny _ _ (subscriptTail _ (PySem.Expr.Slice none (some _) none _) (Value.ref _) (Value.ref _)) _ _ _); k_dflt (refine' kmk_slice_ints ?Fz9 ?Nz9 ?lz9 ?pz9 ?qz9 ?iz9 ?mz9 ?cz9 ?_ ?sz9 ?tz9 ?zz9; (case Fz9 => k_asm); (case Nz9 => k_asm); (case lz9 => kmk_list); (case pz9 => exact IsPart.none); (case qz9 => exact IsPart.int _ _); (case iz9 => l_ints); (case mz9 => exact kmk_upto (by l_ints) (by assumption)); (case cz9 => exact rfl); (case sz9 => with_unfolding_all rfl); (case tz9 => kmk_pure); (case zz9 => kmk_size)); intro D' ws' h' F' N' l1 hI' hC' hL'; (try k_lt l1); (try k_sweep))
  k_with "subscriptTail Name Slice ref ref" => (k_here; (with_reducible show wpAny _ _ (subscriptTail _ (PySem.Expr.Slice (some _) none none _) (Value.ref _) (Value.ref _)) _ _ _); k_dflt (refine' kmk_slice_ints ?Fz9 ?Nz9 ?lz9 ?pz9 ?qz9 ?iz9 ?mz9 ?cz9 ?_ ?sz9 ?tz9 ?zz9; (case Fz9 => k_asm); (case Nz9 => k_asm); (case lz9 => kmk_list); (case pz9 => exact IsPart.int _ _); (case qz9 => exact IsPart.none); (case iz9 => l_ints); (case mz9 => exact kmk_from (by l_ints) (Int.add_nonneg (by assumption) (by decide))); (case cz9 => exact rfl); (case sz9 => with_unfolding_all rfl); (case tz9 => kmk_pure); (case zz9 => kmk_size)); intro D' ws' h' F' N' l1 hI' hC' hL'; (try k_lt l1); (try k_sweep))
  exact trivial
section
variable {w : World} {mean : ExcName → Option Value} {mg mb : Str → Option Value} {dp un : Nat} {gd : Option (List Code)} {cn : Str} {cs : Scope} {a : Addr} {ccd : Value} {cl : List (Str × Addr)} {outer : List Env} {A₀ : Around} {base h₀ : Heap} {L : Addr} {m : Str → Option Value} {s : Shared} {Q E : Value → Shared → Prop}
   (B : Below A₀ base outer h₀) (F : Fr h₀ L s.heap m) (X : (heapK w.params).In h₀) (T : Top prgV (looseW prgV [Str.ofString "ShapeError"]) mean mg mb h₀) (hk : cs.kind = .function)
include B F X T hk
set_option maxRecDepth 100000 in
set_option maxHeartbeats 8000000 in
theorem bent_spec {pen ld : Addr} {n c cnt : Int} {t1 t2 tc : Tok} {k kn : Nat} {vn : List Value} {nn : List Int}
   (N : News h₀ L s.heap [(pen, W.listOf #[.int n t1, .int c t2] k), (ld, W.listOf vn.toArray kn)]) (hne : pen ≠ ld)
   (hd : dp + 10 < recursionLimit) (hu : un + 200 < cLine) (hv : IntsAre vn nn) (hl : nn.length ≤ 100)
   (hn0 : 0 ≤ n) (hc0 : 0 ≤ c) (hk0 : 1 ≤ cnt) (hk1 : cnt ≤ 4)
   (hret : ∀ D vs ns kD n' c' t1' t2' k' h' tk', IntsAre vs ns → ns.length ≤ nn.length + 1 → 0 ≤ n' → 0 ≤ c' → Kept s.heap h' [pen] → h'.get? pen = some (W.listOf #[.int n' t1', .int c' t2'] k') → h'.get? D = some (W.listOf vs.toArray kD) → (@Ne Nat D pen) → (D = ld ∨ s.heap.get? D = none) → Q (.ref D) { s with heap := h', toks := tk' }) :
   wpAny (model Challenge.rw_nu0154_01.row.prog w) (ktrTop dp un gd cn cs L a ccd cl outer) (call (.ref 242) [.ref pen, .ref ld, .int cnt tc]) Q E s := by
  have hne := neN hne
  have hk00 : 0 ≤ cnt := Int.le_trans (by decide) hk0
  revert X; k_fill; intro X
  refine wpAny_call ?_
  k_dflt (walk_at "M enter0")
  intro g1 L1 hh1 tk1 K1 G1 FG1 F1 N1 B1 X1 T1 l1 l2
  k_lt l1
  dsimp only
  k_lift B1
  try k_fold
  k_steps
  refine Stop.go ?_
  rename Obj.IsDictOf _ _ _ => hd9
  rename PyProof.V.FlatPairs _ _ _ => hf9
  clear hf9
  rename (_ == sysModules) = false => lo9
  rename News g1 L1 _ _ => N9
  have ⟨kvs, hd8, sp8⟩ : ∃ kvs, Obj.IsDictOf (intKind _ _) _ kvs ∧ Spots kvs := ⟨_, hd9, Spots.cons (by repeat' first | assumption | decide | apply Int.add_nonneg | apply Int.mul_nonneg) (Spots.cons (by repeat' first | assumption | decide | apply Int.add_nonneg | apply Int.mul_nonneg) (Spots.cons (by repeat' first | assumption | decide | apply Int.add_nonneg | apply Int.mul_nonneg) (Spots.cons (by repeat' first | assumption | decide | apply Int.add_nonneg | apply Int.mul_nonneg) (Spots.cons (by repeat' first | assumption | decide | apply Int.add_nonneg | apply Int.mul_nonneg) (Spots.cons (by repeat' first | assumption | decide | apply Int.add_nonneg | apply Int.mul_nonneg) (Spots.cons (by repeat' first | assumption | decide | apply Int.add_nonneg | apply Int.mul_nonneg) Spots.nil))))))⟩
  refine dig_notin N9 (.head _) lo9 hd8 sp8 (fun x8 t8 hv8 x80 => ?_) ?_
  all_goals clear hd9 lo9
  all_goals k_steps
  all_goals (rename Fr g1 L1 _ _ => F9; rename News g1 L1 _ _ => N9)
  all_goals (have ep := News.get (a := pen) N9 (by repeat (first | exact List.Mem.head _ | refine List.Mem.tail _ ?_)))
  all_goals (have el := News.get (a := ld) (o := W.listOf vn.toArray kn) N9 (by k_mem))
  all_goals (have kd := Kept.drop2 (Kept.out K1 F9) (N (ld, W.listOf vn.toArray kn) (.tail _ (.head _))).1 el)
  rotate_right
  · exact hret _ _ _ _ _ _ _ _ _ _ _ hv (by omega) (by assumption) (by assumption) kd ep el (by k_ne) (.inl rfl)
  all_goals (rename IntsAre _ (_ ++ _) => hI9)
  all_goals refine hret _ _ _ _ _ _ _ _ _ _ _ hI9 ?_ (by assumption) (by assumption) kd ep (News.get N9 (.head _)) (by k_ne) (.inr (Kept.fresh K1 (N9 _ (.head _)).2.2 ?_))
  all_goals (first
    | exact bent_len0 (by omega)
    | (simp only [List.length_append, List.length_take, List.length_drop, List.length_singleton]; omega)
    | (simp only [List.map_cons, List.map_nil, List.mem_cons, List.not_mem_nil, or_false, not_or]; exact ⟨by k_ne, by k_ne⟩))
theorem bent_use {pen ld : Addr} {n c cnt : Int} {t1 t2 tc : Tok} {k kn : Nat} {vn : List Value} {nn : List Int} {news : List (Addr × Obj)} {g : Obj → List (Addr × Obj)}
   (N : News h₀ L s.heap news) (U : UpdF pen (W.listOf #[.int n t1, .int c t2] k) news g) (hld : (ld, W.listOf vn.toArray kn) ∈ news) (hne : pen ≠ ld)
   (hd : dp + 10 < recursionLimit) (hu : un + 200 < cLine) (hv : IntsAre vn nn) (hl : nn.length ≤ 100)
   (hn0 : 0 ≤ n) (hc0 : 0 ≤ c) (hk0 : 1 ≤ cnt) (hk1 : cnt ≤ 4)
   (hret : ∀ D vs ns kD n' c' t1' t2' k' h' tk', IntsAre vs ns → ns.length ≤ nn.length + 1 → 0 ≤ n' → 0 ≤ c' → Fr h₀ L h' m → News h₀ L h' ((D, W.listOf vs.toArray kD) :: g (W.listOf #[.int n' t1', .int c' t2'] k')) → NeA D pen → Q (.ref D) { s with heap := h', toks := tk' }) :
   wpAny (model Challenge.rw_nu0154_01.row.prog w) (ktrTop dp un gd cn cs L a ccd cl outer) (call (.ref 242) [.ref pen, .ref ld, .int cnt tc]) Q E s := by
  have N1 : News h₀ L s.heap [(pen, W.listOf #[.int n t1, .int c t2] k), (ld, W.listOf vn.toArray kn)] := fun p hp => by
    rcases List.mem_cons.mp hp with rfl | hp
    · exact UpdF.only N U _ (.head _)
    · rcases List.mem_singleton.mp hp with rfl; exact N _ hld
  refine bent_spec B F X T hk N1 hne hd hu hv hl hn0 hc0 hk0 hk1 fun D vs ns kD n' c' t1' t2' k' h' tk' a1 a2 a3 a4 kp e eD nDp hD => ?_
  obtain ⟨F', N'⟩ := Kept.updF F N U kp e
  refine hret D vs ns kD n' c' t1' t2' k' h' tk' a1 a2 a3 a4 F' (fun p hp => ?_) ⟨nDp⟩
  rcases List.mem_cons.mp hp with rfl | hp
  · rcases hD with rfl | nD
    · exact ⟨eD, (N _ hld).2⟩
    · exact News.cons_new F N' eD nD _ (.head _)
  · exact N' p hp
end
end
section
theorem rT5_0 : True := by
  k_with_none
  k_with "ne" => (refine neN ?_; (try dsimp only); first | with_reducible assumption | exact Ne.symm (by with_reducible assumption) | exact off_ne (by with_reducible assumption) (by k_mem) | exact Ne.symm (off_ne (by with_reducible assumption) (by k_mem)) | exact off_i (by with_reducible assumption) (by k_mem) | exact off_c (by with_reducible assumption) (by k_mem) | exact off_d (by with_reducible assumption) (by k_mem) | exact Ne.symm (off_i (by with_reducible assumption) (by k_mem)) | exact Ne.symm (off_c (by with_reducible assumption) (by k_mem)) | exact Ne.symm (off_d (by with_reducible assumption) (by k_mem)) | exact Ne3.a (by with_reducible assumption) | exact Ne3.b (by with_reducible assumption) | exact Ne3.c (by with_reducible assumption) | exact Ne.symm (Ne3.a (by with_reducible assumption)) | exact Ne.symm (Ne3.b (by with_reducible assumption)) | exact Ne.symm (Ne3.c (by with_reducible assumption)) | exact NeA.ne (by with_reducible assumption) | exact Ne.symm (NeA.ne (by with_reducible assumption)) | exact Nat.ne_of_lt (by with_reducible assumption) | exact Nat.ne_of_gt (by with_reducible assumption) | exact Nat.ne_of_lt (And.left (by with_reducible assumption)) | exact Nat.ne_of_gt (And.left (by with_reducible assumption)) | exact Nat.ne_of_lt (And.left (And.right (by with_reducible assumption))) | exact Nat.ne_of_gt (And.left (And.right (by with_reducible assumption))) | exact Nat.ne_of_lt (And.right (by with_reducible assumption)) | exact Nat.ne_of_gt (And.right (by with_reducible assumption)) | exact Nat.ne_of_lt (And.right (And.right (by with_reducible assumption))) | exact Nat.ne_of_gt (And.right (And.right (by with_reducible assumption))) | exact Nat.ne_of_lt (And.left (And.right (And.right (by with_reducible assumption)))) | exact Nat.ne_of_gt (And.left (And.right (And.right (by with_reducible assumption)))))
  k_with "M enter" => (refine' enterM ?k1z9 ?k2z9 ?k3z9 ?k4z9 ?k5z9 ?kAz9 ?kFz9 ?kKz9 ?k6z9 ?k7z9 ?k8z9 ?k9z9 ?kBz9 ?_ ?c2z9 ?c3z9 ?c4z9 ?c5z9; (case kAz9 => exact rfl); (case kFz9 => exact rfl); (case kKz9 => assumption); (case k1z9 => k_asm); (case k2z9 => k_asm); (case k3z9 => k_asm); (case k4z9 => k_asm); (case k5z9 => k_asm); (case k6z9 => k_is); (case k7z9 => k_is); (case k8z9 => ktr_room); (case k9z9 => first | exact BindsTo.of_eq rfl | exact binds_K (by k_in) rfl (by k_is) rfl rfl rfl); (case c5z9 => decide); (case kBz9 => exact locs rfl); (case c2z9 => exact rfl); (case c3z9 => exact rfl); (case c4z9 => exact rfl); k_whole; intro g' L' h' tk' K' G' FG' F' N' B' X' T' l1 l2; (try k_lt l1); (try dsimp only); (try k_lift B'); (try k_fold))
  k_with "M enter0" => (refine' enterM ?k1z9 ?k2z9 ?k3z9 ?k4z9 ?k5z9 ?kAz9 ?kFz9 ?kKz9 ?k6z9 ?k7z9 ?k8z9 ?k9z9 ?kBz9 ?_ ?c2z9 ?c3z9 ?c4z9 ?c5z9; (case kAz9 => exact rfl); (case kFz9 => exact rfl); (case kKz9 => assumption); (case k1z9 => k_asm); (case k2z9 => k_asm); (case k3z9 => k_asm); (case k4z9 => k_asm); (case k5z9 => k_asm); (case k6z9 => k_is); (case k7z9 => k_is); (case k8z9 => ktr_room); (case k9z9 => first | exact BindsTo.of_eq rfl | exact binds_K (by k_in) rfl (by k_is) rfl rfl rfl); (case c5z9 => decide); (case kBz9 => exact locs rfl); (case c2z9 => exact rfl); (case c3z9 => exact rfl); (case c4z9 => exact rfl); k_whole)
  k_with "M ar" => (first | with_reducible assumption | decide | omega | (simp [List.getD]; done) | (simp [List.getD]; omega))
  k_with "M keep" => (rename Kept _ _ [] => K7; (have F' := Kept.fr (by k_asm) K7); (have N' := Kept.news (by k_asm) K7); clear K7; (try dsimp only); (try k_sweep))
  k_with "M enterC" => (refine' enterMC ?k1z9 ?k2z9 ?k3z9 ?k4z9 ?k5z9 ?kAz9 ?kFz9 ?kKz9 ?k6z9 ?k7z9 ?k8z9 ?k9z9 ?kBz9 ?kDz9 ?_ ?c2z9 ?c3z9 ?c4z9; (case kAz9 => exact rfl); (case kFz9 => exact rfl); (case kKz9 => assumption); (case k1z9 => k_asm); (case k2z9 => k_asm); (case k3z9 => k_asm); (case k4z9 => k_asm); (case k5z9 => k_asm); (case k6z9 => k_is); (case k7z9 => k_is); (case k8z9 => ktr_room); (case k9z9 => first | exact BindsTo.of_eq rfl | exact binds_K (by k_in) rfl (by k_is) rfl rfl rfl); (case kBz9 => exact rfl); (case kDz9 => decide +kernel); (case c2z9 => exact rfl); (case c3z9 => exact rfl); (case c4z9 => exact rfl); k_whole; intro g' L' h' tk' cells' K' G' FG' F' N' Y' B' X' T' l1 l2; (try k_lt l1); k_cells Y'; (try simp only [List.cons_append, List.nil_append] at N'); (try dsimp only); (try k_lift B'); (try k_fold))
  k_with "M enterC0" => (refine' enterMC ?k1z9 ?k2z9 ?k3z9 ?k4z9 ?k5z9 ?kAz9 ?kFz9 ?kKz9 ?k6z9 ?k7z9 ?k8z9 ?k9z9 ?kBz9 ?kDz9 ?_ ?c2z9 ?c3z9 ?c4z9; (case kAz9 => exact rfl); (case kFz9 => exact rfl); (case kKz9 => assumption); (case k1z9 => k_asm); (case k2z9 => k_asm); (case k3z9 => k_asm); (case k4z9 => k_asm); (case k5z9 => k_asm); (case k6z9 => k_is); (case k7z9 => k_is); (case k8z9 => ktr_room); (case k9z9 => first | exact BindsTo.of_eq rfl | exact binds_K (by k_in) rfl (by k_is) rfl rfl rfl); (case kBz9 => exact rfl); (case kDz9 => decide +kernel); (case c2z9 => exact rfl); (case c3z9 => exact rfl); (case c4z9 => exact rfl); k_whole)
  k_with "call ref" => (k_here; (with_reducible show wpAny _ _ (call (Value.ref 216) [Value.ref _, Value.int _ _]) _ _ _); k_dflt (refine' draw_use ?Bz9 ?Fz9 ?Xz9 ?Tz9 ?hkz9 ?Nz9 ?Uz9 ?hdz9 ?huz9 ?az9 ?bz9 ?cz9 ?dz9 ?_; (case Bz9 => k_asm); (case Fz9 => k_asm); (case Xz9 => k_asm); (case Tz9 => k_asm); (case hkz9 => first | exact rfl | assumption); (case Nz9 => k_asm); (case Uz9 => k_updF); (case hdz9 => ktr_room); (case huz9 => ktr_units); (case az9 => walk_at "M ar"); (case bz9 => walk_at "M ar"); (case cz9 => walk_at "M ar"); (case dz9 => walk_at "M ar"); k_whole); intro d' n' c' t' t1' t2' k' h' tk' d0 d1 n0 c0 F' N'; (try dsimp only at N'); (try dsimp only); (try k_sweep); (try k_fold))
  k_with "call ref" => (k_here; (with_reducible show wpAny _ _ (call (Value.ref 223) [Value.ref _, Value.ref _]) _ _ _); k_dflt (first | (refine' pick_use (lo := 0) (hi := 65535) ?Bz9 ?Fz9 ?Xz9 ?Tz9 ?hkz9 ?Nz9 ?Uz9 ?hlz9 ?hnez9 ?hdz9 ?huz9 ?hiz9 ?az9 ?bz9 ?cz9 ?dz9 ?bdz9 ?_; (case Bz9 => k_asm); (case Fz9 => k_asm); (case Xz9 => k_asm); (case Tz9 => k_asm); (case hkz9 => first | exact rfl | assumption); (case Nz9 => k_asm); (case hlz9 => k_mem); (case Uz9 => k_updF); (case hnez9 => k_ne); (case hdz9 => ktr_room); (case huz9 => ktr_units); (case hiz9 => l_ints); (case bdz9 => (simp only [List.forall_mem_cons, List.not_mem_nil, false_implies, implies_true, and_true]; omega)); (case az9 => (simp only [List.length_cons, List.length_nil]; omega)); (case bz9 => (simp only [List.length_cons, List.length_nil]; omega)); (case cz9 => walk_at "M ar"); (case dz9 => walk_at "M ar"); k_whole) | (refine' pick_use (lo := -200000) (hi := 200000) ?Bz9 ?Fz9 ?Xz9 ?Tz9 ?hkz9 ?Nz9 ?Uz9 ?hlz9 ?hnez9 ?hdz9 ?huz9 ?hiz9 ?az9 ?bz9 ?cz9 ?dz9 ?bdz9 ?_; (case Bz9 => k_asm); (case Fz9 => k_asm); (case Xz9 => k_asm); (case Tz9 => k_asm); (case hkz9 => first | exact rfl | assumption); (case Nz9 => k_asm); (case hlz9 => k_mem); (case Uz9 => k_updF); (case hnez9 => k_ne); (case hdz9 => ktr_room); (case huz9 => ktr_units); (case hiz9 => l_ints); (case bdz9 => (simp only [List.forall_mem_cons, List.not_mem_nil, false_implies, implies_true, and_true]; omega)); (case az9 => (simp only [List.length_cons, List.length_nil]; omega)); (case bz9 => (simp only [List.length_cons, List.length_nil]; omega)); (case cz9 => walk_at "M ar"); (case dz9 => walk_at "M ar"); k_whole)); intro x' n' c' t' t1' t2' k' h' tk' d0 d1 n0 c0 F' N'; (try dsimp only at N'); (try dsimp only); (try k_sweep); (try k_fold))
  exact trivial
/-- a draw's bounds, out of the walker's sight -/
structure InR (d m : Int) : Prop where
  lo : 0 ≤ d
  hi : d < m
/-- one segment as the law lays it: code, last, delta, the offset's way -/
def SegD (d : Dat) : Prop := ∃ x y z u, d = Dat.tuple [.int x, .int y, .int z, .int u] ∧ 0 ≤ x ∧ x ≤ 70000 ∧ 0 ≤ y ∧ y ≤ 70000 ∧ -200000 ≤ z ∧ z ≤ 200000 ∧ -2 ≤ u ∧ u ≤ 3
theorem segd_at {tl : List (Addr × Obj)} {vs : List Value} {ds : List Dat} {i : Nat} {v : Value} (da : DatAll tl vs ds) (sg : ∀ d ∈ ds, SegD d) (hv : vs[i]? = some v) :
    ∃ a x y z u tx ty tz tu k, v = .ref a ∧ (a, ({ cls := .type "tuple", data := .seq #[.int x tx, .int y ty, .int z tz, .int u tu] k } : Obj)) ∈ tl ∧ -2 ≤ u ∧ u ≤ 3 := by
  have hi : i < ds.length := by rw [← da.length]; exact (List.getElem?_eq_some_iff.mp hv).1
  obtain ⟨v', hv', hD⟩ := da.get hi
  rw [hv] at hv'
  cases hv'
  obtain ⟨x, y, z, u, e, _, _, _, _, _, _, u0, u1⟩ := sg _ (List.getElem_mem hi)
  rw [e] at hD
  cases hD with
  | tuple hm r =>
    cases r with
    | cons hx r => cases r with
      | cons hy r => cases r with
        | cons hz r => cases r with
          | cons hu r =>
            cases r
            cases hx; cases hy; cases hz; cases hu
            exact ⟨_, _, _, _, _, _, _, _, _, _, rfl, hm, u0, u1⟩
/-- what stands after pre segments: the pen, the code, the tuples laid -/
def SegP0 (c : Int) (pre : List Int) (code : Int) (pn : List Int) (fnd : List Dat) : Prop :=
  (∃ n c', pn = [n, c'] ∧ 0 ≤ n ∧ 0 ≤ c') ∧ 0 ≤ code ∧ code ≤ 65535 + 8 * pre.length ∧ fnd.length = pre.length ∧ ∀ d ∈ fnd, SegD d
theorem SegP0.start {c n c' code : Int} (h0 : 0 ≤ n) (h1 : 0 ≤ c') (h3 : 0 ≤ code) (h4 : code ≤ 65535) : SegP0 c [] code [n, c'] [] :=
  ⟨⟨n, c', rfl, h0, h1⟩, h3, by simpa using h4, rfl, by simp⟩
theorem SegP0.step {c n c0 code k n' c' z d d2 d3 D : Int} {pre : List Int} {fnd : List Dat} (h : SegP0 c pre code [n, c0] fnd) (hD : InR D 4) (hl : pre.length < (D - 0).toNat) (hn : 0 ≤ n') (hc : 0 ≤ c') (hd : InR d 4) (hd2 : InR d2 6) (hd3 : InR d3 3) (hz0 : -200000 ≤ z) (hz1 : z ≤ 200000) :
    SegP0 c (pre ++ [k]) (code + d + 1 + d3) [n', c'] (fnd ++ [Dat.tuple [.int code, .int (code + d), .int z, .int (d2 - 2)]]) := by
  obtain ⟨⟨a, b, e, p1, p2⟩, p4, p5, p6, p7⟩ := h
  have q1 := hd.lo
  have q2 := hd.hi
  have q3 := hd3.lo
  have q4 := hd3.hi
  have q5 := hd2.lo
  have q6 := hd2.hi
  have q7 := hD.hi
  have e2 : c0 = b := by simpa using (List.cons.inj (List.cons.inj e).2).1
  refine ⟨⟨n', c', rfl, hn, hc⟩, by omega, ?_, ?_, fun d hd => ?_⟩
  · rw [List.length_append, List.length_singleton]; omega
  · rw [List.length_append, List.length_append, p6]; rfl
  · rcases List.mem_append.mp hd with h | h
    · exact p7 d h
    · exact ⟨_, _, _, _, List.mem_singleton.mp h, by omega, by omega, by omega, by omega, by omega, by omega, by omega, by omega⟩
theorem ints_two {vs : List Value} {n c : Int} (h : IntsAre vs [n, c]) : ∃ t u, vs = [.int n t, .int c u] := by
  cases h with
  | cons _ t r => cases r with
    | cons _ u r => cases r with
      | nil => exact ⟨t, u, rfl⟩
/-- what the segments are, handed to a caller: D the list, tl the tuples and what else stands -/
structure SegsOut (s₀ h' : Heap) (D : Addr) (vs : List Value) (ds : List Dat) (kD : Nat) (tl : List (Addr × Obj)) : Prop where
  dat : DatAll tl vs ds
  seg : ∀ d ∈ ds, SegD d
  lo : 1 ≤ ds.length
  hi : ds.length ≤ 4
  get : h'.get? D = some (W.listOf vs.toArray kD)
  new : s₀.get? D = none
  tls : ∀ p ∈ tl, h'.get? p.1 = some p.2 ∧ s₀.get? p.1 = none ∧ p.1 ≠ D
theorem SegsOut.make {s₀ g h h' : Heap} {L pen l D' l1 l3 D1 l2 : Addr} {ol o1 o3 op oD1 o2 : Obj} {a b c d : Int} {ta tb tc td : Tok} {kk n : Nat} {vs : List Value} {ds : List Dat} {tl : List (Addr × Obj)}
    (K : Kept s₀ g [pen]) (N8 : News g L h ((l, ol) :: (D', ({ cls := .type "tuple", data := .seq #[.int a ta, .int b tb, .int c tc, .int d td] n } : Obj)) :: (l1, o1) :: (l3, o3) :: (pen, op) :: (D1, oD1) :: (l2, o2) :: tl))
    (N7 : News g L h' ((h.objs.size, W.listOf (vs ++ [Value.ref D']).toArray kk) :: (l, ol) :: (D', ({ cls := .type "tuple", data := .seq #[.int a ta, .int b tb, .int c tc, .int d td] n } : Obj)) :: (l1, o1) :: (l3, o3) :: (pen, op) :: (D1, oD1) :: (l2, o2) :: tl))
    (hd : DatAll ((D1, oD1) :: (l2, o2) :: tl) vs ds) (hs : ∀ d ∈ ds, SegD d) (hl : ds.length ≤ 3) (hO : OwnOff tl [l3, pen, D1, l2]) (n1 : @Ne Nat D' pen) (n2 : @Ne Nat D1 pen) (n3 : @Ne Nat l2 pen)
    (ha : 0 ≤ a ∧ a ≤ 70000) (hb : 0 ≤ b ∧ b ≤ 70000) (hc : -200000 ≤ c ∧ c ≤ 200000) (hdd : -2 ≤ d ∧ d ≤ 3) :
    SegsOut s₀ h' h.objs.size (vs ++ [Value.ref D']) (ds ++ [Dat.tuple [.int a, .int b, .int c, .int d]]) kk ((D', ({ cls := .type "tuple", data := .seq #[.int a ta, .int b tb, .int c tc, .int d td] n } : Obj)) :: (D1, oD1) :: (l2, o2) :: tl) where
  dat := DatAll.append (DatAll.mono (fun p hp => List.mem_cons_of_mem _ hp) hd) (DatAll.one (DatIn.tuple (vs := [.int a ta, .int b tb, .int c tc, .int d td]) (.head _) (.cons (.int _ _) (.cons (.int _ _) (.cons (.int _ _) (.cons (.int _ _) .nil))))))
  seg := fun x hx => by
    rcases List.mem_append.mp hx with h | h
    · exact hs x h
    · exact ⟨_, _, _, _, List.mem_singleton.mp h, ha.1, ha.2, hb.1, hb.2, hc.1, hc.2, hdd.1, hdd.2⟩
  lo := by rw [List.length_append, List.length_singleton]; omega
  hi := by rw [List.length_append, List.length_singleton]; omega
  get := (N7 _ (.head _)).1
  new := Kept.fresh K (N7 _ (.head _)).2.2 (fun hm => by
    have e : h.objs.size = pen := List.mem_singleton.mp hm
    exact absurd (Heap.lt_size (N8 (pen, op) (by simp)).1) (e ▸ Nat.lt_irrefl _))
  tls := fun p hp => by
    have m8 : p ∈ ((l, ol) :: (D', ({ cls := .type "tuple", data := .seq #[.int a ta, .int b tb, .int c tc, .int d td] n } : Obj)) :: (l1, o1) :: (l3, o3) :: (pen, op) :: (D1, oD1) :: (l2, o2) :: tl) := by
      rcases List.mem_cons.mp hp with rfl | hp
      · simp
      · rcases List.mem_cons.mp hp with rfl | hp
        · simp
        · rcases List.mem_cons.mp hp with rfl | hp
          · simp
          · simp [hp]
    have np : p.1 ≠ pen := by
      rcases List.mem_cons.mp hp with rfl | hp
      · exact n1
      · rcases List.mem_cons.mp hp with rfl | hp
        · exact n2
        · rcases List.mem_cons.mp hp with rfl | hp
          · exact n3
          · exact hO p hp pen (by simp)
    have q := N7 p (List.mem_cons_of_mem _ m8)
    exact ⟨q.1, Kept.fresh K q.2.2 (fun hm => np (List.mem_singleton.mp hm)), Nat.ne_of_lt (Heap.lt_size (N8 p m8).1)⟩
section
variable {w : World} {mean : ExcName → Option Value} {mg mb : Str → Option Value} {dp un : Nat} {gd : Option (List Code)} {cn : Str} {cs : Scope} {a : Addr} {ccd : Value} {cl : List (Str × Addr)} {outer : List Env} {A₀ : Around} {base h₀ : Heap} {L : Addr} {m : Str → Option Value} {s : Shared} {Q E : Value → Shared → Prop}
   (B : Below A₀ base outer h₀) (F : Fr h₀ L s.heap m) (X : (heapK w.params).In h₀) (T : Top prgV (looseW prgV [Str.ofString "ShapeError"]) mean mg mb h₀) (hk : cs.kind = .function)
include B F X T hk
theorem rT5_1 : True := by
  k_with "pyIter ref" => ((with_reducible rename IsRange _ _ _ _ _ _ _ _ => rgX9); refine stopped ?_)
  k_with "call ref" => (k_here; (with_reducible show wpAny _ _ (call (Value.ref 216) [Value.ref _, Value.int _ _]) _ _ _); k_dflt (refine' draw_use ?Bz9 ?Fz9 ?Xz9 ?Tz9 ?hkz9 ?Nz9 ?Uz9 ?hdz9 ?huz9 ?az9 ?bz9 ?cz9 ?dz9 ?_; (case Bz9 => k_asm); (case Fz9 => k_asm); (case Xz9 => k_asm); (case Tz9 => k_asm); (case hkz9 => first | exact rfl | assumption); (case Nz9 => k_asm); (case Uz9 => k_updF); (case hdz9 => ktr_room); (case huz9 => ktr_units); (case az9 => walk_at "M ar"); (case bz9 => walk_at "M ar"); (case cz9 => walk_at "M ar"); (case dz9 => walk_at "M ar"); k_whole); intro d' n' c' t' t1' t2' k' h' tk' d0 d1 n0 c0 F' N'; (have dB := InR.mk d0 d1); clear d0 d1; (try dsimp only at N'); (try dsimp only); (try k_sweep); (try k_fold))
  exact trivial
local macro_rules | `(tactic| kst_facts1) => `(tactic| exact IntsAre.cons _ _ (IntsAre.cons _ _ IntsAre.nil))
set_option maxRecDepth 100000 in
set_option maxHeartbeats 8000000 in
theorem segments_spec {pen : Addr} {n c : Int} {t1 t2 : Tok} {k : Nat}
   (N : News h₀ L s.heap [(pen, W.listOf #[.int n t1, .int c t2] k)])
   (hd : dp + 10 < recursionLimit) (hu : un + 200 < cLine)
   (hn0 : 0 ≤ n) (hc0 : 0 ≤ c)
   (hret : ∀ D vs ds kD n' c' t1' t2' k' tl h' tk', SegsOut s.heap h' D vs ds kD tl → 0 ≤ n' → 0 ≤ c' → Kept s.heap h' [pen] → h'.get? pen = some (W.listOf #[.int n' t1', .int c' t2'] k') → Q (.ref D) { s with heap := h', toks := tk' }) :
   wpAny (model Challenge.rw_nu0154_01.row.prog w) (ktrTop dp un gd cn cs L a ccd cl outer) (call (.ref 230) [.ref pen]) Q E s := by
  revert X; k_fill; intro X
  refine wpAny_call ?_
  k_dflt (walk_at "M enter0")
  intro g1 L1 hh1 tk1 K1 G1 FG1 F1 N1 B1 X1 T1 l1 l2
  k_lt l1
  replace F1 : Fr g1 L1 hh1 (fun y => List.lookup y [(Str.ofString "pen", .ref pen)]) := F1
  dsimp only
  k_lift B1
  try k_fold
  k_steps
  refine Stop.go ?_
  rename InR _ _ => dr9
  have dlo := dr9.lo
  have dhi := dr9.hi
  have ia9 : IntsAre [.int n' t1', .int c' t2'] [n', c'] := .cons n' t1' (.cons c' t2' .nil)
  k_with "state" => exact SegP0.start (by assumption) (by assumption) (by omega) (by omega)
  k_dat (fun (pre : List Int) (code : Int) (pn : List Int) (fnd : List Dat) => SegP0 c pre code pn fnd) "code" "pen" "found*"
  · rename SegP0 _ _ _ _ _ => sp
    have sp0 := sp
    obtain ⟨⟨n8, c8, rfl, p1, p2⟩, p4, p5, p6, p7⟩ := sp
    rename IntsAre _ [n8, c8] => ia
    obtain ⟨t8, u8, rfl⟩ := ints_two ia
    have kl9 := kLt
    k_with "state" => exact SegP0.step sp0 dr9 kl9 (by assumption) (by assumption) (by assumption) (by assumption) (by assumption) (by omega) (by omega)
    k_steps
  · rename SegP0 _ _ _ _ _ => sp
    have sp0 := sp
    obtain ⟨⟨n8, c8, rfl, p1, p2⟩, p4, p5, p6, p7⟩ := sp
    rename IntsAre _ [n8, c8] => ia
    obtain ⟨t8, u8, rfl⟩ := ints_two ia
    rw [rangeKs_length] at p5 p6
    rename DatAll _ _ _ => da9
    k_steps
    rename Fr g1 L1 _ _ => F7
    rename News g1 L1 _ _ => N7
    rename News g1 L1 _ ((_, W.listOf #[Value.ref _] 0) :: _) => N8
    refine hret _ _ _ _ _ _ _ _ _ _ _ _ (SegsOut.make K1 N8 N7 da9 p7 (by omega) kO3 (by k_ne) (by k_ne) (by k_ne) ?_ ?_ ?_ ?_) ?_ ?_ (Kept.out K1 F7) (News.get N7 (.tail _ (.tail _ (.tail _ (.tail _ (.tail _ (.head _)))))))
    all_goals (repeat (rename InR _ _ => q9; (have q9a := q9.lo); (have q9b := q9.hi); clear q9))
    · split <;> omega
    all_goals omega
theorem segments_use {pen : Addr} {n c : Int} {t1 t2 : Tok} {k : Nat} {news : List (Addr × Obj)} {g : Obj → List (Addr × Obj)}
   (N : News h₀ L s.heap news) (U : UpdF pen (W.listOf #[.int n t1, .int c t2] k) news g)
   (hd : dp + 10 < recursionLimit) (hu : un + 200 < cLine)
   (hn0 : 0 ≤ n) (hc0 : 0 ≤ c)
   (hret : ∀ D vs ds kD n' c' t1' t2' k' tl h' tk', DatAll tl vs ds → (∀ d ∈ ds, SegD d) → 1 ≤ ds.length → ds.length ≤ 4 → 0 ≤ n' → 0 ≤ c' → Fr h₀ L h' m → News h₀ L h' ((D, W.listOf vs.toArray kD) :: (g (W.listOf #[.int n' t1', .int c' t2'] k') ++ tl)) → LCg.Off1 D news → OwnOff tl (D :: news.map (·.1)) → Q (.ref D) { s with heap := h', toks := tk' }) :
   wpAny (model Challenge.rw_nu0154_01.row.prog w) (ktrTop dp un gd cn cs L a ccd cl outer) (call (.ref 230) [.ref pen]) Q E s := by
  refine segments_spec B F X T hk (UpdF.only N U) hd hu hn0 hc0 fun D vs ds kD n' c' t1' t2' k' tl h' tk' so a1 a2 kp e => ?_
  obtain ⟨F', N'⟩ := Kept.updF F N U kp e
  have nf : ∀ b o, h'.get? b = some o → s.heap.get? b = none → b ≠ L ∧ h₀.get? b = none := fun b o e1 n1 => (News.cons_new (news := []) F (fun _ hp => nomatch hp) e1 n1 _ (.head _)).2
  refine hret D vs ds kD n' c' t1' t2' k' tl h' tk' so.dat so.seg so.lo so.hi a1 a2 F' (fun p hp => ?_) (News.all_ne N so.new) (fun p hp b hb => ?_)
  · rcases List.mem_cons.mp hp with rfl | hp
    · exact ⟨so.get, nf _ _ so.get so.new⟩
    · rcases List.mem_append.mp hp with hp | hp
      · exact N' p hp
      · exact ⟨(so.tls p hp).1, nf _ _ (so.tls p hp).1 (so.tls p hp).2.1⟩
  · rcases List.mem_cons.mp hb with rfl | hb
    · exact (so.tls p hp).2.2
    · obtain ⟨q, hq, rfl⟩ := List.mem_map.mp hb
      exact (ne_of_get (N q hq).1 (so.tls p hp).2.1).symm
end
end
section
theorem rT45_0 : True := by
  k_with_none
  k_with "ne" => (refine neN ?_; (try dsimp only); first | with_reducible assumption | exact Ne.symm (by with_reducible assumption) | exact off_ne (by with_reducible assumption) (by k_mem) | exact Ne.symm (off_ne (by with_reducible assumption) (by k_mem)) | exact off_i (by with_reducible assumption) (by k_mem) | exact off_c (by with_reducible assumption) (by k_mem) | exact off_d (by with_reducible assumption) (by k_mem) | exact Ne.symm (off_i (by with_reducible assumption) (by k_mem)) | exact Ne.symm (off_c (by with_reducible assumption) (by k_mem)) | exact Ne.symm (off_d (by with_reducible assumption) (by k_mem)) | exact Ne3.a (by with_reducible assumption) | exact Ne3.b (by with_reducible assumption) | exact Ne3.c (by with_reducible assumption) | exact Ne.symm (Ne3.a (by with_reducible assumption)) | exact Ne.symm (Ne3.b (by with_reducible assumption)) | exact Ne.symm (Ne3.c (by with_reducible assumption)) | exact NeA.ne (by with_reducible assumption) | exact Ne.symm (NeA.ne (by with_reducible assumption)) | exact Nat.ne_of_lt (by with_reducible assumption) | exact Nat.ne_of_gt (by with_reducible assumption) | exact Nat.ne_of_lt (And.left (by with_reducible assumption)) | exact Nat.ne_of_gt (And.left (by with_reducible assumption)) | exact Nat.ne_of_lt (And.left (And.right (by with_reducible assumption))) | exact Nat.ne_of_gt (And.left (And.right (by with_reducible assumption))) | exact Nat.ne_of_lt (And.right (by with_reducible assumption)) | exact Nat.ne_of_gt (And.right (by with_reducible assumption)) | exact Nat.ne_of_lt (And.right (And.right (by with_reducible assumption))) | exact Nat.ne_of_gt (And.right (And.right (by with_reducible assumption))) | exact Nat.ne_of_lt (And.left (And.right (And.right (by with_reducible assumption)))) | exact Nat.ne_of_gt (And.left (And.right (And.right (by with_reducible assumption)))))
  k_with "M enter" => (refine' enterM ?k1z9 ?k2z9 ?k3z9 ?k4z9 ?k5z9 ?kAz9 ?kFz9 ?kKz9 ?k6z9 ?k7z9 ?k8z9 ?k9z9 ?kBz9 ?_ ?c2z9 ?c3z9 ?c4z9 ?c5z9; (case kAz9 => exact rfl); (case kFz9 => exact rfl); (case kKz9 => assumption); (case k1z9 => k_asm); (case k2z9 => k_asm); (case k3z9 => k_asm); (case k4z9 => k_asm); (case k5z9 => k_asm); (case k6z9 => k_is); (case k7z9 => k_is); (case k8z9 => ktr_room); (case k9z9 => first | exact BindsTo.of_eq rfl | exact binds_K (by k_in) rfl (by k_is) rfl rfl rfl); (case c5z9 => decide); (case kBz9 => exact locs rfl); (case c2z9 => exact rfl); (case c3z9 => exact rfl); (case c4z9 => exact rfl); k_whole; intro g' L' h' tk' K' G' FG' F' N' B' X' T' l1 l2; (try k_lt l1); (try dsimp only); (try k_lift B'); (try k_fold))
  k_with "M enter0" => (refine' enterM ?k1z9 ?k2z9 ?k3z9 ?k4z9 ?k5z9 ?kAz9 ?kFz9 ?kKz9 ?k6z9 ?k7z9 ?k8z9 ?k9z9 ?kBz9 ?_ ?c2z9 ?c3z9 ?c4z9 ?c5z9; (case kAz9 => exact rfl); (case kFz9 => exact rfl); (case kKz9 => assumption); (case k1z9 => k_asm); (case k2z9 => k_asm); (case k3z9 => k_asm); (case k4z9 => k_asm); (case k5z9 => k_asm); (case k6z9 => k_is); (case k7z9 => k_is); (case k8z9 => ktr_room); (case k9z9 => first | exact BindsTo.of_eq rfl | exact binds_K (by k_in) rfl (by k_is) rfl rfl rfl); (case c5z9 => decide); (case kBz9 => exact locs rfl); (case c2z9 => exact rfl); (case c3z9 => exact rfl); (case c4z9 => exact rfl); k_whole)
  k_with "M ar" => (first | with_reducible assumption | decide | omega | (simp [List.getD]; done) | (simp [List.getD]; omega))
  k_with "M keep" => (rename Kept _ _ [] => K7; (have F' := Kept.fr (by k_asm) K7); (have N' := Kept.news (by k_asm) K7); clear K7; (try dsimp only); (try k_sweep))
  k_with "M enterC" => (refine' enterMC ?k1z9 ?k2z9 ?k3z9 ?k4z9 ?k5z9 ?kAz9 ?kFz9 ?kKz9 ?k6z9 ?k7z9 ?k8z9 ?k9z9 ?kBz9 ?kDz9 ?_ ?c2z9 ?c3z9 ?c4z9; (case kAz9 => exact rfl); (case kFz9 => exact rfl); (case kKz9 => assumption); (case k1z9 => k_asm); (case k2z9 => k_asm); (case k3z9 => k_asm); (case k4z9 => k_asm); (case k5z9 => k_asm); (case k6z9 => k_is); (case k7z9 => k_is); (case k8z9 => ktr_room); (case k9z9 => first | exact BindsTo.of_eq rfl | exact binds_K (by k_in) rfl (by k_is) rfl rfl rfl); (case kBz9 => exact rfl); (case kDz9 => decide +kernel); (case c2z9 => exact rfl); (case c3z9 => exact rfl); (case c4z9 => exact rfl); k_whole; intro g' L' h' tk' cells' K' G' FG' F' N' Y' B' X' T' l1 l2; (try k_lt l1); k_cells Y'; (try simp only [List.cons_append, List.nil_append] at N'); (try dsimp only); (try k_lift B'); (try k_fold))
  k_with "M enterC0" => (refine' enterMC ?k1z9 ?k2z9 ?k3z9 ?k4z9 ?k5z9 ?kAz9 ?kFz9 ?kKz9 ?k6z9 ?k7z9 ?k8z9 ?k9z9 ?kBz9 ?kDz9 ?_ ?c2z9 ?c3z9 ?c4z9; (case kAz9 => exact rfl); (case kFz9 => exact rfl); (case kKz9 => assumption); (case k1z9 => k_asm); (case k2z9 => k_asm); (case k3z9 => k_asm); (case k4z9 => k_asm); (case k5z9 => k_asm); (case k6z9 => k_is); (case k7z9 => k_is); (case k8z9 => ktr_room); (case k9z9 => first | exact BindsTo.of_eq rfl | exact binds_K (by k_in) rfl (by k_is) rfl rfl rfl); (case kBz9 => exact rfl); (case kDz9 => decide +kernel); (case c2z9 => exact rfl); (case c3z9 => exact rfl); (case c4z9 => exact rfl); k_whole)
  k_with "call ref" => (k_here; (with_reducible show wpAny _ _ (call (Value.ref 216) [Value.ref _, Value.int _ _]) _ _ _); k_dflt (refine' draw_use ?Bz9 ?Fz9 ?Xz9 ?Tz9 ?hkz9 ?Nz9 ?Uz9 ?hdz9 ?huz9 ?az9 ?bz9 ?cz9 ?dz9 ?_; (case Bz9 => k_asm); (case Fz9 => k_asm); (case Xz9 => k_asm); (case Tz9 => k_asm); (case hkz9 => first | exact rfl | assumption); (case Nz9 => k_asm); (case Uz9 => k_updF); (case hdz9 => ktr_room); (case huz9 => ktr_units); (case az9 => walk_at "M ar"); (case bz9 => walk_at "M ar"); (case cz9 => walk_at "M ar"); (case dz9 => walk_at "M ar"); k_whole); intro d' n' c' t' t1' t2' k' h' tk' d0 d1 n0 c0 F' N'; (try dsimp only at N'); (try dsimp only); (try k_sweep); (try k_fold))
  k_with "call ref" => (k_here; (with_reducible show wpAny _ _ (call (Value.ref 223) [Value.ref _, Value.ref _]) _ _ _); k_dflt (first | (refine' pick_use (lo := 0) (hi := 65535) ?Bz9 ?Fz9 ?Xz9 ?Tz9 ?hkz9 ?Nz9 ?Uz9 ?hlz9 ?hnez9 ?hdz9 ?huz9 ?hiz9 ?az9 ?bz9 ?cz9 ?dz9 ?bdz9 ?_; (case Bz9 => k_asm); (case Fz9 => k_asm); (case Xz9 => k_asm); (case Tz9 => k_asm); (case hkz9 => first | exact rfl | assumption); (case Nz9 => k_asm); (case hlz9 => k_mem); (case Uz9 => k_updF); (case hnez9 => k_ne); (case hdz9 => ktr_room); (case huz9 => ktr_units); (case hiz9 => l_ints); (case bdz9 => (simp only [List.forall_mem_cons, List.not_mem_nil, false_implies, implies_true, and_true]; omega)); (case az9 => (simp only [List.length_cons, List.length_nil]; omega)); (case bz9 => (simp only [List.length_cons, List.length_nil]; omega)); (case cz9 => walk_at "M ar"); (case dz9 => walk_at "M ar"); k_whole) | (refine' pick_use (lo := -200000) (hi := 200000) ?Bz9 ?Fz9 ?Xz9 ?Tz9 ?hkz9 ?Nz9 ?Uz9 ?hlz9 ?hnez9 ?hdz9 ?huz9 ?hiz9 ?az9 ?bz9 ?cz9 ?dz9 ?bdz9 ?_; (case Bz9 => k_asm); (case Fz9 => k_asm); (case Xz9 => k_asm); (case Tz9 => k_asm); (case hkz9 => first | exact rfl | assumption); (case Nz9 => k_asm); (case hlz9 => k_mem); (case Uz9 => k_updF); (case hnez9 => k_ne); (case hdz9 => ktr_room); (case huz9 => ktr_units); (case hiz9 => l_ints); (case bdz9 => (simp only [List.forall_mem_cons, List.not_mem_nil, false_implies, implies_true, and_true]; omega)); (case az9 => (simp only [List.length_cons, List.length_nil]; omega)); (case bz9 => (simp only [List.length_cons, List.length_nil]; omega)); (case cz9 => walk_at "M ar"); (case dz9 => walk_at "M ar"); k_whole)); intro x' n' c' t' t1' t2' k' h' tk' d0 d1 n0 c0 F' N'; (try dsimp only at N'); (try dsimp only); (try k_sweep); (try k_fold))
  k_with "call ref" => (k_here; (with_reducible show wpAny _ _ (call (Value.ref 230) [Value.ref _]) _ _ _); k_dflt (refine' segments_use ?Bz9 ?Fz9 ?Xz9 ?Tz9 ?hkz9 ?Nz9 ?Uz9 ?hdz9 ?huz9 ?az9 ?bz9 ?_; (case Bz9 => k_asm); (case Fz9 => k_asm); (case Xz9 => k_asm); (case Tz9 => k_asm); (case hkz9 => first | exact rfl | assumption); (case Nz9 => k_asm); (case Uz9 => k_updF); (case hdz9 => ktr_room); (case huz9 => ktr_units); (case az9 => walk_at "M ar"); (case bz9 => walk_at "M ar"); k_whole); intro D' vs' ds' kD' n' c' t1' t2' k' tl' h' tk' da' sg' q1' q2' n0 c0 F' N' o1' oo'; (try dsimp only at N'); (try simp only [List.cons_append, List.nil_append] at N'); (try simp only [List.map_cons, List.map_nil] at oo'); (try dsimp only); (try k_sweep); (try k_fold))
  exact trivial
section
variable {prog : Program} {w : World} {A : Around} {E : Value → Shared → Prop} {s : Shared} {env : Env} {h₀ : Heap} {target : Expr} {body : List Stmt} {Q : Flow → Shared → Prop}
theorem allObj_mono : ∀ {ws : List (Addr × String)} {k k' : List (Addr × Obj) → Prop}, (∀ its, k its → k' its) → AllObj ws k → AllObj ws k'
  | [], _, _, h, a => h _ a
  | _ :: _, _, _, h, a => fun o e => allObj_mono (fun its q => h _ q) (a o e)
theorem unrPost_mono {L : Addr} {s₁ : Shared} {its : List (Addr × Obj)} {r r' : (Str → Option Value) → List (Addr × Obj) → Prop} {f : Flow} {s₂ : Shared} (h : ∀ m n, r m n → r' m n) (p : UnrPostW h₀ L s₁ its r Q f s₂) : UnrPostW h₀ L s₁ its r' Q f s₂ := by
  have up : UnrEndW h₀ L s₁ its r s₂ → UnrEndW h₀ L s₁ its r' s₂ := by
    rintro ⟨h', tk, m', n', e, F, N, o, q⟩
    exact ⟨h', tk, m', n', e, F, N, o, h _ _ q⟩
  cases f with
  | ret v => exact p
  | brk => exact p
  | next => exact up p
  | cont => exact up p
/-- the turns of a loop over enumerate, by an invariant -/
theorem items_inv {ws : List (Addr × String)} {keep : List (Addr × Obj)} {vs : List Value} {m : Str → Option Value} {news : List (Addr × Obj)} (J : Nat → (Str → Option Value) → List (Addr × Obj) → Prop) (h0 : J 0 m news)
    (turn : ∀ i v m₁ nw T t h tk, vs[i]? = some v → J i m₁ nw → IsTup h T #[.int (i : Int) t, v] → Fr h₀ env.locals h m₁ → AllObj ws (fun its => News h₀ env.locals h (its ++ nw) →
      wpAny (model prog w) A (assign target env (.ref T)) (fun _ s₂ => wpAny (model prog w) A (execs body env) (UnrPostW h₀ env.locals { s with heap := h, toks := tk } its (fun m' n' => SubL keep n' ∧ J (i + 1) m' n') Q) E s₂) E { s with heap := h, toks := tk }))
    (fin : ∀ m' nw h tk, J vs.length m' nw → Fr h₀ env.locals h m' → News h₀ env.locals h nw → Q .next { s with heap := h, toks := tk }) :
    ItemsRest prog w A E h₀ env target body Q s ws keep (enumItems 0 vs) m news := by
  have key : ∀ (r : List Value) (i : Nat) (m' : Str → Option Value) (nw : List (Addr × Obj)), vs.drop i = r → i ≤ vs.length → J i m' nw → ItemsRest prog w A E h₀ env target body Q s ws keep (enumItems i r) m' nw := by
    intro r
    induction r with
    | nil =>
      intro i m' nw hr hi hj
      have hl : vs.length - i = 0 := by rw [← List.length_drop, hr]; rfl
      have e : i = vs.length := by omega
      subst e
      exact ItemsRest.zero fun h tk F N => fin m' nw h tk hj F N
    | cons v r ih =>
      intro i m' nw hr hi hj
      have hv : vs[i]? = some v := by
        have := congrArg (fun l => l[0]?) hr
        simpa using this
      have hi' : i < vs.length := (List.getElem?_eq_some_iff.mp hv).1
      have hr' : vs.drop (i + 1) = r := by
        rw [← List.tail_drop, hr]; rfl
      refine ItemsRest.pair fun T t h tk hT F => allObj_mono (fun its q N => ?_) (turn i v m' nw T t h tk hv hj hT F)
      exact wpAny_mono (q N) (fun _ s₂ x => wpAny_mono x (fun f s₃ p => unrPost_mono (fun m n y => ⟨y.1, ih (i + 1) m n hr' hi' y.2⟩) p) fun _ _ e => e) fun _ _ e => e
  exact key vs 0 m news rfl (Nat.zero_le _) h0
end
theorem two_same {a b : Str} {va vb va' vb' : Option Value} {m0 : Str → Option Value} (hab : a ≠ b) : (fun y => if y = a then va else if y = b then vb else (if y = a then va' else if y = b then vb' else m0 y)) = (fun y => if y = a then va else if y = b then vb else m0 y) := by
  funext y
  by_cases h : y = a
  · simp [h]
  · by_cases h2 : y = b
    · simp [h, h2]
    · simp [h, h2]
theorem Fr.two {h₀ h : Heap} {L : Addr} {a b : Str} {va vb va' vb' : Option Value} {m0 : Str → Option Value} (hab : a ≠ b) (F : Fr h₀ L h (fun y => if y = a then va else if y = b then vb else (if y = a then va' else if y = b then vb' else m0 y))) : Fr h₀ L h (fun y => if y = a then va else if y = b then vb else m0 y) := by
  rw [two_same hab] at F; exact F
theorem ints_conc {v : List Value} {n : List Int} {x : Int} {t : Tok} (h : IntsAre v n) : IntsAre (v.toArray.toList.concat (.int x t)) (n ++ [x]) := by
  rw [List.concat_eq_append]; exact IntsAre.append h (.cons _ _ .nil)
theorem news_abp {g h : Heap} {L : Addr} {a b p : Addr × Obj} {rest : List (Addr × Obj)} (N : News g L h (a :: b :: rest)) (hp : p ∈ rest) : News g L h [a, b, p] := fun q hq => by
  rcases List.mem_cons.mp hq with rfl | hq
  · exact N _ (.head _)
  · rcases List.mem_cons.mp hq with rfl | hq
    · exact N _ (.tail _ (.head _))
    · rcases List.mem_singleton.mp hq with rfl
      exact N _ (.tail _ (.tail _ hp))
theorem unr_end {h₀ : Heap} {L : Addr} {s₁ : Shared} {its all news' : List (Addr × Obj)} {rest : (Str → Option Value) → List (Addr × Obj) → Prop} {h' : Heap} {tk : Nat} {m' : Str → Option Value} (F : Fr h₀ L h' m') (N : News h₀ L h' all) (hs : ∀ p ∈ its ++ news', p ∈ all) (off : ∀ p ∈ news', ∀ q ∈ its, p.1 ≠ q.1) (r : rest m' news') : UnrEndW h₀ L s₁ its rest { s₁ with heap := h', toks := tk } :=
  ⟨h', tk, m', news', rfl, F, fun p hp => N p (hs p hp), off, r⟩
theorem off_I {I : Addr} {o1 o2 : Obj} : ∀ {l : List (Addr × Obj)}, AllLt I l → ∀ p ∈ l, ∀ q ∈ [(I + 1, o1), (I, o2)], p.1 ≠ q.1
  | [], _, _, h => nomatch h
  | _ :: _, h, p, hp => fun q hq => by
    rcases List.mem_cons.mp hp with rfl | hp
    · rcases List.mem_cons.mp hq with rfl | hq
      · exact Nat.ne_of_lt (Nat.lt_succ_of_lt h.1)
      · rcases List.mem_singleton.mp hq with rfl; exact Nat.ne_of_lt h.1
    · exact off_I h.2 p hp q hq
section
variable {w : World} {mean : ExcName → Option Value} {mg mb : Str → Option Value} {dp un : Nat} {gd : Option (List Code)} {cn : Str} {cs : Scope} {a : Addr} {ccd : Value} {cl : List (Str × Addr)} {outer : List Env} {A₀ : Around} {base h₀ : Heap} {L : Addr} {m : Str → Option Value} {s : Shared} {Q E : Value → Shared → Prop}
   (B : Below A₀ base outer h₀) (F : Fr h₀ L s.heap m) (X : (heapK w.params).In h₀) (T : Top prgV (looseW prgV [Str.ofString "ShapeError"]) mean mg mb h₀) (hk : cs.kind = .function)
theorem rT45_1 : True := by
  k_with "exec For Tuple Call cons nil" => (k_here; (rename Fr _ _ _ _ => lF'); (with_unfolding_all refine' For_turns lF' ?_; k_whole))
  k_with "call type:enumerate" => (k_here; (with_reducible show wpAny _ _ (call (Value.type _) [Value.ref _]) (fun xv s₁ => wpAny _ _ (pyIter xv) (fun it s₂ => TurnsAt _ _ _ _ _ _ _ _ _ it s₂) _ s₁) _ _); (refine stopped ?_))
  exact trivial
set_option maxRecDepth 100000 in
set_option maxHeartbeats 8000000 in
theorem numbers_tail {g : Heap} {L1 pen D DG DN : Addr} {n c : Int} {t1 t2 tc : Tok} {k kD kN kG : Nat} {oc : Obj} {vs vN vG : List Value} {nN nG : List Int} {ds : List Dat} {tl : List (Addr × Obj)} {Qf : Flow → Shared → Prop}
   (B : Below (ktrTop dp un gd cn cs L a ccd cl outer) base (envX cn cs L a ccd cl :: outer) g) (X : (heapK w.params).In g) (T : Top prgV (looseW prgV [Str.ofString "ShapeError"]) mean mg mb g)
   (F : Fr g L1 s.heap (fun y => if y = Str.ofString "one" then none else if y = Str.ofString "nth" then none else if y = Str.ofString "numbers" then some (Value.ref DN) else if y = Str.ofString "count" then some (Value.int ds.length tc) else if y = Str.ofString "glyphs" then some (Value.ref DG) else if y = Str.ofString "segments" then some (Value.ref D) else none))
   (N : News g L1 s.heap ((DN, W.listOf vN.toArray kN) :: (DG, W.listOf vG.toArray kG) :: (D, W.listOf vs.toArray kD) :: (L1 + 1, oc) :: (pen, W.listOf #[.int n t1, .int c t2] k) :: tl))
   (lt : (@Ne Nat DN DG) ∧ (@Ne Nat DN D) ∧ (@Ne Nat DN (L1 + 1)) ∧ (@Ne Nat DN pen) ∧ (@Ne Nat DG D) ∧ (@Ne Nat DG (L1 + 1)) ∧ (@Ne Nat DG pen) ∧ (@Ne Nat D (L1 + 1)) ∧ (@Ne Nat D pen) ∧ (@Ne Nat (L1 + 1) pen)) (oo : OwnOff tl [DN, DG, D, L1 + 1, pen])
   (hd : dp + 20 < recursionLimit) (hu : un + 400 < cLine) (hN : IntsAre vN nN) (hG : IntsAre vG nG) (da : DatAll tl vs ds) (sg : ∀ d ∈ ds, SegD d) (lN : nN.length ≤ 30) (lG : nG.length ≤ 5) (ld : 1 ≤ ds.length ∧ ds.length ≤ 4)
   (hret : ∀ T' DN' vs' ns' kN' tc' h' tk' m', IntsAre vs' ns' → ns'.length ≤ nN.length + ds.length + nG.length → Fr g L1 h' m' → News g L1 h' [(T', ({ cls := .type "tuple", data := .seq #[.ref DN', .int ds.length tc'] } : Obj)), (DN', W.listOf vs'.toArray kN'), (pen, W.listOf #[.int n t1, .int c t2] k)] → (@LT.lt Nat _ DN' T' ∧ @LT.lt Nat _ pen DN' ∧ @LT.lt Nat _ pen T') → Qf (.ret (.ref T')) { s with heap := h', toks := tk' }) :
   wpAny (model Challenge.rw_nu0154_01.row.prog w) ((ktrTop dp un gd cn cs L a ccd cl outer).deeper (envOfC (Str.ofString "_law_numbers") (scopeAt w.params 235) L1 235 (Value.ref 234))) (execs (sufAt w.params 235 5) (envOfC (Str.ofString "_law_numbers") (scopeAt w.params 235) L1 235 (Value.ref 234))) Qf (fun _ _ => False) s := by
  revert X; k_fill; intro X
  conv in (occs := *) scopeAt _ _ => all_goals whnf
  conv in sufAt _ _ _ => whnf
  have vl := da.length
  k_steps
  refine Stop.go ?_
  rename Fr _ _ _ _ => lF
  rename News g L1 _ _ => lNw
  with_unfolding_all refine ktu_enum (lo := W.listOf vs.toArray kD) (vs := vs) (xs := enumItems 0 vs) (n := kD) (by rfl) lF lNw (by k_mem) (by rfl) (by rfl) (by rfl) ?_
  intro I hI
  k_lt hI
  refine items_inv (fun i m₁ nw => ∃ va vb v' n' k', m₁ = (fun y => if y = Str.ofString "one" then va else if y = Str.ofString "nth" then vb else if y = Str.ofString "numbers" then some (Value.ref DN) else if y = Str.ofString "count" then some (Value.int ds.length tc) else if y = Str.ofString "glyphs" then some (Value.ref DG) else if y = Str.ofString "segments" then some (Value.ref D) else none) ∧
      nw = (DN, W.listOf v'.toArray k') :: (DG, W.listOf vG.toArray kG) :: (D, W.listOf vs.toArray kD) :: (L1 + 1, oc) :: (pen, W.listOf #[.int n t1, .int c t2] k) :: tl ∧ IntsAre v' n' ∧ n'.length = nN.length + i) ⟨none, none, vN, nN, kN, rfl, rfl, hN, rfl⟩ ?_ ?_
  · intro i v m₁ nw T t h tk hv hJ hT F3
    obtain ⟨va, vb, v', n', k', rfl, rfl, hn', hnl⟩ := hJ
    obtain ⟨a9, x9, y9, z9, u9, tx, ty, tz, tu, kk, rfl, hm9, b9⟩ := segd_at da sg hv
    have hi : i < vs.length := (List.getElem?_eq_some_iff.mp hv).1
    have nA : @Ne Nat a9 DN := oo _ hm9 DN (by simp)
    have hvl := hn'.length
    ktu_objs
    rename News g L1 _ _ => N3
    have N4 : News g L1 h ((a9, _) :: _) := fun p hp => (List.mem_cons.mp hp).elim (fun e => e ▸ N3 _ (by repeat (first | exact hm9 | refine List.Mem.tail _ ?_))) (N3 p)
    clear N3 lF lNw
    try k_fold
    k_steps
    all_goals
      rename Fr g L1 _ _ => F9
      rename News g L1 _ _ => N9
      refine unr_end (Fr.two (by decide) F9) N9 (fun p hp => List.mem_cons_of_mem _ hp) (off_I hI) ⟨⟨by k_mem, trivial⟩, _, _, _, _, _, rfl, rfl, ints_conc hn', by rw [List.length_append, List.length_singleton]; omega⟩
  · intro m' nw h tk hJ F3 N3
    obtain ⟨va, vb, v', n', k', rfl, rfl, hn', hnl⟩ := hJ
    clear lF lNw
    k_steps
    rename Fr g _ _ _ => F9
    rename News g _ _ _ => N9
    rename IntsAre _ (_ ++ _) => hI9
    rename _ ∧ _ ∧ _ ∧ _ ∧ _ ∧ _ ∧ _ => lt9
    obtain ⟨p1, p2, p3, p4, p5, p6, p7⟩ := lt9
    rename _ ∧ _ ∧ _ ∧ _ ∧ _ ∧ _ => lt8
    obtain ⟨r1, r2, r3, r4, r5, r6⟩ := lt8
    exact hret _ _ _ _ _ _ _ _ _ hI9 (by rw [List.length_append, hnl]; omega) F9 (news_abp N9 (by k_mem)) ⟨p1, r5, p6⟩
end
end
section
theorem rT44_0 : True := by
  k_with_none
  k_with "ne" => (refine neN ?_; (try dsimp only); first | with_reducible assumption | exact Ne.symm (by with_reducible assumption) | exact off_ne (by with_reducible assumption) (by k_mem) | exact Ne.symm (off_ne (by with_reducible assumption) (by k_mem)) | exact off_i (by with_reducible assumption) (by k_mem) | exact off_c (by with_reducible assumption) (by k_mem) | exact off_d (by with_reducible assumption) (by k_mem) | exact Ne.symm (off_i (by with_reducible assumption) (by k_mem)) | exact Ne.symm (off_c (by with_reducible assumption) (by k_mem)) | exact Ne.symm (off_d (by with_reducible assumption) (by k_mem)) | exact Ne3.a (by with_reducible assumption) | exact Ne3.b (by with_reducible assumption) | exact Ne3.c (by with_reducible assumption) | exact Ne.symm (Ne3.a (by with_reducible assumption)) | exact Ne.symm (Ne3.b (by with_reducible assumption)) | exact Ne.symm (Ne3.c (by with_reducible assumption)) | exact NeA.ne (by with_reducible assumption) | exact Ne.symm (NeA.ne (by with_reducible assumption)) | exact Nat.ne_of_lt (by with_reducible assumption) | exact Nat.ne_of_gt (by with_reducible assumption) | exact Nat.ne_of_lt (And.left (by with_reducible assumption)) | exact Nat.ne_of_gt (And.left (by with_reducible assumption)) | exact Nat.ne_of_lt (And.left (And.right (by with_reducible assumption))) | exact Nat.ne_of_gt (And.left (And.right (by with_reducible assumption))) | exact Nat.ne_of_lt (And.right (by with_reducible assumption)) | exact Nat.ne_of_gt (And.right (by with_reducible assumption)) | exact Nat.ne_of_lt (And.right (And.right (by with_reducible assumption))) | exact Nat.ne_of_gt (And.right (And.right (by with_reducible assumption))) | exact Nat.ne_of_lt (And.left (And.right (And.right (by with_reducible assumption)))) | exact Nat.ne_of_gt (And.left (And.right (And.right (by with_reducible assumption)))))
  k_with "M enter" => (refine' enterM ?k1z9 ?k2z9 ?k3z9 ?k4z9 ?k5z9 ?kAz9 ?kFz9 ?kKz9 ?k6z9 ?k7z9 ?k8z9 ?k9z9 ?kBz9 ?_ ?c2z9 ?c3z9 ?c4z9 ?c5z9; (case kAz9 => exact rfl); (case kFz9 => exact rfl); (case kKz9 => assumption); (case k1z9 => k_asm); (case k2z9 => k_asm); (case k3z9 => k_asm); (case k4z9 => k_asm); (case k5z9 => k_asm); (case k6z9 => k_is); (case k7z9 => k_is); (case k8z9 => ktr_room); (case k9z9 => first | exact BindsTo.of_eq rfl | exact binds_K (by k_in) rfl (by k_is) rfl rfl rfl); (case c5z9 => decide); (case kBz9 => exact locs rfl); (case c2z9 => exact rfl); (case c3z9 => exact rfl); (case c4z9 => exact rfl); k_whole; intro g' L' h' tk' K' G' FG' F' N' B' X' T' l1 l2; (try k_lt l1); (try dsimp only); (try k_lift B'); (try k_fold))
  k_with "M enter0" => (refine' enterM ?k1z9 ?k2z9 ?k3z9 ?k4z9 ?k5z9 ?kAz9 ?kFz9 ?kKz9 ?k6z9 ?k7z9 ?k8z9 ?k9z9 ?kBz9 ?_ ?c2z9 ?c3z9 ?c4z9 ?c5z9; (case kAz9 => exact rfl); (case kFz9 => exact rfl); (case kKz9 => assumption); (case k1z9 => k_asm); (case k2z9 => k_asm); (case k3z9 => k_asm); (case k4z9 => k_asm); (case k5z9 => k_asm); (case k6z9 => k_is); (case k7z9 => k_is); (case k8z9 => ktr_room); (case k9z9 => first | exact BindsTo.of_eq rfl | exact binds_K (by k_in) rfl (by k_is) rfl rfl rfl); (case c5z9 => decide); (case kBz9 => exact locs rfl); (case c2z9 => exact rfl); (case c3z9 => exact rfl); (case c4z9 => exact rfl); k_whole)
  k_with "M ar" => (first | with_reducible assumption | decide | omega | (simp [List.getD]; done) | (simp [List.getD]; omega))
  k_with "M keep" => (rename Kept _ _ [] => K7; (have F' := Kept.fr (by k_asm) K7); (have N' := Kept.news (by k_asm) K7); clear K7; (try dsimp only); (try k_sweep))
  k_with "M enterC" => (refine' enterMC ?k1z9 ?k2z9 ?k3z9 ?k4z9 ?k5z9 ?kAz9 ?kFz9 ?kKz9 ?k6z9 ?k7z9 ?k8z9 ?k9z9 ?kBz9 ?kDz9 ?_ ?c2z9 ?c3z9 ?c4z9; (case kAz9 => exact rfl); (case kFz9 => exact rfl); (case kKz9 => assumption); (case k1z9 => k_asm); (case k2z9 => k_asm); (case k3z9 => k_asm); (case k4z9 => k_asm); (case k5z9 => k_asm); (case k6z9 => k_is); (case k7z9 => k_is); (case k8z9 => ktr_room); (case k9z9 => first | exact BindsTo.of_eq rfl | exact binds_K (by k_in) rfl (by k_is) rfl rfl rfl); (case kBz9 => exact rfl); (case kDz9 => decide +kernel); (case c2z9 => exact rfl); (case c3z9 => exact rfl); (case c4z9 => exact rfl); k_whole; intro g' L' h' tk' cells' K' G' FG' F' N' Y' B' X' T' l1 l2; (try k_lt l1); k_cells Y'; (try simp only [List.cons_append, List.nil_append] at N'); (try dsimp only); (try k_lift B'); (try k_fold))
  k_with "M enterC0" => (refine' enterMC ?k1z9 ?k2z9 ?k3z9 ?k4z9 ?k5z9 ?kAz9 ?kFz9 ?kKz9 ?k6z9 ?k7z9 ?k8z9 ?k9z9 ?kBz9 ?kDz9 ?_ ?c2z9 ?c3z9 ?c4z9; (case kAz9 => exact rfl); (case kFz9 => exact rfl); (case kKz9 => assumption); (case k1z9 => k_asm); (case k2z9 => k_asm); (case k3z9 => k_asm); (case k4z9 => k_asm); (case k5z9 => k_asm); (case k6z9 => k_is); (case k7z9 => k_is); (case k8z9 => ktr_room); (case k9z9 => first | exact BindsTo.of_eq rfl | exact binds_K (by k_in) rfl (by k_is) rfl rfl rfl); (case kBz9 => exact rfl); (case kDz9 => decide +kernel); (case c2z9 => exact rfl); (case c3z9 => exact rfl); (case c4z9 => exact rfl); k_whole)
  k_with "call ref" => (k_here; (with_reducible show wpAny _ _ (call (Value.ref 216) [Value.ref _, Value.int _ _]) _ _ _); k_dflt (refine' draw_use ?Bz9 ?Fz9 ?Xz9 ?Tz9 ?hkz9 ?Nz9 ?Uz9 ?hdz9 ?huz9 ?az9 ?bz9 ?cz9 ?dz9 ?_; (case Bz9 => k_asm); (case Fz9 => k_asm); (case Xz9 => k_asm); (case Tz9 => k_asm); (case hkz9 => first | exact rfl | assumption); (case Nz9 => k_asm); (case Uz9 => k_updF); (case hdz9 => ktr_room); (case huz9 => ktr_units); (case az9 => walk_at "M ar"); (case bz9 => walk_at "M ar"); (case cz9 => walk_at "M ar"); (case dz9 => walk_at "M ar"); k_whole); intro d' n' c' t' t1' t2' k' h' tk' d0 d1 n0 c0 F' N'; (try dsimp only at N'); (try dsimp only); (try k_sweep); (try k_fold))
  k_with "call ref" => (k_here; (with_reducible show wpAny _ _ (call (Value.ref 223) [Value.ref _, Value.ref _]) _ _ _); k_dflt (first | (refine' pick_use (lo := 0) (hi := 65535) ?Bz9 ?Fz9 ?Xz9 ?Tz9 ?hkz9 ?Nz9 ?Uz9 ?hlz9 ?hnez9 ?hdz9 ?huz9 ?hiz9 ?az9 ?bz9 ?cz9 ?dz9 ?bdz9 ?_; (case Bz9 => k_asm); (case Fz9 => k_asm); (case Xz9 => k_asm); (case Tz9 => k_asm); (case hkz9 => first | exact rfl | assumption); (case Nz9 => k_asm); (case hlz9 => k_mem); (case Uz9 => k_updF); (case hnez9 => k_ne); (case hdz9 => ktr_room); (case huz9 => ktr_units); (case hiz9 => l_ints); (case bdz9 => (simp only [List.forall_mem_cons, List.not_mem_nil, false_implies, implies_true, and_true]; omega)); (case az9 => (simp only [List.length_cons, List.length_nil]; omega)); (case bz9 => (simp only [List.length_cons, List.length_nil]; omega)); (case cz9 => walk_at "M ar"); (case dz9 => walk_at "M ar"); k_whole) | (refine' pick_use (lo := -200000) (hi := 200000) ?Bz9 ?Fz9 ?Xz9 ?Tz9 ?hkz9 ?Nz9 ?Uz9 ?hlz9 ?hnez9 ?hdz9 ?huz9 ?hiz9 ?az9 ?bz9 ?cz9 ?dz9 ?bdz9 ?_; (case Bz9 => k_asm); (case Fz9 => k_asm); (case Xz9 => k_asm); (case Tz9 => k_asm); (case hkz9 => first | exact rfl | assumption); (case Nz9 => k_asm); (case hlz9 => k_mem); (case Uz9 => k_updF); (case hnez9 => k_ne); (case hdz9 => ktr_room); (case huz9 => ktr_units); (case hiz9 => l_ints); (case bdz9 => (simp only [List.forall_mem_cons, List.not_mem_nil, false_implies, implies_true, and_true]; omega)); (case az9 => (simp only [List.length_cons, List.length_nil]; omega)); (case bz9 => (simp only [List.length_cons, List.length_nil]; omega)); (case cz9 => walk_at "M ar"); (case dz9 => walk_at "M ar"); k_whole)); intro x' n' c' t' t1' t2' k' h' tk' d0 d1 n0 c0 F' N'; (try dsimp only at N'); (try dsimp only); (try k_sweep); (try k_fold))
  k_with "call ref" => (k_here; (with_reducible show wpAny _ _ (call (Value.ref 230) [Value.ref _]) _ _ _); k_dflt (refine' segments_use ?Bz9 ?Fz9 ?Xz9 ?Tz9 ?hkz9 ?Nz9 ?Uz9 ?hdz9 ?huz9 ?az9 ?bz9 ?_; (case Bz9 => k_asm); (case Fz9 => k_asm); (case Xz9 => k_asm); (case Tz9 => k_asm); (case hkz9 => first | exact rfl | assumption); (case Nz9 => k_asm); (case Uz9 => k_updF); (case hdz9 => ktr_room); (case huz9 => ktr_units); (case az9 => walk_at "M ar"); (case bz9 => walk_at "M ar"); k_whole); intro D' vs' ds' kD' n' c' t1' t2' k' tl' h' tk' da' sg' q1' q2' n0 c0 F' N' o1' oo'; (try dsimp only at N'); (try simp only [List.cons_append, List.nil_append] at N'); (try simp only [List.map_cons, List.map_nil] at oo'); (try dsimp only); (try k_sweep); (try k_fold))
  exact trivial
theorem off1_ne {D : Addr} : ∀ {l : List (Addr × Obj)}, LCg.Off1 D l → ∀ p ∈ l, p.1 ≠ D
  | [], _, _, h => nomatch h
  | _ :: _, x, p, h => by
    rcases List.mem_cons.mp h with rfl | h
    · exact x.1
    · exact off1_ne x.2 p h
theorem ownOff_cons {tl : List (Addr × Obj)} {a : Addr} {l : List Addr} (h : ∀ p ∈ tl, p.1 ≠ a) (o : OwnOff tl l) : OwnOff tl (a :: l) := fun p hp b hb => by
  rcases List.mem_cons.mp hb with rfl | hb
  · exact h p hp
  · exact o p hp b hb
theorem le_five {a : Nat} {d : Int} (h : a = (d - 0).toNat) (h1 : d < 6) : a ≤ 5 := by omega
theorem le_c {c c2 c3 c' d : Int} (h1 : c2 ≤ c + 20) (h2 : c3 ≤ c2 + 1) (h3 : c' ≤ c3 + ((d - 0).toNat : Nat)) (h4 : d < 6) : c' ≤ c + 26 := by omega
theorem le_len {a b : Int} {n2 n3 n4 : List Int} {k : Nat} (h2 : n2.length = k) (h3 : n3.length = k) (h4 : n4.length = k) (hk : k ≤ 4) : ([4, a, 0, b, 1, 2, 3] ++ n2 ++ [0] ++ n3 ++ n4).length ≤ 20 := by
  simp only [List.length_append, List.length_cons, List.length_nil]; omega
theorem le_all {x y k g : Nat} (h : x ≤ y + k + g) (hy : y ≤ 20) (hk : k ≤ 4) (hg : g ≤ 5) : x ≤ 60 := by omega
theorem ge_one {k : Nat} (h : 1 ≤ k) : (1 : Int) ≤ k := by omega
theorem le_four {k : Nat} (h : k ≤ 4) : (k : Int) ≤ 4 := by omega
theorem Fr.num {h₀ h : Heap} {L : Addr} {x1 x2 c gl sg : Option Value} (F : Fr h₀ L h (fun y => if y = Str.ofString "numbers" then x1 else if y = Str.ofString "numbers" then x2 else if y = Str.ofString "count" then c else if y = Str.ofString "glyphs" then gl else (fun y => if y = Str.ofString "segments" then sg else none) y)) :
    Fr h₀ L h (fun y => if y = Str.ofString "one" then none else if y = Str.ofString "nth" then none else if y = Str.ofString "numbers" then x1 else if y = Str.ofString "count" then c else if y = Str.ofString "glyphs" then gl else if y = Str.ofString "segments" then sg else none) := by
  refine (congrArg (Fr h₀ L h) (funext fun y => ?_)).mp F
  by_cases h1 : y = Str.ofString "one"
  · subst h1
    rw [if_pos rfl, if_neg (by decide), if_neg (by decide), if_neg (by decide), if_neg (by decide)]
    exact if_neg (by decide)
  · by_cases h2 : y = Str.ofString "nth"
    · subst h2
      rw [if_neg h1, if_pos rfl, if_neg (by decide), if_neg (by decide), if_neg (by decide), if_neg (by decide)]
      exact if_neg (by decide)
    · by_cases h3 : y = Str.ofString "numbers"
      · rw [if_pos h3, if_neg h1, if_neg h2, if_pos h3]
      · rw [if_neg h3, if_neg h3, if_neg h1, if_neg h2, if_neg h3]
/-- a list of i ints -/
def Ints (ys : List Value) (i : Nat) : Prop := ∃ ns, IntsAre ys ns ∧ ns.length = i
theorem Ints.nil : Ints [] 0 := ⟨[], .nil, rfl⟩
theorem Ints.snoc {ys : List Value} {i : Nat} {x : Int} {t : Tok} (h : Ints ys i) : Ints (ys ++ [.int x t]) (i + 1) := by
  obtain ⟨ns, a, b⟩ := h
  exact ⟨ns ++ [x], IntsAre.append a (.cons _ _ .nil), by rw [List.length_append, List.length_singleton, b]⟩
section
variable {prog : Program} {w : World} {A : Around} {h₀ : Heap} {L : Addr} {m : Str → Option Value} {env : Env} {elt : Expr} {x : Str} {scope : Scope} {cl : List (Str × Addr)} {s : Shared} {S : List (Addr × Obj) → Prop} {P : Nat → Value → Prop} {Fin : List Value → List (Addr × Obj) → Prop} {news : List (Addr × Obj)}
/-- a comprehension whose element changes nothing and gives an int -/
theorem comp_keep {n : Nat} (turn : ∀ i v I oI C oC D m₂ ys h tk (E' : Value → Shared → Prop), i < n → P i v → Ints ys i → LCg.NsObj oC m₂ → m₂ x = some v → Fr h₀ L h m → News h₀ L h ((I, oI) :: (C, oC) :: (D, LCg.lst ys) :: news) → LCg.Off3 I C D news → Ne3 I C D →
      wpAny (model prog w) A (eval elt (compEnvC scope cl C env)) (LCg.CompEnd h₀ L m { s with heap := h, toks := tk } I oI C oC D (LCg.lst ys) S (fun y news' => news' = news ∧ Ints (ys ++ [y]) (i + 1))) E' { s with heap := h, toks := tk })
    (fin : ∀ ys, Ints ys n → Fin ys news) : LCg.CompRest prog w A h₀ L m env elt x scope cl s S P Fin n 0 [] news := by
  refine comp_rest (fun i ys nw => nw = news ∧ Ints ys i) ⟨rfl, Ints.nil⟩ ?_ (fun ys nw h => by obtain ⟨rfl, h⟩ := h; exact fin ys h)
  rintro i v I oI C oC D m₂ ys nw h tk E' hi hP ⟨rfl, hy⟩ hC hx F N off ne
  exact turn i v I oI C oC D m₂ ys h tk E' hi hP hy hC hx F N off ne
end
section
variable {w : World} {mean : ExcName → Option Value} {mg mb : Str → Option Value} {dp un : Nat} {gd : Option (List Code)} {cn : Str} {cs : Scope} {a : Addr} {ccd : Value} {cl : List (Str × Addr)} {outer : List Env} {A₀ : Around} {base h₀ : Heap} {L : Addr} {m : Str → Option Value} {s : Shared} {Q E : Value → Shared → Prop}
   (B : Below A₀ base outer h₀) (F : Fr h₀ L s.heap m) (X : (heapK w.params).In h₀) (T : Top prgV (looseW prgV [Str.ofString "ShapeError"]) mean mg mb h₀) (hk : cs.kind = .function)
include B F X T hk
theorem rT44_1 : True := by
  k_with "eval ListComp" => (k_here; k_dflt (refine LCg.ListComp_U (F₀ := by k_asm) (by with_unfolding_all rfl) (by decide) (by rfl) (by decide) (by rfl) ?_))
  k_with "CompSrc" => (refine stopped ?_)
  k_with "execs cons" => (k_here; (with_reducible show wpAny _ _ (execs [_, _] _) _ _ _); refine stopped ?_)
  exact trivial
set_option maxRecDepth 100000 in
set_option maxHeartbeats 8000000 in
theorem numbers_spec {pen : Addr} {n c : Int} {t1 t2 : Tok} {k : Nat}
   (N : News h₀ L s.heap [(pen, W.listOf #[.int n t1, .int c t2] k)])
   (hd : dp + 20 < recursionLimit) (hu : un + 400 < cLine)
   (hn0 : 0 ≤ n) (hc0 : 0 ≤ c)
   (hret : ∀ T DN vs ns kN tc cnt n' c' t1' t2' k' h' tk', IntsAre vs ns → ns.length ≤ 60 → 1 ≤ cnt → cnt ≤ 4 → 0 ≤ n' → 0 ≤ c' → Kept s.heap h' [pen] → h'.get? pen = some (W.listOf #[.int n' t1', .int c' t2'] k') →
      h'.get? T = some ({ cls := .type "tuple", data := .seq #[.ref DN, .int cnt tc] } : Obj) → h'.get? DN = some (W.listOf vs.toArray kN) → s.heap.get? T = none → s.heap.get? DN = none → (@Ne Nat T DN) → Q (.ref T) { s with heap := h', toks := tk' }) :
   wpAny (model Challenge.rw_nu0154_01.row.prog w) (ktrTop dp un gd cn cs L a ccd cl outer) (call (.ref 235) [.ref pen]) Q E s := by
  revert X; k_fill; intro X
  refine wpAny_call ?_
  k_dflt (walk_at "M enterC0")
  intro g1 L1 hh1 tk1 cells1 K1 G1 FG1 F1 N1 Y1 B1 X1 T1 l1 l2
  k_lt l1
  k_cells Y1
  (try simp only [List.cons_append, List.nil_append] at N1)
  replace F1 : Fr g1 L1 hh1 (fun y => none) := F1
  dsimp only
  k_lift B1
  try k_fold
  k_steps
  refine Stop.go ?_
  rename_i oc dcell n2 c2 t12 t22 k2 hh2 tk2 n20 c20 qk0 ek0 hh3 F4 N4 hh5 tk5 t51 u51 v51 rg5 F5 N5 kp5
  refine LCg.CompSrc.range (n := (d' - 0).toNat) (by rfl) F5 N5 rg5 ?sm ?sz (by rw [PySem.sizeLine_eq]; omega) ?_
  case sm => exact small_one (by omega) (by omega) (by omega) (by omega)
  case sz => exact rangeSize_nat _ _
  intro g'
  refine comp_rest (fun i ys nw => ∃ n8 c8 t18 t28 k8, nw = (D', W.listOf vs'.toArray kD') :: (L1 + 1, oc) :: (pen, W.listOf #[.int n8 t18, .int c8 t28] k8) :: tl' ∧ 0 ≤ n8 ∧ 0 ≤ c8 ∧ ∃ ns, IntsAre ys ns ∧ ns.length = i) ?_ ?_ ?_
  · exact ⟨_, _, _, _, _, rfl, n0, c0, [], .nil, rfl⟩
  · intro i v I oI C oC' D2 m₂ ys nw h tk E' hi hv hJ hC' hx F3 N3 off ne
    obtain ⟨n', c', t1', t2', k', rfl, n40, c40, ns, hy, hyl⟩ := hJ
    obtain ⟨t9, rfl⟩ := hv
    clear F4 N4 F5 N5 rg5 kp5
    try k_fold
    k_steps
    rename Fr g1 L1 _ _ => F9
    rename News g1 L1 _ _ => N9
    exact LCg.CompEnd.intro F9 N9 (_ :: _ :: _ :: tl') (fun p hp => List.mem_cons_of_mem _ hp) off trivial ⟨_, _, _, _, _, rfl, by assumption, by assumption, ns ++ [_], IntsAre.append hy (.cons _ _ .nil), by rw [List.length_append, List.length_singleton, hyl]⟩
  · intro ys nw hJ
    obtain ⟨n', c', t1', t2', k', rfl, n40, c40, ns, hy, hyl⟩ := hJ
    clear F4 N4 F5 N5 rg5 kp5
    have vl := da'.length
    k_steps
    rename _ ∧ _ ∧ _ ∧ LCg.Off1 _ tl' => oG
    refine Stop.go ?_
    refine LCg.CompSrc.ledger (by rfl) (by k_asm) (by k_asm) (by k_mem) (by rw [PySem.sizeLine_eq, List.size_toArray]; omega) ?_
    intro g2
    refine comp_keep ?_ ?_
    · intro i v I oI C oC' D2 m₂ ys2 h tk E' hi hv hy2 hC' hx F3 N3 off ne
      rw [List.getElem?_toArray] at hv
      obtain ⟨a9, x9, y9, z9, u9, tx, ty, tz, tu, kk, rfl, hm9, b9⟩ := segd_at da' sg' hv
      have N4 : News g1 L1 h ((a9, _) :: _) := fun p hp => (List.mem_cons.mp hp).elim (fun e => e ▸ N3 _ (by repeat (first | exact hm9 | refine List.Mem.tail _ ?_))) (N3 p)
      clear N3
      try k_fold
      k_steps
      rename Fr g1 L1 _ _ => F9
      rename News g1 L1 _ _ => N9
      exact LCg.CompEnd.intro F9 N9 _ (fun p hp => List.mem_cons_of_mem _ hp) off (.inr ⟨W.listOf vs'.toArray kD', by k_mem, rfl, _, rfl⟩) ⟨rfl, Ints.snoc hy2⟩
    · intro ys2 hy2
      obtain ⟨ns2, hns2, hl2⟩ := hy2
      rw [List.size_toArray, vl] at hl2
      k_steps
      refine Stop.go ?_
      refine LCg.CompSrc.ledger (by rfl) (by k_asm) (by k_asm) (by k_mem) (by rw [PySem.sizeLine_eq, List.size_toArray]; omega) ?_
      intro g3
      refine comp_keep ?_ ?_
      · intro i v I oI C oC' D2 m₂ ys2 h tk E' hi hv hy2 hC' hx F3 N3 off ne
        rw [List.getElem?_toArray] at hv
        obtain ⟨a9, x9, y9, z9, u9, tx, ty, tz, tu, kk, rfl, hm9, b9⟩ := segd_at da' sg' hv
        have N4 : News g1 L1 h ((a9, _) :: _) := fun p hp => (List.mem_cons.mp hp).elim (fun e => e ▸ N3 _ (by repeat (first | exact hm9 | refine List.Mem.tail _ ?_))) (N3 p)
        clear N3
        try k_fold
        k_steps
        rename Fr g1 L1 _ _ => F9
        rename News g1 L1 _ _ => N9
        exact LCg.CompEnd.intro F9 N9 _ (fun p hp => List.mem_cons_of_mem _ hp) off (.inr ⟨W.listOf vs'.toArray kD', by k_mem, rfl, _, rfl⟩) ⟨rfl, Ints.snoc hy2⟩
      · intro ys3 hy3
        obtain ⟨ns3, hns3, hl3⟩ := hy3
        rw [List.size_toArray, vl] at hl3
        k_steps
        refine Stop.go ?_
        refine LCg.CompSrc.ledger (by rfl) (by k_asm) (by k_asm) (by k_mem) (by rw [PySem.sizeLine_eq, List.size_toArray]; omega) ?_
        intro g4
        refine comp_keep ?_ ?_
        · intro i v I oI C oC' D2 m₂ ys2 h tk E' hi hv hy2 hC' hx F3 N3 off ne
          rw [List.getElem?_toArray] at hv
          obtain ⟨a9, x9, y9, z9, u9, tx, ty, tz, tu, kk, rfl, hm9, b9⟩ := segd_at da' sg' hv
          have N4 : News g1 L1 h ((a9, _) :: _) := fun p hp => (List.mem_cons.mp hp).elim (fun e => e ▸ N3 _ (by repeat (first | exact hm9 | refine List.Mem.tail _ ?_))) (N3 p)
          clear N3
          try k_fold
          k_steps
          rename Fr g1 L1 _ _ => F9
          rename News g1 L1 _ _ => N9
          exact LCg.CompEnd.intro F9 N9 _ (fun p hp => List.mem_cons_of_mem _ hp) off (.inr ⟨W.listOf vs'.toArray kD', by k_mem, rfl, _, rfl⟩) ⟨rfl, Ints.snoc hy2⟩
        · intro ys4 hy4
          obtain ⟨ns4, hns4, hl4⟩ := hy4
          rw [List.size_toArray, vl] at hl4
          k_steps
          refine Stop.go ?_
          rename Fr g1 L1 _ _ => F9
          rename News g1 L1 _ _ => N9
          rename IntsAre _ (_ ++ _) => hI9
          have F8 := Fr.num F9
          rename _ ∧ _ ∧ _ ∧ _ ∧ _ ∧ _ ∧ _ ∧ _ ∧ _ ∧ _ ∧ _ ∧ _ ∧ AllLt _ tl' => lt9
          obtain ⟨_, _, _, _, _, _, _, _, p9, p10, p11, p12, p13⟩ := lt9
          have f5 := le_five hyl d1
          have fl := le_len (a := 16 + 8 * (ds'.length : Int) + 2 * (ns.length : Int)) (b := 2 * (ds'.length : Int)) hl2 hl3 hl4 q2'
          have fe := ge_one q1'
          have ff := le_four q2'
          have nlp : @Ne Nat (L1 + 1) pen := Nat.ne_of_gt (Nat.lt_succ_of_lt l1)
          refine wpAny_mono (numbers_tail (pen := pen) (oc := oc) (kD := kD') (kN := 0) (kG := ys.length) (n := n') (c := c') (t1 := t1') (t2 := t2') (k := k') (vN := _) (vG := ys) (tl := tl') B1 X1 T1 F8 (fun p hp => N9 p ?_) ⟨Nat.ne_of_gt p9, Nat.ne_of_gt p10, Nat.ne_of_gt p11, Nat.ne_of_gt p12, oG.1.symm, oG.2.1.symm, oG.2.2.1.symm, o1'.1.symm, o1'.2.1.symm, nlp⟩ (ownOff_cons (allLt_ne p13) (ownOff_cons (off1_ne oG.2.2.2) oo')) hd hu hI9 hy da' sg' (Nat.le_trans fl (by decide)) f5 ⟨q1', q2'⟩ ?_) (fun _ _ h => h) (fun _ _ h => h.elim)
          · rcases List.mem_cons.mp hp with rfl | hp
            · exact .head _
            · rcases List.mem_cons.mp hp with rfl | hp
              · k_mem
              · repeat (first | exact hp | refine List.Mem.tail _ ?_)
          · intro T' DN' vs' ns' kN' tc' h' tk' m' hi' hl' F7 N7 lt7
            refine leaveK_ F7 News.nil fun _ _ => ?_
            have nP : ∀ b, @LT.lt Nat _ pen b → b ∉ List.map (fun x : Addr × Obj => x.1) [(pen, W.listOf #[Value.int n t1, Value.int c t2] k)] := fun b q hm => by
              have e : b = pen := List.mem_singleton.mp hm
              rw [e] at q
              exact Nat.lt_irrefl _ q
            exact hret T' DN' vs' ns' kN' tc' _ _ _ _ _ _ _ _ hi' (le_all hl' fl q2' f5) fe ff n40 c40 (Kept.out K1 F7) (News.get N7 (.tail _ (.tail _ (.head _)))) (News.get N7 (.head _)) (News.get N7 (.tail _ (.head _))) (Kept.fresh K1 (N7 _ (.head _)).2.2 (nP _ lt7.2.2)) (Kept.fresh K1 (N7 _ (.tail _ (.head _))).2.2 (nP _ lt7.2.1)) (Nat.ne_of_gt lt7.1)
theorem numbers_use {pen : Addr} {n c : Int} {t1 t2 : Tok} {k : Nat} {news : List (Addr × Obj)} {g : Obj → List (Addr × Obj)}
   (N : News h₀ L s.heap news) (U : UpdF pen (W.listOf #[.int n t1, .int c t2] k) news g)
   (hd : dp + 20 < recursionLimit) (hu : un + 400 < cLine)
   (hn0 : 0 ≤ n) (hc0 : 0 ≤ c)
   (hret : ∀ T DN vs ns kN tc cnt n' c' t1' t2' k' h' tk', IntsAre vs ns → ns.length ≤ 60 → 1 ≤ cnt → cnt ≤ 4 → 0 ≤ n' → 0 ≤ c' → Fr h₀ L h' m →
      News h₀ L h' ((T, ({ cls := .type "tuple", data := .seq #[.ref DN, .int cnt tc] } : Obj)) :: (DN, W.listOf vs.toArray kN) :: g (W.listOf #[.int n' t1', .int c' t2'] k')) → LCg.Off1 T news → LCg.Off1 DN news → NeA T DN → Q (.ref T) { s with heap := h', toks := tk' }) :
   wpAny (model Challenge.rw_nu0154_01.row.prog w) (ktrTop dp un gd cn cs L a ccd cl outer) (call (.ref 235) [.ref pen]) Q E s := by
  refine numbers_spec B F X T hk (UpdF.only N U) hd hu hn0 hc0 fun T' DN vs ns kN tc cnt n' c' t1' t2' k' h' tk' a1 a2 a3 a4 a5 a6 kp e eT eD nT nD nTD => ?_
  obtain ⟨F', N'⟩ := Kept.updF F N U kp e
  refine hret T' DN vs ns kN tc cnt n' c' t1' t2' k' h' tk' a1 a2 a3 a4 a5 a6 F' ?_ (News.all_ne N nT) (News.all_ne N nD) ⟨nTD⟩
  have N2 := News.cons_new F N' eD nD
  exact News.cons_new F N2 eT nT
end
end
section
theorem rT2_0 : True := by
  k_with_none
  k_with "ne" => (refine neN ?_; (try dsimp only); first | with_reducible assumption | exact Ne.symm (by with_reducible assumption) | exact off_ne (by with_reducible assumption) (by k_mem) | exact Ne.symm (off_ne (by with_reducible assumption) (by k_mem)) | exact off_i (by with_reducible assumption) (by k_mem) | exact off_c (by with_reducible assumption) (by k_mem) | exact off_d (by with_reducible assumption) (by k_mem) | exact Ne.symm (off_i (by with_reducible assumption) (by k_mem)) | exact Ne.symm (off_c (by with_reducible assumption) (by k_mem)) | exact Ne.symm (off_d (by with_reducible assumption) (by k_mem)) | exact Ne3.a (by with_reducible assumption) | exact Ne3.b (by with_reducible assumption) | exact Ne3.c (by with_reducible assumption) | exact Ne.symm (Ne3.a (by with_reducible assumption)) | exact Ne.symm (Ne3.b (by with_reducible assumption)) | exact Ne.symm (Ne3.c (by with_reducible assumption)) | exact NeA.ne (by with_reducible assumption) | exact Ne.symm (NeA.ne (by with_reducible assumption)) | exact Nat.ne_of_lt (by with_reducible assumption) | exact Nat.ne_of_gt (by with_reducible assumption) | exact Nat.ne_of_lt (And.left (by with_reducible assumption)) | exact Nat.ne_of_gt (And.left (by with_reducible assumption)) | exact Nat.ne_of_lt (And.left (And.right (by with_reducible assumption))) | exact Nat.ne_of_gt (And.left (And.right (by with_reducible assumption))) | exact Nat.ne_of_lt (And.right (by with_reducible assumption)) | exact Nat.ne_of_gt (And.right (by with_reducible assumption)) | exact Nat.ne_of_lt (And.right (And.right (by with_reducible assumption))) | exact Nat.ne_of_gt (And.right (And.right (by with_reducible assumption))) | exact Nat.ne_of_lt (And.left (And.right (And.right (by with_reducible assumption)))) | exact Nat.ne_of_gt (And.left (And.right (And.right (by with_reducible assumption)))))
  k_with "M enter" => (refine' enterM ?k1z9 ?k2z9 ?k3z9 ?k4z9 ?k5z9 ?kAz9 ?kFz9 ?kKz9 ?k6z9 ?k7z9 ?k8z9 ?k9z9 ?kBz9 ?_ ?c2z9 ?c3z9 ?c4z9 ?c5z9; (case kAz9 => exact rfl); (case kFz9 => exact rfl); (case kKz9 => assumption); (case k1z9 => k_asm); (case k2z9 => k_asm); (case k3z9 => k_asm); (case k4z9 => k_asm); (case k5z9 => k_asm); (case k6z9 => k_is); (case k7z9 => k_is); (case k8z9 => ktr_room); (case k9z9 => first | exact BindsTo.of_eq rfl | exact binds_K (by k_in) rfl (by k_is) rfl rfl rfl); (case c5z9 => decide); (case kBz9 => exact locs rfl); (case c2z9 => exact rfl); (case c3z9 => exact rfl); (case c4z9 => exact rfl); k_whole; intro g' L' h' tk' K' G' FG' F' N' B' X' T' l1 l2; (try k_lt l1); (try dsimp only); (try k_lift B'); (try k_fold))
  k_with "M enter0" => (refine' enterM ?k1z9 ?k2z9 ?k3z9 ?k4z9 ?k5z9 ?kAz9 ?kFz9 ?kKz9 ?k6z9 ?k7z9 ?k8z9 ?k9z9 ?kBz9 ?_ ?c2z9 ?c3z9 ?c4z9 ?c5z9; (case kAz9 => exact rfl); (case kFz9 => exact rfl); (case kKz9 => assumption); (case k1z9 => k_asm); (case k2z9 => k_asm); (case k3z9 => k_asm); (case k4z9 => k_asm); (case k5z9 => k_asm); (case k6z9 => k_is); (case k7z9 => k_is); (case k8z9 => ktr_room); (case k9z9 => first | exact BindsTo.of_eq rfl | exact binds_K (by k_in) rfl (by k_is) rfl rfl rfl); (case c5z9 => decide); (case kBz9 => exact locs rfl); (case c2z9 => exact rfl); (case c3z9 => exact rfl); (case c4z9 => exact rfl); k_whole)
  k_with "M ar" => (first | with_reducible assumption | decide | omega | (simp [List.getD]; done) | (simp [List.getD]; omega))
  k_with "M keep" => (rename Kept _ _ [] => K7; (have F' := Kept.fr (by k_asm) K7); (have N' := Kept.news (by k_asm) K7); clear K7; (try dsimp only); (try k_sweep))
  k_with "M enterC" => (refine' enterMC ?k1z9 ?k2z9 ?k3z9 ?k4z9 ?k5z9 ?kAz9 ?kFz9 ?kKz9 ?k6z9 ?k7z9 ?k8z9 ?k9z9 ?kBz9 ?kDz9 ?_ ?c2z9 ?c3z9 ?c4z9; (case kAz9 => exact rfl); (case kFz9 => exact rfl); (case kKz9 => assumption); (case k1z9 => k_asm); (case k2z9 => k_asm); (case k3z9 => k_asm); (case k4z9 => k_asm); (case k5z9 => k_asm); (case k6z9 => k_is); (case k7z9 => k_is); (case k8z9 => ktr_room); (case k9z9 => first | exact BindsTo.of_eq rfl | exact binds_K (by k_in) rfl (by k_is) rfl rfl rfl); (case kBz9 => exact rfl); (case kDz9 => decide +kernel); (case c2z9 => exact rfl); (case c3z9 => exact rfl); (case c4z9 => exact rfl); k_whole; intro g' L' h' tk' cells' K' G' FG' F' N' Y' B' X' T' l1 l2; (try k_lt l1); k_cells Y'; (try simp only [List.cons_append, List.nil_append] at N'); (try dsimp only); (try k_lift B'); (try k_fold))
  k_with "M enterC0" => (refine' enterMC ?k1z9 ?k2z9 ?k3z9 ?k4z9 ?k5z9 ?kAz9 ?kFz9 ?kKz9 ?k6z9 ?k7z9 ?k8z9 ?k9z9 ?kBz9 ?kDz9 ?_ ?c2z9 ?c3z9 ?c4z9; (case kAz9 => exact rfl); (case kFz9 => exact rfl); (case kKz9 => assumption); (case k1z9 => k_asm); (case k2z9 => k_asm); (case k3z9 => k_asm); (case k4z9 => k_asm); (case k5z9 => k_asm); (case k6z9 => k_is); (case k7z9 => k_is); (case k8z9 => ktr_room); (case k9z9 => first | exact BindsTo.of_eq rfl | exact binds_K (by k_in) rfl (by k_is) rfl rfl rfl); (case kBz9 => exact rfl); (case kDz9 => decide +kernel); (case c2z9 => exact rfl); (case c3z9 => exact rfl); (case c4z9 => exact rfl); k_whole)
  exact trivial
section
variable {w : World} {mean : ExcName → Option Value} {mg mb : Str → Option Value} {dp un : Nat} {gd : Option (List Code)} {cn : Str} {cs : Scope} {a : Addr} {ccd : Value} {cl : List (Str × Addr)} {outer : List Env} {A₀ : Around} {base h₀ : Heap} {L : Addr} {m : Str → Option Value} {s : Shared} {Q E : Value → Shared → Prop}
   (B : Below A₀ base outer h₀) (F : Fr h₀ L s.heap m) (X : (heapK w.params).In h₀) (T : Top prgV (looseW prgV [Str.ofString "ShapeError"]) mean mg mb h₀) (hk : cs.kind = .function)
include B F X T hk
set_option maxRecDepth 100000 in
set_option maxHeartbeats 8000000 in
theorem u16_spec {b : Array UInt8} {ks : List Int} {t1 t2 : Tok} {i : Int}
   (hd : dp + 1 < recursionLimit) (hu : un + 8 < cLine)
   (hb : KBw.bInts b = ks) (hfit : ks.length ≤ 100000) (hi : 0 ≤ i)
   (hret1 : i + 2 ≤ ks.length → ∀ t h' tk', Kept s.heap h' [] → Q (.int (n2 ks i) t) { s with heap := h', toks := tk' })
   (hret2 : ¬ (i + 2 ≤ ks.length) → ∀ h' tk', Kept s.heap h' [] → Q .none { s with heap := h', toks := tk' }) :
   wpAny (model Challenge.rw_nu0154_01.row.prog w) (ktrTop dp un gd cn cs L a ccd cl outer) (call (.ref 249) [.bytes b t1, .int i t2]) Q E s := by
  have N : News h₀ L s.heap [] := News.nil
  revert X; k_fill; intro X
  refine wpAny_call ?_
  k_dflt (walk_at "M enter")
  k_steps
  · exact hret1 (by omega) _ _ _ (Kept.out (by assumption) (by assumption))
  · exact hret2 (by omega) _ _ (Kept.out (by assumption) (by assumption))
end
end
section
theorem rT33_0 : True := by
  k_with_none
  k_with "ne" => (refine neN ?_; (try dsimp only); first | with_reducible assumption | exact Ne.symm (by with_reducible assumption) | exact off_ne (by with_reducible assumption) (by k_mem) | exact Ne.symm (off_ne (by with_reducible assumption) (by k_mem)) | exact off_i (by with_reducible assumption) (by k_mem) | exact off_c (by with_reducible assumption) (by k_mem) | exact off_d (by with_reducible assumption) (by k_mem) | exact Ne.symm (off_i (by with_reducible assumption) (by k_mem)) | exact Ne.symm (off_c (by with_reducible assumption) (by k_mem)) | exact Ne.symm (off_d (by with_reducible assumption) (by k_mem)) | exact Ne3.a (by with_reducible assumption) | exact Ne3.b (by with_reducible assumption) | exact Ne3.c (by with_reducible assumption) | exact Ne.symm (Ne3.a (by with_reducible assumption)) | exact Ne.symm (Ne3.b (by with_reducible assumption)) | exact Ne.symm (Ne3.c (by with_reducible assumption)) | exact NeA.ne (by with_reducible assumption) | exact Ne.symm (NeA.ne (by with_reducible assumption)) | exact Nat.ne_of_lt (by with_reducible assumption) | exact Nat.ne_of_gt (by with_reducible assumption) | exact Nat.ne_of_lt (And.left (by with_reducible assumption)) | exact Nat.ne_of_gt (And.left (by with_reducible assumption)) | exact Nat.ne_of_lt (And.left (And.right (by with_reducible assumption))) | exact Nat.ne_of_gt (And.left (And.right (by with_reducible assumption))) | exact Nat.ne_of_lt (And.right (by with_reducible assumption)) | exact Nat.ne_of_gt (And.right (by with_reducible assumption)) | exact Nat.ne_of_lt (And.right (And.right (by with_reducible assumption))) | exact Nat.ne_of_gt (And.right (And.right (by with_reducible assumption))) | exact Nat.ne_of_lt (And.left (And.right (And.right (by with_reducible assumption)))) | exact Nat.ne_of_gt (And.left (And.right (And.right (by with_reducible assumption)))))
  k_with "M enter" => (refine' enterM ?k1z9 ?k2z9 ?k3z9 ?k4z9 ?k5z9 ?kAz9 ?kFz9 ?kKz9 ?k6z9 ?k7z9 ?k8z9 ?k9z9 ?kBz9 ?_ ?c2z9 ?c3z9 ?c4z9 ?c5z9; (case kAz9 => exact rfl); (case kFz9 => exact rfl); (case kKz9 => assumption); (case k1z9 => k_asm); (case k2z9 => k_asm); (case k3z9 => k_asm); (case k4z9 => k_asm); (case k5z9 => k_asm); (case k6z9 => k_is); (case k7z9 => k_is); (case k8z9 => ktr_room); (case k9z9 => first | exact BindsTo.of_eq rfl | exact binds_K (by k_in) rfl (by k_is) rfl rfl rfl); (case c5z9 => decide); (case kBz9 => exact locs rfl); (case c2z9 => exact rfl); (case c3z9 => exact rfl); (case c4z9 => exact rfl); k_whole; intro g' L' h' tk' K' G' FG' F' N' B' X' T' l1 l2; (try k_lt l1); (try dsimp only); (try k_lift B'); (try k_fold))
  k_with "M enter0" => (refine' enterM ?k1z9 ?k2z9 ?k3z9 ?k4z9 ?k5z9 ?kAz9 ?kFz9 ?kKz9 ?k6z9 ?k7z9 ?k8z9 ?k9z9 ?kBz9 ?_ ?c2z9 ?c3z9 ?c4z9 ?c5z9; (case kAz9 => exact rfl); (case kFz9 => exact rfl); (case kKz9 => assumption); (case k1z9 => k_asm); (case k2z9 => k_asm); (case k3z9 => k_asm); (case k4z9 => k_asm); (case k5z9 => k_asm); (case k6z9 => k_is); (case k7z9 => k_is); (case k8z9 => ktr_room); (case k9z9 => first | exact BindsTo.of_eq rfl | exact binds_K (by k_in) rfl (by k_is) rfl rfl rfl); (case c5z9 => decide); (case kBz9 => exact locs rfl); (case c2z9 => exact rfl); (case c3z9 => exact rfl); (case c4z9 => exact rfl); k_whole)
  k_with "M ar" => (first | with_reducible assumption | decide | omega | (simp [List.getD]; done) | (simp [List.getD]; omega))
  k_with "M keep" => (rename Kept _ _ [] => K7; (have F' := Kept.fr (by k_asm) K7); (have N' := Kept.news (by k_asm) K7); clear K7; (try dsimp only); (try k_sweep))
  k_with "M enterC" => (refine' enterMC ?k1z9 ?k2z9 ?k3z9 ?k4z9 ?k5z9 ?kAz9 ?kFz9 ?kKz9 ?k6z9 ?k7z9 ?k8z9 ?k9z9 ?kBz9 ?kDz9 ?_ ?c2z9 ?c3z9 ?c4z9; (case kAz9 => exact rfl); (case kFz9 => exact rfl); (case kKz9 => assumption); (case k1z9 => k_asm); (case k2z9 => k_asm); (case k3z9 => k_asm); (case k4z9 => k_asm); (case k5z9 => k_asm); (case k6z9 => k_is); (case k7z9 => k_is); (case k8z9 => ktr_room); (case k9z9 => first | exact BindsTo.of_eq rfl | exact binds_K (by k_in) rfl (by k_is) rfl rfl rfl); (case kBz9 => exact rfl); (case kDz9 => decide +kernel); (case c2z9 => exact rfl); (case c3z9 => exact rfl); (case c4z9 => exact rfl); k_whole; intro g' L' h' tk' cells' K' G' FG' F' N' Y' B' X' T' l1 l2; (try k_lt l1); k_cells Y'; (try simp only [List.cons_append, List.nil_append] at N'); (try dsimp only); (try k_lift B'); (try k_fold))
  k_with "M enterC0" => (refine' enterMC ?k1z9 ?k2z9 ?k3z9 ?k4z9 ?k5z9 ?kAz9 ?kFz9 ?kKz9 ?k6z9 ?k7z9 ?k8z9 ?k9z9 ?kBz9 ?kDz9 ?_ ?c2z9 ?c3z9 ?c4z9; (case kAz9 => exact rfl); (case kFz9 => exact rfl); (case kKz9 => assumption); (case k1z9 => k_asm); (case k2z9 => k_asm); (case k3z9 => k_asm); (case k4z9 => k_asm); (case k5z9 => k_asm); (case k6z9 => k_is); (case k7z9 => k_is); (case k8z9 => ktr_room); (case k9z9 => first | exact BindsTo.of_eq rfl | exact binds_K (by k_in) rfl (by k_is) rfl rfl rfl); (case kBz9 => exact rfl); (case kDz9 => decide +kernel); (case c2z9 => exact rfl); (case c3z9 => exact rfl); (case c4z9 => exact rfl); k_whole)
  exact trivial
section
variable {prog : Program} {w : World} {A : Around} {E : Value → Shared → Prop} {s : Shared} {h₀ : Heap} {L : Addr} {m : Str → Option Value} {env : Env} {K : Type} [DecidableEq K] {knd : KeyKind prog w K}
open LCg LCt
/-- what a comprehension with one test asks of its source, a dict -/
def CompSrcD (knd : KeyKind prog w K) (A : Around) (h₀ : Heap) (L : Addr) (m : Str → Option Value) (env : Env) (ct elt : Expr) (x : Str) (scope : Scope) (cl : List (Str × Addr)) (Q : Value → Shared → Prop) (xv : Value) (s₁ : Shared) : Prop :=
  ∃ d od kvs news, xv = .ref d ∧ A.handled = none ∧ Fr h₀ L s₁.heap m ∧ News h₀ L s₁.heap news ∧ (d, od) ∈ news ∧ od.IsDictOf knd kvs ∧ (d == sysModules) = false ∧ kvs.length ≤ sizeLine ∧
    ∀ g, CompRestT prog w A h₀ L m env ct elt x scope cl { s₁ with heap := g } (fun nw => (d, od) ∈ nw) (fun i v => ∃ k y, kvs[i]? = some (k, y) ∧ knd.is k v = true) (FinE h₀ L m { s₁ with heap := g } Q) kvs.length 0 [] news
theorem listComp_dict {ct elt iter : Expr} {x : Str} {px : Pos} {scope : Scope} {cl : List (Str × Addr)} {pos : Pos} {Q : Value → Shared → Prop}
    (hclos : closureFor scope env = pure cl) (hcell : ∀ y ∈ scope.names, y.2 ≠ .cell) (hkind : scope.kind = .function)
    (hnames : ∀ y ∈ scope.names, y.2 = .local → scope.names.lookup y.1 = some .local) (hx : scope.names.lookup x = some .local)
    (h : wpAny (model prog w) A (eval iter env) (CompSrcD knd A h₀ L m env ct elt x scope cl Q) E s)
    (hs : ∀ x, foldedSetIterable iter env x = pure x := by intro _; rfl) :
    wpAny (model prog w) A (eval (.ListComp elt [⟨.Name x px, iter, [ct], 0⟩] scope pos) env) Q E s := by
  rw [eval_ListComp]
  refine wpAny_comprehension_free (use := none) rfl hs hclos hkind hnames (wpAny_mono h (fun xv s₁ h₁ => ?_) fun _ _ e => e)
  obtain ⟨d, od, kvs, news, rfl, hh, F, N, hm, ho, hlo, hsz, R⟩ := h₁
  obtain ⟨es, ep, hrest⟩ := ho
  have hat : s₁.heap.DictAt knd d kvs ep := ⟨od, es, (N _ hm).1, hrest⟩
  have hlt : d < s₁.heap.objs.size := Heap.lt_size (N _ hm).1
  have hne : d ≠ s₁.heap.objs.size := Nat.ne_of_lt hlt
  refine wpAny_pyIter_dict hlo hat ?_
  have up : ∀ b o, s₁.heap.get? b = some o → (s₁.heap.push { cls := .type "dict_keyiterator", data := .fields #[.ref d, .int 0 0, .int kvs.length 0, .int ep 0] }).get? b = some o := fun b o e => Heap.get?_push_of_some _ e
  refine block_T (S := fun nw => (d, od) ∈ nw) (Walks.dictKeys (knd := knd) hh s₁.heap.objs.size d hne kvs ep) hsz (fun i h st => by obtain ⟨o, e, _⟩ := st.1; exact ⟨o, e⟩) (fun i h h' o nw st e e' _ N2 S => ⟨?_, od, es, (N2 _ S).1, hrest⟩) hcell hkind hx ⟨⟨_, Heap.get?_push_size _ rfl, rfl, rfl⟩, hat.push _⟩ (fun b hb => ?_)
    (F.keeps up) (N.grown up) (Nat.ne_of_lt F.ns.lt) (next_is_new F) (fun p hp => Nat.ne_of_lt (Heap.lt_size (N p hp).1)) hm (R _) ?_
  · obtain ⟨o', q, r⟩ := st.1
    rw [e] at q; cases q
    exact ⟨o, e', r⟩
  · show b < (s₁.heap.push _).objs.size
    rw [Heap.size_push]
    rcases List.mem_cons.mp hb with rfl | hb
    · exact Nat.lt_succ_self _
    · rw [List.mem_singleton.mp hb]; exact Nat.lt_succ_of_lt hlt
  · intro D C h' tk m' ys news' F' N' o1 hn hC₀ hD₀ hCL hDL hCD offC fin
    refine ⟨m', hn, fun h'' hs'' => fin D h'' tk (F'.change hs'' hCL hC₀) (fun p hp => ?_) o1⟩
    refine ⟨hs''.extBut _ _ ?_ (N' p hp).1, (N' p hp).2⟩
    rcases List.mem_cons.mp hp with rfl | hp
    · exact Ne.symm hCD
    · exact offC p hp
end
section
variable {prog : Program} {w : World} {A : Around} {h₀ : Heap} {L : Addr} {m : Str → Option Value} {env : Env} {ct elt : Expr} {x : Str} {scope : Scope} {cl : List (Str × Addr)} {s : Shared} {S : List (Addr × Obj) → Prop} {P : Nat → Value → Prop} {Fin : List Value → List (Addr × Obj) → Prop} {news : List (Addr × Obj)}
open LCg LCt
/-- the turns of a comprehension with one test, by an invariant -/
theorem comp_restT {n : Nat} (J : Nat → List Value → List (Addr × Obj) → Prop) (h0 : J 0 [] news)
    (turn : ∀ i v I oI C oC D m₂ ys nw h tk (E' : Value → Shared → Prop), i < n → P i v → J i ys nw → LCg.NsObj oC m₂ → m₂ x = some v → Fr h₀ L h m → News h₀ L h ((I, oI) :: (C, oC) :: (D, LCg.lst ys) :: nw) → LCg.Off3 I C D nw → Ne3 I C D →
      wpAny (model prog w) A (isTrue ct (compEnvC scope cl C env) (eval ct (compEnvC scope cl C env))) (fun ok s' => if ok = true then
        wpAny (model prog w) A (eval elt (compEnvC scope cl C env)) (CompEnd h₀ L m { s with heap := h, toks := tk } I oI C oC D (lst ys) S (fun y news' => J (i + 1) (ys ++ [y]) news')) E' s'
        else CompEnd h₀ L m { s with heap := h, toks := tk } I oI C oC D (lst ys) S (fun _ news' => J (i + 1) ys news') Value.none s') E' { s with heap := h, toks := tk })
    (fin : ∀ ys nw, J n ys nw → Fin ys nw) : LCt.CompRestT prog w A h₀ L m env ct elt x scope cl s S P Fin n 0 [] news := by
  have key : ∀ (j i : Nat) (ys : List Value) (nw : List (Addr × Obj)), i + j = n → J i ys nw → LCt.CompRestT prog w A h₀ L m env ct elt x scope cl s S P Fin j i ys nw := by
    intro j
    induction j with
    | zero => intro i ys nw hi hj; have e : i = n := by omega
              subst e; exact LCt.CompRestT.zero (fin ys nw hj)
    | succ j ih =>
      intro i ys nw hi hj
      refine LCt.CompRestT.succ ?_
      intro v I oI C oC D m₂ h tk E' hv hC hx F N off ne
      refine wpAny_mono (turn i v I oI C oC D m₂ ys nw h tk E' (by omega) hv hj hC hx F N off ⟨ne.1, ne.2.1, ne.2.2⟩) (fun ok s₂ hq => ?_) fun _ _ e => e
      cases ok with
      | true =>
        simp only [if_true] at hq ⊢
        refine wpAny_mono hq (fun y s₃ hq => ?_) fun _ _ e => e
        obtain ⟨h', tk', nw', e, F', N', off', hS, hn⟩ := hq
        exact ⟨h', tk', nw', e, F', N', off', hS, ih (i + 1) _ _ (by omega) hn⟩
      | false =>
        simp only [Bool.false_eq_true, if_false] at hq ⊢
        obtain ⟨h', tk', nw', e, F', N', off', hS, hn⟩ := hq
        exact ⟨h', tk', nw', e, F', N', off', hS, ih (i + 1) _ _ (by omega) hn⟩
  exact key n 0 [] news (by omega) h0
end
theorem flat_at {kvs : List (Int × Value)} {c : List (Int × Int)} (hf : PyProof.V.FlatPairs PyData.int kvs (kdfD c)) {i : Nat} {k : Int} {y : Value} (h : kvs[i]? = some (k, y)) : ∃ v, c[i]? = some (k, v) := by
  obtain ⟨dv, hD, _⟩ := hf.at h
  unfold kdfD at hD
  rw [List.getElem?_map] at hD
  cases hc : c[i]? with
  | none => rw [hc] at hD; cases hD
  | some p =>
    rw [hc] at hD
    simp only [Option.map_some, Option.some.injEq, Prod.mk.injEq, PyData.int.injEq] at hD
    exact ⟨p.2, by rw [← hD.1]⟩
theorem flat_len {kvs : List (Int × Value)} {c : List (Int × Int)} (hf : PyProof.V.FlatPairs PyData.int kvs (kdfD c)) : kvs.length = c.length := by rw [← hf.length, kdfD_length]
theorem flat_keys {kvs : List (Int × Value)} {c : List (Int × Int)} (hf : PyProof.V.FlatPairs PyData.int kvs (kdfD c)) : kvs.map (·.1) = c.map (·.1) := by
  refine List.ext_getElem? fun i => ?_
  rw [List.getElem?_map, List.getElem?_map]
  cases hk : kvs[i]? with
  | none =>
    have : c[i]? = none := by
      rw [List.getElem?_eq_none_iff] at hk ⊢
      rw [← flat_len hf]; exact hk
    rw [this]; rfl
  | some p =>
    obtain ⟨v, e⟩ := flat_at hf (k := p.1) (y := p.2) (by rw [hk])
    rw [e]; rfl
theorem kdfHas_mem {c : List (Int × Int)} {k v : Int} (h : (k, v) ∈ c) : kdfHas c k = true := by
  unfold kdfHas
  rw [List.any_eq_true]
  exact ⟨_, h, by simp⟩
theorem kdfLook_mem {c : List (Int × Int)} {k v d : Int} (hn : (c.map (·.1)).Nodup) (h : (k, v) ∈ c) : kdfLook c k d = v := by
  induction c with
  | nil => cases h
  | cons p c ih =>
    rw [List.map_cons, List.nodup_cons] at hn
    unfold kdfLook
    rw [List.find?_cons]
    rcases List.mem_cons.mp h with rfl | h
    · simp
    · have : p.1 ≠ k := fun q => hn.1 (by rw [q]; exact List.mem_map_of_mem (f := (·.1)) h)
      rw [show decide (p.1 = k) = false by simp [this]]
      exact ih hn.2 h
/-- the pairs that a comprehension has made so far -/
def TupRel (tl : List (Addr × Obj)) (ys : List Value) (ps : List (Int × Int)) : Prop := ys.length = ps.length ∧ ∀ (j : Nat) v p, ys[j]? = some v → ps[j]? = some p → ∃ T tk tv o n, v = .ref T ∧ (T, o) ∈ tl ∧ o.cls = .type "tuple" ∧ o.data = .seq #[.int p.1 tk, .int p.2 tv] n
theorem TupRel.nil : TupRel [] [] [] := ⟨rfl, fun j v p h => by simp at h⟩
theorem TupRel.snoc {tl : List (Addr × Obj)} {ys : List Value} {ps : List (Int × Int)} {T : Addr} {k v : Int} {tk tv : Tok} {o : Obj} {n : Nat} (h : TupRel tl ys ps) (hc : o.cls = .type "tuple") (hd : o.data = .seq #[.int k tk, .int v tv] n) : TupRel ((T, o) :: tl) (ys ++ [.ref T]) (ps ++ [(k, v)]) := by
  refine ⟨by rw [List.length_append, List.length_append, h.1]; rfl, fun j v' p hv hp => ?_⟩
  rcases Nat.lt_or_ge j ys.length with hj | hj
  · rw [List.getElem?_append_left hj] at hv
    rw [List.getElem?_append_left (by rw [← h.1]; exact hj)] at hp
    obtain ⟨T', a, b, o', n', e, hm, r⟩ := h.2 j v' p hv hp
    exact ⟨T', a, b, o', n', e, List.mem_cons_of_mem _ hm, r⟩
  · rw [List.getElem?_append_right hj] at hv
    rw [List.getElem?_append_right (by rw [← h.1]; exact hj)] at hp
    rw [← h.1] at hp
    cases hq : j - ys.length with
    | zero =>
      rw [hq] at hv hp
      simp only [List.getElem?_cons_zero, Option.some.injEq] at hv hp
      subst hv; subst hp
      exact ⟨T, tk, tv, o, n, rfl, .head _, hc, hd⟩
    | succ q => rw [hq] at hv; simp at hv
def nz (p : Int × Int) : Bool := decide (p.2 ≠ 0)
theorem nz_yes {c : List (Int × Int)} {i : Nat} {k v : Int} (h : c[i]? = some (k, v)) (hv : v ≠ 0) : (c.take (i + 1)).filter nz = (c.take i).filter nz ++ [(k, v)] := by
  rw [List.take_add_one, h, List.filter_append]
  simp [nz, hv]
theorem nz_no {c : List (Int × Int)} {i : Nat} {k v : Int} (h : c[i]? = some (k, v)) (hv : v = 0) : (c.take (i + 1)).filter nz = (c.take i).filter nz := by
  rw [List.take_add_one, h, List.filter_append]
  simp [nz, hv]
end
section
theorem rT39_0 : True := by
  k_with_none
  k_with "ne" => (refine neN ?_; (try dsimp only); first | with_reducible assumption | exact Ne.symm (by with_reducible assumption) | exact off_ne (by with_reducible assumption) (by k_mem) | exact Ne.symm (off_ne (by with_reducible assumption) (by k_mem)) | exact off_i (by with_reducible assumption) (by k_mem) | exact off_c (by with_reducible assumption) (by k_mem) | exact off_d (by with_reducible assumption) (by k_mem) | exact Ne.symm (off_i (by with_reducible assumption) (by k_mem)) | exact Ne.symm (off_c (by with_reducible assumption) (by k_mem)) | exact Ne.symm (off_d (by with_reducible assumption) (by k_mem)) | exact Ne3.a (by with_reducible assumption) | exact Ne3.b (by with_reducible assumption) | exact Ne3.c (by with_reducible assumption) | exact Ne.symm (Ne3.a (by with_reducible assumption)) | exact Ne.symm (Ne3.b (by with_reducible assumption)) | exact Ne.symm (Ne3.c (by with_reducible assumption)) | exact NeA.ne (by with_reducible assumption) | exact Ne.symm (NeA.ne (by with_reducible assumption)) | exact Nat.ne_of_lt (by with_reducible assumption) | exact Nat.ne_of_gt (by with_reducible assumption) | exact Nat.ne_of_lt (And.left (by with_reducible assumption)) | exact Nat.ne_of_gt (And.left (by with_reducible assumption)) | exact Nat.ne_of_lt (And.left (And.right (by with_reducible assumption))) | exact Nat.ne_of_gt (And.left (And.right (by with_reducible assumption))) | exact Nat.ne_of_lt (And.right (by with_reducible assumption)) | exact Nat.ne_of_gt (And.right (by with_reducible assumption)) | exact Nat.ne_of_lt (And.right (And.right (by with_reducible assumption))) | exact Nat.ne_of_gt (And.right (And.right (by with_reducible assumption))) | exact Nat.ne_of_lt (And.left (And.right (And.right (by with_reducible assumption)))) | exact Nat.ne_of_gt (And.left (And.right (And.right (by with_reducible assumption)))))
  k_with "M enter" => (refine' enterM ?k1z9 ?k2z9 ?k3z9 ?k4z9 ?k5z9 ?kAz9 ?kFz9 ?kKz9 ?k6z9 ?k7z9 ?k8z9 ?k9z9 ?kBz9 ?_ ?c2z9 ?c3z9 ?c4z9 ?c5z9; (case kAz9 => exact rfl); (case kFz9 => exact rfl); (case kKz9 => assumption); (case k1z9 => k_asm); (case k2z9 => k_asm); (case k3z9 => k_asm); (case k4z9 => k_asm); (case k5z9 => k_asm); (case k6z9 => k_is); (case k7z9 => k_is); (case k8z9 => ktr_room); (case k9z9 => first | exact BindsTo.of_eq rfl | exact binds_K (by k_in) rfl (by k_is) rfl rfl rfl); (case c5z9 => decide); (case kBz9 => exact locs rfl); (case c2z9 => exact rfl); (case c3z9 => exact rfl); (case c4z9 => exact rfl); k_whole; intro g' L' h' tk' K' G' FG' F' N' B' X' T' l1 l2; (try k_lt l1); (try dsimp only); (try k_lift B'); (try k_fold))
  k_with "M enter0" => (refine' enterM ?k1z9 ?k2z9 ?k3z9 ?k4z9 ?k5z9 ?kAz9 ?kFz9 ?kKz9 ?k6z9 ?k7z9 ?k8z9 ?k9z9 ?kBz9 ?_ ?c2z9 ?c3z9 ?c4z9 ?c5z9; (case kAz9 => exact rfl); (case kFz9 => exact rfl); (case kKz9 => assumption); (case k1z9 => k_asm); (case k2z9 => k_asm); (case k3z9 => k_asm); (case k4z9 => k_asm); (case k5z9 => k_asm); (case k6z9 => k_is); (case k7z9 => k_is); (case k8z9 => ktr_room); (case k9z9 => first | exact BindsTo.of_eq rfl | exact binds_K (by k_in) rfl (by k_is) rfl rfl rfl); (case c5z9 => decide); (case kBz9 => exact locs rfl); (case c2z9 => exact rfl); (case c3z9 => exact rfl); (case c4z9 => exact rfl); k_whole)
  k_with "M ar" => (first | with_reducible assumption | decide | omega | (simp [List.getD]; done) | (simp [List.getD]; omega))
  k_with "M keep" => (rename Kept _ _ [] => K7; (have F' := Kept.fr (by k_asm) K7); (have N' := Kept.news (by k_asm) K7); clear K7; (try dsimp only); (try k_sweep))
  k_with "M enterC" => (refine' enterMC ?k1z9 ?k2z9 ?k3z9 ?k4z9 ?k5z9 ?kAz9 ?kFz9 ?kKz9 ?k6z9 ?k7z9 ?k8z9 ?k9z9 ?kBz9 ?kDz9 ?_ ?c2z9 ?c3z9 ?c4z9; (case kAz9 => exact rfl); (case kFz9 => exact rfl); (case kKz9 => assumption); (case k1z9 => k_asm); (case k2z9 => k_asm); (case k3z9 => k_asm); (case k4z9 => k_asm); (case k5z9 => k_asm); (case k6z9 => k_is); (case k7z9 => k_is); (case k8z9 => ktr_room); (case k9z9 => first | exact BindsTo.of_eq rfl | exact binds_K (by k_in) rfl (by k_is) rfl rfl rfl); (case kBz9 => exact rfl); (case kDz9 => decide +kernel); (case c2z9 => exact rfl); (case c3z9 => exact rfl); (case c4z9 => exact rfl); k_whole; intro g' L' h' tk' cells' K' G' FG' F' N' Y' B' X' T' l1 l2; (try k_lt l1); k_cells Y'; (try simp only [List.cons_append, List.nil_append] at N'); (try dsimp only); (try k_lift B'); (try k_fold))
  k_with "M enterC0" => (refine' enterMC ?k1z9 ?k2z9 ?k3z9 ?k4z9 ?k5z9 ?kAz9 ?kFz9 ?kKz9 ?k6z9 ?k7z9 ?k8z9 ?k9z9 ?kBz9 ?kDz9 ?_ ?c2z9 ?c3z9 ?c4z9; (case kAz9 => exact rfl); (case kFz9 => exact rfl); (case kKz9 => assumption); (case k1z9 => k_asm); (case k2z9 => k_asm); (case k3z9 => k_asm); (case k4z9 => k_asm); (case k5z9 => k_asm); (case k6z9 => k_is); (case k7z9 => k_is); (case k8z9 => ktr_room); (case k9z9 => first | exact BindsTo.of_eq rfl | exact binds_K (by k_in) rfl (by k_is) rfl rfl rfl); (case kBz9 => exact rfl); (case kDz9 => decide +kernel); (case c2z9 => exact rfl); (case c3z9 => exact rfl); (case c4z9 => exact rfl); k_whole)
  exact trivial
section
variable {prog : Program} {w : World} {A : Around} {E : Value → Shared → Prop} {s : Shared} {h₀ : Heap} {L : Addr} {m : Str → Option Value} {env : Env}
open LCg
/-- what a comprehension asks of its source, a range of any step -/
def CompSrcR (prog : Program) (w : World) (A : Around) (h₀ : Heap) (L : Addr) (m : Str → Option Value) (env : Env) (elt : Expr) (x : Str) (scope : Scope) (cl : List (Str × Addr)) (Q : Value → Shared → Prop) (xv : Value) (s₁ : Shared) : Prop :=
  ∃ r a b c t u v n news, xv = .ref r ∧ A.handled = none ∧ Fr h₀ L s₁.heap m ∧ News h₀ L s₁.heap news ∧ IsRange s₁.heap r a b c t u v ∧ Builtin.Range.small a b c = true ∧ Builtin.Range.rangeSize a b c = ((n : Nat) : Int) ∧ n ≤ sizeLine ∧
    ∀ g, CompRest prog w A h₀ L m env elt x scope cl { s₁ with heap := g } (fun _ => True) (fun i v => ∃ t, v = .int (a + (i : Int) * c) t) (FinE h₀ L m { s₁ with heap := g } Q) n 0 [] news
theorem listComp_range {elt iter : Expr} {x : Str} {px : Pos} {scope : Scope} {cl : List (Str × Addr)} {pos : Pos} {Q : Value → Shared → Prop}
    (hclos : closureFor scope env = pure cl) (hcell : ∀ y ∈ scope.names, y.2 ≠ .cell) (hkind : scope.kind = .function)
    (hnames : ∀ y ∈ scope.names, y.2 = .local → scope.names.lookup y.1 = some .local) (hx : scope.names.lookup x = some .local)
    (h : wpAny (model prog w) A (eval iter env) (CompSrcR prog w A h₀ L m env elt x scope cl Q) E s)
    (hs : ∀ x, foldedSetIterable iter env x = pure x := by intro _; rfl) :
    wpAny (model prog w) A (eval (.ListComp elt [⟨.Name x px, iter, [], 0⟩] scope pos) env) Q E s := by
  rw [eval_ListComp]
  refine wpAny_comprehension_free (use := none) rfl hs hclos hkind hnames (wpAny_mono h (fun xv s₁ h₁ => ?_) fun _ _ e => e)
  obtain ⟨r, a, b, c, t, u, v, n, news, rfl, hh, F, N, hr, hsm, hn, hsz, R⟩ := h₁
  refine wpAny_pyIter_range hr hsm ?_
  refine block_U (S := fun _ => True) (Walks.range hh s₁.heap.objs.size a c n) hsz (fun i h st => ⟨_, st⟩) (fun i h h' o nw st e e' _ _ _ => ?_) hcell hkind hx (by show IsRangeIter _ _ _ _ _; rw [hn]; simpa using Heap.get?_push_size _ rfl) (fun b hb => ?_)
    (F.keeps fun _ _ e => Heap.get?_push_of_some _ e) (N.grown fun _ _ e => Heap.get?_push_of_some _ e) (Nat.ne_of_lt F.ns.lt) (next_is_new F) (fun p hp => Nat.ne_of_lt (Heap.lt_size (N p hp).1)) trivial (R _) ?_
  · have st' : h.get? s₁.heap.objs.size = some _ := st
    show h'.get? s₁.heap.objs.size = some _
    rw [e', ← e]; exact st'
  · rw [List.mem_singleton.mp hb]
    show s₁.heap.objs.size < (s₁.heap.push _).objs.size
    rw [Heap.size_push]; exact Nat.lt_succ_self _
  · intro D C h' tk m' ys news' F' N' o1 hn hC₀ hD₀ hCL hDL hCD offC fin
    refine ⟨m', hn, fun h'' hs'' => fin D h'' tk (F'.change hs'' hCL hC₀) (fun p hp => ?_) o1⟩
    refine ⟨hs''.extBut _ _ ?_ (N' p hp).1, (N' p hp).2⟩
    rcases List.mem_cons.mp hp with rfl | hp
    · exact Ne.symm hCD
    · exact offC p hp
end
/-- how many numbers of two octets fit -/
def duesN (n : Nat) : Nat := n / 2
theorem size_two (n : Nat) : Builtin.Range.rangeSize 0 ((n : Int) - 1) 2 = ((duesN n : Nat) : Int) := by
  unfold Builtin.Range.rangeSize duesN
  rw [if_pos (by omega)]
  split <;> omega
theorem small_two (n : Nat) (h : n ≤ 1000000) : Builtin.Range.small 0 ((n : Int) - 1) 2 = true := by
  unfold Builtin.Range.small
  rw [size_two]
  unfold duesN
  simp only [Builtin.Range.rangeFitsLong, Bool.and_eq_true, Bool.or_eq_true, decide_eq_true_eq, beq_iff_eq, show (2 : Int) > 0 by decide, if_true]
  omega
end
section
theorem rT41_0 : True := by
  k_with_none
  k_with "ne" => (refine neN ?_; (try dsimp only); first | with_reducible assumption | exact Ne.symm (by with_reducible assumption) | exact off_ne (by with_reducible assumption) (by k_mem) | exact Ne.symm (off_ne (by with_reducible assumption) (by k_mem)) | exact off_i (by with_reducible assumption) (by k_mem) | exact off_c (by with_reducible assumption) (by k_mem) | exact off_d (by with_reducible assumption) (by k_mem) | exact Ne.symm (off_i (by with_reducible assumption) (by k_mem)) | exact Ne.symm (off_c (by with_reducible assumption) (by k_mem)) | exact Ne.symm (off_d (by with_reducible assumption) (by k_mem)) | exact Ne3.a (by with_reducible assumption) | exact Ne3.b (by with_reducible assumption) | exact Ne3.c (by with_reducible assumption) | exact Ne.symm (Ne3.a (by with_reducible assumption)) | exact Ne.symm (Ne3.b (by with_reducible assumption)) | exact Ne.symm (Ne3.c (by with_reducible assumption)) | exact NeA.ne (by with_reducible assumption) | exact Ne.symm (NeA.ne (by with_reducible assumption)) | exact Nat.ne_of_lt (by with_reducible assumption) | exact Nat.ne_of_gt (by with_reducible assumption) | exact Nat.ne_of_lt (And.left (by with_reducible assumption)) | exact Nat.ne_of_gt (And.left (by with_reducible assumption)) | exact Nat.ne_of_lt (And.left (And.right (by with_reducible assumption))) | exact Nat.ne_of_gt (And.left (And.right (by with_reducible assumption))) | exact Nat.ne_of_lt (And.right (by with_reducible assumption)) | exact Nat.ne_of_gt (And.right (by with_reducible assumption)) | exact Nat.ne_of_lt (And.right (And.right (by with_reducible assumption))) | exact Nat.ne_of_gt (And.right (And.right (by with_reducible assumption))) | exact Nat.ne_of_lt (And.left (And.right (And.right (by with_reducible assumption)))) | exact Nat.ne_of_gt (And.left (And.right (And.right (by with_reducible assumption)))))
  k_with "M enter" => (refine' enterM ?k1z9 ?k2z9 ?k3z9 ?k4z9 ?k5z9 ?kAz9 ?kFz9 ?kKz9 ?k6z9 ?k7z9 ?k8z9 ?k9z9 ?kBz9 ?_ ?c2z9 ?c3z9 ?c4z9 ?c5z9; (case kAz9 => exact rfl); (case kFz9 => exact rfl); (case kKz9 => assumption); (case k1z9 => k_asm); (case k2z9 => k_asm); (case k3z9 => k_asm); (case k4z9 => k_asm); (case k5z9 => k_asm); (case k6z9 => k_is); (case k7z9 => k_is); (case k8z9 => ktr_room); (case k9z9 => first | exact BindsTo.of_eq rfl | exact binds_K (by k_in) rfl (by k_is) rfl rfl rfl); (case c5z9 => decide); (case kBz9 => exact locs rfl); (case c2z9 => exact rfl); (case c3z9 => exact rfl); (case c4z9 => exact rfl); k_whole; intro g' L' h' tk' K' G' FG' F' N' B' X' T' l1 l2; (try k_lt l1); (try dsimp only); (try k_lift B'); (try k_fold))
  k_with "M enter0" => (refine' enterM ?k1z9 ?k2z9 ?k3z9 ?k4z9 ?k5z9 ?kAz9 ?kFz9 ?kKz9 ?k6z9 ?k7z9 ?k8z9 ?k9z9 ?kBz9 ?_ ?c2z9 ?c3z9 ?c4z9 ?c5z9; (case kAz9 => exact rfl); (case kFz9 => exact rfl); (case kKz9 => assumption); (case k1z9 => k_asm); (case k2z9 => k_asm); (case k3z9 => k_asm); (case k4z9 => k_asm); (case k5z9 => k_asm); (case k6z9 => k_is); (case k7z9 => k_is); (case k8z9 => ktr_room); (case k9z9 => first | exact BindsTo.of_eq rfl | exact binds_K (by k_in) rfl (by k_is) rfl rfl rfl); (case c5z9 => decide); (case kBz9 => exact locs rfl); (case c2z9 => exact rfl); (case c3z9 => exact rfl); (case c4z9 => exact rfl); k_whole)
  k_with "M ar" => (first | with_reducible assumption | decide | omega | (simp [List.getD]; done) | (simp [List.getD]; omega))
  k_with "M keep" => (rename Kept _ _ [] => K7; (have F' := Kept.fr (by k_asm) K7); (have N' := Kept.news (by k_asm) K7); clear K7; (try dsimp only); (try k_sweep))
  k_with "M enterC" => (refine' enterMC ?k1z9 ?k2z9 ?k3z9 ?k4z9 ?k5z9 ?kAz9 ?kFz9 ?kKz9 ?k6z9 ?k7z9 ?k8z9 ?k9z9 ?kBz9 ?kDz9 ?_ ?c2z9 ?c3z9 ?c4z9; (case kAz9 => exact rfl); (case kFz9 => exact rfl); (case kKz9 => assumption); (case k1z9 => k_asm); (case k2z9 => k_asm); (case k3z9 => k_asm); (case k4z9 => k_asm); (case k5z9 => k_asm); (case k6z9 => k_is); (case k7z9 => k_is); (case k8z9 => ktr_room); (case k9z9 => first | exact BindsTo.of_eq rfl | exact binds_K (by k_in) rfl (by k_is) rfl rfl rfl); (case kBz9 => exact rfl); (case kDz9 => decide +kernel); (case c2z9 => exact rfl); (case c3z9 => exact rfl); (case c4z9 => exact rfl); k_whole; intro g' L' h' tk' cells' K' G' FG' F' N' Y' B' X' T' l1 l2; (try k_lt l1); k_cells Y'; (try simp only [List.cons_append, List.nil_append] at N'); (try dsimp only); (try k_lift B'); (try k_fold))
  k_with "M enterC0" => (refine' enterMC ?k1z9 ?k2z9 ?k3z9 ?k4z9 ?k5z9 ?kAz9 ?kFz9 ?kKz9 ?k6z9 ?k7z9 ?k8z9 ?k9z9 ?kBz9 ?kDz9 ?_ ?c2z9 ?c3z9 ?c4z9; (case kAz9 => exact rfl); (case kFz9 => exact rfl); (case kKz9 => assumption); (case k1z9 => k_asm); (case k2z9 => k_asm); (case k3z9 => k_asm); (case k4z9 => k_asm); (case k5z9 => k_asm); (case k6z9 => k_is); (case k7z9 => k_is); (case k8z9 => ktr_room); (case k9z9 => first | exact BindsTo.of_eq rfl | exact binds_K (by k_in) rfl (by k_is) rfl rfl rfl); (case kBz9 => exact rfl); (case kDz9 => decide +kernel); (case c2z9 => exact rfl); (case c3z9 => exact rfl); (case c4z9 => exact rfl); k_whole)
  k_with "exec Raise some none" => (k_here; k_dflt (refine raise_own (by exact rfl) ?_); (try k_fold))
  k_with "M raise" => (k_dflt (refine' tf_use ?Bz9 ?Fz9 ?Xz9 ?Tz9 ?hAz9 ?hfz9 ?hkez9 ?hroomz9 ?huz9 ?hhz9 ?hSz9 ?_; (case hAz9 => exact rfl); (case hfz9 => exact rfl); (case hkez9 => first | exact rfl | assumption); (case Bz9 => k_asm); (case Fz9 => k_asm); (case Xz9 => k_asm); (case Tz9 => k_asm); (case hroomz9 => ktr_room); (case huz9 => ktr_units); (case hhz9 => exact rfl); (case hSz9 => first | decide | decide +kernel | walk_at "M ar")); intro e9 dx9 t9 k1 k2 h9 tk9 kp9 ne9 he9 hdx9 nd9 ht9 nt9; (try k_unfold); show RaisableM _ _ _ _; refine ⟨_, _, _, rfl, he9, Frag.In.keeps (Frag.In.keeps (by k_asm) (Fr.keep (by k_asm))) kp9, ?_⟩; (repeat k_unfold); (try dsimp only); (k_dflt (refine' leaveM_first ?Kz9 ?Fz9 ?hsz9 ?hLz9 kp9 ne9 he9 hdx9 nd9 ?_ ?hkz9; (case Kz9 => k_asm); (case Fz9 => k_asm); (case hsz9 => exact Kept.out (by assumption) (by assumption)); (case hLz9 => assumption); (case hkz9 => exact rfl))); intro h8 R8)
  k_with "M next" => ((repeat k_unfold); (try dsimp only); (rename RaisedM _ _ _ _ _ _ _ => R7); (k_dflt (refine' leaveM_next ?Kz9 ?Fz9 R7 ?hsz9 ?hLz9 ?hysz9 ?_ ?hkz9; (case Kz9 => k_asm); (case Fz9 => k_asm); (case hsz9 => exact Kept.out (by assumption) (by assumption)); (case hLz9 => assumption); (case hysz9 => first | exact (fun _ hb => absurd hb List.not_mem_nil) | (walk_at "M ys")); (case hkz9 => exact rfl))); clear R7; intro h8 R8)
  exact trivial
/-- a list of at most i small ints -/
def Spans (ys : List Value) (i : Nat) : Prop := ∃ ns, IntsAre ys ns ∧ ns.length ≤ i ∧ ∀ x ∈ ns, -65536 < x ∧ x < 65536
theorem Spans.nil : Spans [] 0 := ⟨[], .nil, Nat.le_refl _, by simp⟩
theorem Spans.snoc {ys : List Value} {i : Nat} {x : Int} {t : Tok} (h : Spans ys i) (hx : -65536 < x ∧ x < 65536) : Spans (ys ++ [.int x t]) (i + 1) := by
  obtain ⟨ns, a, b, c⟩ := h
  refine ⟨ns ++ [x], IntsAre.append a (.cons _ _ .nil), by rw [List.length_append, List.length_singleton]; omega, fun y hy => ?_⟩
  rcases List.mem_append.mp hy with h | h
  · exact c y h
  · rw [List.mem_singleton.mp h]; exact hx
theorem Spans.more {ys : List Value} {i : Nat} (h : Spans ys i) : Spans ys (i + 1) := by
  obtain ⟨ns, a, b, c⟩ := h
  exact ⟨ns, a, by omega, c⟩
section
variable {w : World} {mean : ExcName → Option Value} {mg mb : Str → Option Value} {dp un : Nat} {gd : Option (List Code)} {cn : Str} {cs : Scope} {a : Addr} {ccd : Value} {cl : List (Str × Addr)} {outer : List Env} {A₀ : Around} {base h₀ : Heap} {L : Addr} {m : Str → Option Value} {s : Shared} {Q E : Value → Shared → Prop}
   (B : Below A₀ base outer h₀) (F : Fr h₀ L s.heap m) (X : (heapK w.params).In h₀) (T : Top prgV (looseW prgV [Str.ofString "ShapeError"]) mean mg mb h₀) (hk : cs.kind = .function)
theorem rT41_1 : True := by
  k_with "CompSrcT" => (refine stopped ?_)
  k_with "CompSrc" => (refine stopped ?_)
  exact trivial
set_option maxRecDepth 100000 in
set_option maxHeartbeats 8000000 in
theorem dear_tail {g : Heap} {L1 D : Addr} {tc : Tok} {cnt : Int} {oc oe od : Obj} {ys : List Value} {dl : List Int} {m1 : Str → Option Value} {Qf : Flow → Shared → Prop}
   (B : Below (ktrTop dp un gd cn cs L a ccd cl outer) base (envX cn cs L a ccd cl :: outer) g) (X : (heapK w.params).In g) (T : Top prgV (looseW prgV [Str.ofString "ShapeError"]) mean mg mb g)
   (F : Fr g L1 s.heap m1) (N : News g L1 s.heap [(D, LCg.lst ys), (L1 + 1 + 1 + 1, oc), (L1 + 1 + 1, oe), (L1 + 1, od)])
   (hC : oc.data = .cell (some (.int cnt tc))) (hE : oe.data = .cell (some (.ref D)))
   (hd : dp + 30 < recursionLimit) (hu : un + 300 < cLine) (hy : IntsAre ys dl) (hdl : dl.length ≤ 50000) (hb : ∀ i, 0 ≤ dl.getD i 0 ∧ dl.getD i 0 < 65536) (hc : 0 ≤ cnt ∧ cnt < 65536)
   (hret : ∀ r h' tk' m', Fr g L1 h' m' → Qf (.ret (.bool r)) { s with heap := h', toks := tk' }) :
   wpAny (model Challenge.rw_nu0154_01.row.prog w) ((ktrTop dp un gd cn cs L a ccd cl outer).deeper (envOfC (Str.ofString "_law_is_dear") (scopeAt w.params 271) L1 271 (Value.ref 270))) (execs (sufAt w.params 271 2) (envOfC (Str.ofString "_law_is_dear") (scopeAt w.params 271) L1 271 (Value.ref 270))) Qf (fun _ _ => False) s := by
  revert X; k_fill; intro X
  conv in (occs := *) scopeAt _ _ => all_goals whnf
  conv in sufAt _ _ _ => whnf
  have kMark := kstMark
  k_steps
  refine Stop.go ?_
  rename_i rg9 F9 N9 kp9
  obtain ⟨M9, hM9⟩ : ∃ x : Int, x = (if (dl.length : Int) < cnt then (dl.length : Int) else cnt) := ⟨_, rfl⟩
  have hM1 : M9 ≤ dl.length := by rw [hM9]; split <;> omega
  have hM0 : 0 ≤ M9 := by rw [hM9]; split <;> omega
  rw [← hM9] at rg9
  clear hM9
  refine LCt.CompSrcT.range (n := (M9 - 0).toNat) (by rfl) F9 N9 rg9 ?sm ?sz (by rw [PySem.sizeLine_eq]; omega) ?_
  case sm => exact small_one (by omega) (by omega) (by omega) (by omega)
  case sz => exact rangeSize_nat _ _
  intro g'
  refine comp_restT (fun i ys2 nw => nw = [(D, LCg.lst ys), (L1 + 1 + 1 + 1, oc), (L1 + 1 + 1, oe), (L1 + 1, od)] ∧ Spans ys2 i) ⟨rfl, Spans.nil⟩ ?_ ?_
  · intro i v I oI C oC' D m₂ ys2 nw h tk E' hi hv hJ hC' hx F3 N3 off ne
    obtain ⟨rfl, hsp⟩ := hJ
    obtain ⟨t9, rfl⟩ := hv
    have b7 := hb (7 + (0 + (i : Int))).toNat
    have b8 := hb (8 + cnt + (0 + (i : Int))).toNat
    clear F9 N9 rg9 kp9
    try k_fold
    k_steps
    · exact Spans.snoc hsp (by omega)
    · exact Spans.more hsp
  · intro ys2 nw hJ
    obtain ⟨rfl, hsp⟩ := hJ
    clear F9 N9 rg9 kp9
    k_steps
    refine Stop.go ?_
    obtain ⟨ns, hns, hnl, hnb⟩ := hsp
    have hnl2 : ns.length ≤ 50000 := by omega
    have lsp := hns.length
    refine LCg.CompSrc.ledger (by rfl) (by k_asm) (by k_asm) (by k_mem) (by rw [PySem.sizeLine_eq, List.size_toArray]; omega) ?_
    intro g2
    rename_i D2 h2 tk2 F2 N2 o2
    refine comp_rest (fun i ys3 nw => nw = [(D2, LCg.lst ys2), (D, LCg.lst ys), (L1 + 1 + 1 + 1, oc), (L1 + 1 + 1, oe), (L1 + 1, od)] ∧ Spans ys3 i) ⟨rfl, Spans.nil⟩ ?_ ?_
    · intro i v I oI C oC' D m₂ ys4 nw h tk E' hi hv hJ hC' hx F3 N3 off ne
      obtain ⟨rfl, hs4⟩ := hJ
      rw [List.getElem?_toArray] at hv
      have bx := hnb (ns.getD i 0) (getD_mem (by rw [List.size_toArray] at hi; omega))
      obtain ⟨t9, rfl⟩ := IntsAre.int_at hns i v hv
      generalize ns.getD i 0 = x at *
      clear F2 N2
      try k_fold
      k_steps
      exact Spans.snoc hs4 (by split <;> omega)
    · intro ys3 nw hJ
      obtain ⟨rfl, hs3⟩ := hJ
      clear F2 N2
      obtain ⟨ns3, hns3, hnl3, hnb3⟩ := hs3
      k_steps
      exact hret _ _ _ _ (by assumption)
end
end
section
theorem rT40_0 : True := by
  k_with_none
  k_with "ne" => (refine neN ?_; (try dsimp only); first | with_reducible assumption | exact Ne.symm (by with_reducible assumption) | exact off_ne (by with_reducible assumption) (by k_mem) | exact Ne.symm (off_ne (by with_reducible assumption) (by k_mem)) | exact off_i (by with_reducible assumption) (by k_mem) | exact off_c (by with_reducible assumption) (by k_mem) | exact off_d (by with_reducible assumption) (by k_mem) | exact Ne.symm (off_i (by with_reducible assumption) (by k_mem)) | exact Ne.symm (off_c (by with_reducible assumption) (by k_mem)) | exact Ne.symm (off_d (by with_reducible assumption) (by k_mem)) | exact Ne3.a (by with_reducible assumption) | exact Ne3.b (by with_reducible assumption) | exact Ne3.c (by with_reducible assumption) | exact Ne.symm (Ne3.a (by with_reducible assumption)) | exact Ne.symm (Ne3.b (by with_reducible assumption)) | exact Ne.symm (Ne3.c (by with_reducible assumption)) | exact NeA.ne (by with_reducible assumption) | exact Ne.symm (NeA.ne (by with_reducible assumption)) | exact Nat.ne_of_lt (by with_reducible assumption) | exact Nat.ne_of_gt (by with_reducible assumption) | exact Nat.ne_of_lt (And.left (by with_reducible assumption)) | exact Nat.ne_of_gt (And.left (by with_reducible assumption)) | exact Nat.ne_of_lt (And.left (And.right (by with_reducible assumption))) | exact Nat.ne_of_gt (And.left (And.right (by with_reducible assumption))) | exact Nat.ne_of_lt (And.right (by with_reducible assumption)) | exact Nat.ne_of_gt (And.right (by with_reducible assumption)) | exact Nat.ne_of_lt (And.right (And.right (by with_reducible assumption))) | exact Nat.ne_of_gt (And.right (And.right (by with_reducible assumption))) | exact Nat.ne_of_lt (And.left (And.right (And.right (by with_reducible assumption)))) | exact Nat.ne_of_gt (And.left (And.right (And.right (by with_reducible assumption)))))
  k_with "M enter" => (refine' enterM ?k1z9 ?k2z9 ?k3z9 ?k4z9 ?k5z9 ?kAz9 ?kFz9 ?kKz9 ?k6z9 ?k7z9 ?k8z9 ?k9z9 ?kBz9 ?_ ?c2z9 ?c3z9 ?c4z9 ?c5z9; (case kAz9 => exact rfl); (case kFz9 => exact rfl); (case kKz9 => assumption); (case k1z9 => k_asm); (case k2z9 => k_asm); (case k3z9 => k_asm); (case k4z9 => k_asm); (case k5z9 => k_asm); (case k6z9 => k_is); (case k7z9 => k_is); (case k8z9 => ktr_room); (case k9z9 => first | exact BindsTo.of_eq rfl | exact binds_K (by k_in) rfl (by k_is) rfl rfl rfl); (case c5z9 => decide); (case kBz9 => exact locs rfl); (case c2z9 => exact rfl); (case c3z9 => exact rfl); (case c4z9 => exact rfl); k_whole; intro g' L' h' tk' K' G' FG' F' N' B' X' T' l1 l2; (try k_lt l1); (try dsimp only); (try k_lift B'); (try k_fold))
  k_with "M enter0" => (refine' enterM ?k1z9 ?k2z9 ?k3z9 ?k4z9 ?k5z9 ?kAz9 ?kFz9 ?kKz9 ?k6z9 ?k7z9 ?k8z9 ?k9z9 ?kBz9 ?_ ?c2z9 ?c3z9 ?c4z9 ?c5z9; (case kAz9 => exact rfl); (case kFz9 => exact rfl); (case kKz9 => assumption); (case k1z9 => k_asm); (case k2z9 => k_asm); (case k3z9 => k_asm); (case k4z9 => k_asm); (case k5z9 => k_asm); (case k6z9 => k_is); (case k7z9 => k_is); (case k8z9 => ktr_room); (case k9z9 => first | exact BindsTo.of_eq rfl | exact binds_K (by k_in) rfl (by k_is) rfl rfl rfl); (case c5z9 => decide); (case kBz9 => exact locs rfl); (case c2z9 => exact rfl); (case c3z9 => exact rfl); (case c4z9 => exact rfl); k_whole)
  k_with "M ar" => (first | with_reducible assumption | decide | omega | (simp [List.getD]; done) | (simp [List.getD]; omega))
  k_with "M keep" => (rename Kept _ _ [] => K7; (have F' := Kept.fr (by k_asm) K7); (have N' := Kept.news (by k_asm) K7); clear K7; (try dsimp only); (try k_sweep))
  k_with "M enterC" => (refine' enterMC ?k1z9 ?k2z9 ?k3z9 ?k4z9 ?k5z9 ?kAz9 ?kFz9 ?kKz9 ?k6z9 ?k7z9 ?k8z9 ?k9z9 ?kBz9 ?kDz9 ?_ ?c2z9 ?c3z9 ?c4z9; (case kAz9 => exact rfl); (case kFz9 => exact rfl); (case kKz9 => assumption); (case k1z9 => k_asm); (case k2z9 => k_asm); (case k3z9 => k_asm); (case k4z9 => k_asm); (case k5z9 => k_asm); (case k6z9 => k_is); (case k7z9 => k_is); (case k8z9 => ktr_room); (case k9z9 => first | exact BindsTo.of_eq rfl | exact binds_K (by k_in) rfl (by k_is) rfl rfl rfl); (case kBz9 => exact rfl); (case kDz9 => decide +kernel); (case c2z9 => exact rfl); (case c3z9 => exact rfl); (case c4z9 => exact rfl); k_whole; intro g' L' h' tk' cells' K' G' FG' F' N' Y' B' X' T' l1 l2; (try k_lt l1); k_cells Y'; (try simp only [List.cons_append, List.nil_append] at N'); (try dsimp only); (try k_lift B'); (try k_fold))
  k_with "M enterC0" => (refine' enterMC ?k1z9 ?k2z9 ?k3z9 ?k4z9 ?k5z9 ?kAz9 ?kFz9 ?kKz9 ?k6z9 ?k7z9 ?k8z9 ?k9z9 ?kBz9 ?kDz9 ?_ ?c2z9 ?c3z9 ?c4z9; (case kAz9 => exact rfl); (case kFz9 => exact rfl); (case kKz9 => assumption); (case k1z9 => k_asm); (case k2z9 => k_asm); (case k3z9 => k_asm); (case k4z9 => k_asm); (case k5z9 => k_asm); (case k6z9 => k_is); (case k7z9 => k_is); (case k8z9 => ktr_room); (case k9z9 => first | exact BindsTo.of_eq rfl | exact binds_K (by k_in) rfl (by k_is) rfl rfl rfl); (case kBz9 => exact rfl); (case kDz9 => decide +kernel); (case c2z9 => exact rfl); (case c3z9 => exact rfl); (case c4z9 => exact rfl); k_whole)
  k_with "call ref" => (k_here; (with_reducible show wpAny _ _ (call (Value.ref 249) [Value.bytes _ _, Value.int _ _]) _ _ _); (k_dflt (refine' u16_spec ?Bz9 ?Fz9 ?Xz9 ?Tz9 ?hkz9 ?hdz9 ?huz9 ?hbz9 ?hfitz9 ?hiz9 ?_ ?_)); (case Bz9 => k_asm); (case Fz9 => k_asm); (case Xz9 => k_asm); (case Tz9 => k_asm); (case hkz9 => first | exact rfl | assumption); (case hdz9 => ktr_room); (case huz9 => ktr_units); (case hbz9 => k_asm); (case hfitz9 => walk_at "M ar"); (case hiz9 => walk_at "M ar"); (all_goals (first | ((with_reducible show _ → ∀ (_ : Heap), _); intro q1 h' tk' K7; (first | (exfalso; omega) | (walk_at "M keep"))) | (intro q1 tt' h' tk' K7; (first | (exfalso; omega) | (walk_at "M keep"))))))
  k_with "exec Raise some none" => (k_here; k_dflt (refine raise_own (by exact rfl) ?_); (try k_fold))
  k_with "M raise" => (k_dflt (refine' tf_use ?Bz9 ?Fz9 ?Xz9 ?Tz9 ?hAz9 ?hfz9 ?hkez9 ?hroomz9 ?huz9 ?hhz9 ?hSz9 ?_; (case hAz9 => exact rfl); (case hfz9 => exact rfl); (case hkez9 => first | exact rfl | assumption); (case Bz9 => k_asm); (case Fz9 => k_asm); (case Xz9 => k_asm); (case Tz9 => k_asm); (case hroomz9 => ktr_room); (case huz9 => ktr_units); (case hhz9 => exact rfl); (case hSz9 => first | decide | decide +kernel | walk_at "M ar")); intro e9 dx9 t9 k1 k2 h9 tk9 kp9 ne9 he9 hdx9 nd9 ht9 nt9; (try k_unfold); show RaisableM _ _ _ _; refine ⟨_, _, _, rfl, he9, Frag.In.keeps (Frag.In.keeps (by k_asm) (Fr.keep (by k_asm))) kp9, ?_⟩; (repeat k_unfold); (try dsimp only); (k_dflt (refine' leaveM_first ?Kz9 ?Fz9 ?hsz9 ?hLz9 kp9 ne9 he9 hdx9 nd9 ?_ ?hkz9; (case Kz9 => k_asm); (case Fz9 => k_asm); (case hsz9 => exact Kept.out (by assumption) (by assumption)); (case hLz9 => assumption); (case hkz9 => exact rfl))); intro h8 R8)
  k_with "M next" => ((repeat k_unfold); (try dsimp only); (rename RaisedM _ _ _ _ _ _ _ => R7); (k_dflt (refine' leaveM_next ?Kz9 ?Fz9 R7 ?hsz9 ?hLz9 ?hysz9 ?_ ?hkz9; (case Kz9 => k_asm); (case Fz9 => k_asm); (case hsz9 => exact Kept.out (by assumption) (by assumption)); (case hLz9 => assumption); (case hysz9 => first | exact (fun _ hb => absurd hb List.not_mem_nil) | (walk_at "M ys")); (case hkz9 => exact rfl))); clear R7; intro h8 R8)
  exact trivial
section
variable {w : World} {mean : ExcName → Option Value} {mg mb : Str → Option Value} {dp un : Nat} {gd : Option (List Code)} {cn : Str} {cs : Scope} {a : Addr} {ccd : Value} {cl : List (Str × Addr)} {outer : List Env} {A₀ : Around} {base h₀ : Heap} {L : Addr} {m : Str → Option Value} {s : Shared} {Q E : Value → Shared → Prop}
   (B : Below A₀ base outer h₀) (F : Fr h₀ L s.heap m) (X : (heapK w.params).In h₀) (T : Top prgV (looseW prgV [Str.ofString "ShapeError"]) mean mg mb h₀) (hk : cs.kind = .function)
include B F X T hk
theorem rT40_1 : True := by
  k_with "eval ListComp" => (refine stopped ?_)
  k_with "execs cons" => (k_here; (with_reducible show wpAny _ _ (execs [_, _] _) _ _ _); refine stopped ?_)
  exact trivial
set_option maxRecDepth 100000 in
set_option maxHeartbeats 8000000 in
theorem dear_spec {b : Array UInt8} {ks : List Int} {t1 : Tok}
   (hd : dp + 30 < recursionLimit) (hu : un + 300 < cLine)
   (hb : KBw.bInts b = ks) (hby : ∀ k ∈ ks, 0 ≤ k ∧ k < 256) (hfit : ks.length ≤ 100000)
   (hret : ∀ r h' tk', Kept s.heap h' [] → Q (.bool r) { s with heap := h', toks := tk' }) :
   wpAny (model Challenge.rw_nu0154_01.row.prog w) (ktrTop dp un gd cn cs L a ccd cl outer) (call (.ref 271) [.bytes b t1]) Q E s := by
  have N : News h₀ L s.heap [] := News.nil
  revert X; k_fill; intro X
  refine wpAny_call ?_
  k_dflt (walk_at "M enterC0")
  intro g1 L1 hh1 tk1 cells1 K1 G1 FG1 F1 N1 Y1 B1 X1 T1 l1 l2
  k_lt l1
  k_cells Y1
  (try simp only [List.cons_append, List.nil_append] at N1)
  replace F1 : Fr g1 L1 hh1 (fun y => none) := F1
  dsimp only
  k_lift B1
  try k_fold
  k_steps
  refine Stop.go ?_
  k_here
  k_dflt (refine listComp_range (h₀ := g1) (L := L1) (m := fun y => none) (by rfl) (by decide) (by rfl) (by decide) (by rfl) ?_)
  k_steps
  rename_i oc oe od d1 d2 d3 N0 F0 h9 tk9 t9 u9 v9 rg9 F9 N9 kp9
  clear N0 F0
  refine ⟨_, 0, (ks.length : Int) - 1, 2, _, _, _, duesN ks.length, _, rfl, rfl, F9, N9, rg9, small_two _ (by omega), size_two _, by rw [PySem.sizeLine_eq]; unfold duesN; omega, fun g' => ?_⟩
  refine comp_rest (fun i ys nw => nw = [(L1 + 1 + 1 + 1, oc), (L1 + 1 + 1, oe), (L1 + 1, od)] ∧ IntsAre ys (nums ks 0 i)) ⟨rfl, .nil⟩ ?_ ?_
  · intro i v I oI C oC' D m₂ ys nw h tk E' hi hv hJ hC' hx F3 N3 off ne
    obtain ⟨rfl, hy⟩ := hJ
    obtain ⟨t9, rfl⟩ := hv
    have hi2 : 2 * (i : Int) + 2 ≤ ks.length := by unfold duesN at hi; omega
    clear F9 N9 rg9 kp9
    try k_fold
    k_steps
    rw [nums_snoc, show (0 : Int) + (i : Int) * 2 = 0 + 2 * (i : Int) by omega]
    exact IntsAre.append hy (.cons _ _ .nil)
  · intro ys nw hJ
    obtain ⟨rfl, hy⟩ := hJ
    clear F9 N9 rg9 kp9
    have kMark := kstMark
    have ldu : (nums ks 0 (duesN ks.length)).length = duesN ks.length := nums_len _ _ _
    have bdu := nums_bd hby (duesN ks.length) 0
    have hdu : duesN ks.length ≤ 50000 := by unfold duesN; omega
    generalize hdl : nums ks 0 (duesN ks.length) = dl at hy ldu bdu
    generalize hdn : duesN ks.length = dn at ldu hdu
    clear hdl hdn
    have b3 := bdu (3 : Int).toNat
    have q3 := fd_bd (dl.getD (3 : Int).toNat 0)
    k_steps
    all_goals
      refine Stop.go ?_
      refine wpAny_mono (dear_tail B1 X1 T1 (by assumption) (by assumption) (by assumption) (by assumption) hd hu hy (by omega) bdu (by omega) ?_) (fun _ _ h => h) (fun _ _ h => h.elim)
      intro r h' tk' m' F7
      refine leaveK_ F7 News.nil fun _ _ => ?_
      exact hret _ _ _ (Kept.out K1 F7)
end
end
section
theorem rT6_0 : True := by
  k_with_none
  k_with "ne" => (refine neN ?_; (try dsimp only); first | with_reducible assumption | exact Ne.symm (by with_reducible assumption) | exact off_ne (by with_reducible assumption) (by k_mem) | exact Ne.symm (off_ne (by with_reducible assumption) (by k_mem)) | exact off_i (by with_reducible assumption) (by k_mem) | exact off_c (by with_reducible assumption) (by k_mem) | exact off_d (by with_reducible assumption) (by k_mem) | exact Ne.symm (off_i (by with_reducible assumption) (by k_mem)) | exact Ne.symm (off_c (by with_reducible assumption) (by k_mem)) | exact Ne.symm (off_d (by with_reducible assumption) (by k_mem)) | exact Ne3.a (by with_reducible assumption) | exact Ne3.b (by with_reducible assumption) | exact Ne3.c (by with_reducible assumption) | exact Ne.symm (Ne3.a (by with_reducible assumption)) | exact Ne.symm (Ne3.b (by with_reducible assumption)) | exact Ne.symm (Ne3.c (by with_reducible assumption)) | exact NeA.ne (by with_reducible assumption) | exact Ne.symm (NeA.ne (by with_reducible assumption)) | exact Nat.ne_of_lt (by with_reducible assumption) | exact Nat.ne_of_gt (by with_reducible assumption) | exact Nat.ne_of_lt (And.left (by with_reducible assumption)) | exact Nat.ne_of_gt (And.left (by with_reducible assumption)) | exact Nat.ne_of_lt (And.left (And.right (by with_reducible assumption))) | exact Nat.ne_of_gt (And.left (And.right (by with_reducible assumption))) | exact Nat.ne_of_lt (And.right (by with_reducible assumption)) | exact Nat.ne_of_gt (And.right (by with_reducible assumption)) | exact Nat.ne_of_lt (And.right (And.right (by with_reducible assumption))) | exact Nat.ne_of_gt (And.right (And.right (by with_reducible assumption))) | exact Nat.ne_of_lt (And.left (And.right (And.right (by with_reducible assumption)))) | exact Nat.ne_of_gt (And.left (And.right (And.right (by with_reducible assumption)))))
  k_with "M enter" => (refine' enterM ?k1z9 ?k2z9 ?k3z9 ?k4z9 ?k5z9 ?kAz9 ?kFz9 ?kKz9 ?k6z9 ?k7z9 ?k8z9 ?k9z9 ?kBz9 ?_ ?c2z9 ?c3z9 ?c4z9 ?c5z9; (case kAz9 => exact rfl); (case kFz9 => exact rfl); (case kKz9 => assumption); (case k1z9 => k_asm); (case k2z9 => k_asm); (case k3z9 => k_asm); (case k4z9 => k_asm); (case k5z9 => k_asm); (case k6z9 => k_is); (case k7z9 => k_is); (case k8z9 => ktr_room); (case k9z9 => first | exact BindsTo.of_eq rfl | exact binds_K (by k_in) rfl (by k_is) rfl rfl rfl); (case c5z9 => decide); (case kBz9 => exact locs rfl); (case c2z9 => exact rfl); (case c3z9 => exact rfl); (case c4z9 => exact rfl); k_whole; intro g' L' h' tk' K' G' FG' F' N' B' X' T' l1 l2; (try k_lt l1); (try dsimp only); (try k_lift B'); (try k_fold))
  k_with "M enter0" => (refine' enterM ?k1z9 ?k2z9 ?k3z9 ?k4z9 ?k5z9 ?kAz9 ?kFz9 ?kKz9 ?k6z9 ?k7z9 ?k8z9 ?k9z9 ?kBz9 ?_ ?c2z9 ?c3z9 ?c4z9 ?c5z9; (case kAz9 => exact rfl); (case kFz9 => exact rfl); (case kKz9 => assumption); (case k1z9 => k_asm); (case k2z9 => k_asm); (case k3z9 => k_asm); (case k4z9 => k_asm); (case k5z9 => k_asm); (case k6z9 => k_is); (case k7z9 => k_is); (case k8z9 => ktr_room); (case k9z9 => first | exact BindsTo.of_eq rfl | exact binds_K (by k_in) rfl (by k_is) rfl rfl rfl); (case c5z9 => decide); (case kBz9 => exact locs rfl); (case c2z9 => exact rfl); (case c3z9 => exact rfl); (case c4z9 => exact rfl); k_whole)
  k_with "M ar" => (first | with_reducible assumption | decide | omega | (simp [List.getD]; done) | (simp [List.getD]; omega))
  k_with "M keep" => (rename Kept _ _ [] => K7; (have F' := Kept.fr (by k_asm) K7); (have N' := Kept.news (by k_asm) K7); clear K7; (try dsimp only); (try k_sweep))
  k_with "M enterC" => (refine' enterMC ?k1z9 ?k2z9 ?k3z9 ?k4z9 ?k5z9 ?kAz9 ?kFz9 ?kKz9 ?k6z9 ?k7z9 ?k8z9 ?k9z9 ?kBz9 ?kDz9 ?_ ?c2z9 ?c3z9 ?c4z9; (case kAz9 => exact rfl); (case kFz9 => exact rfl); (case kKz9 => assumption); (case k1z9 => k_asm); (case k2z9 => k_asm); (case k3z9 => k_asm); (case k4z9 => k_asm); (case k5z9 => k_asm); (case k6z9 => k_is); (case k7z9 => k_is); (case k8z9 => ktr_room); (case k9z9 => first | exact BindsTo.of_eq rfl | exact binds_K (by k_in) rfl (by k_is) rfl rfl rfl); (case kBz9 => exact rfl); (case kDz9 => decide +kernel); (case c2z9 => exact rfl); (case c3z9 => exact rfl); (case c4z9 => exact rfl); k_whole; intro g' L' h' tk' cells' K' G' FG' F' N' Y' B' X' T' l1 l2; (try k_lt l1); k_cells Y'; (try simp only [List.cons_append, List.nil_append] at N'); (try dsimp only); (try k_lift B'); (try k_fold))
  k_with "M enterC0" => (refine' enterMC ?k1z9 ?k2z9 ?k3z9 ?k4z9 ?k5z9 ?kAz9 ?kFz9 ?kKz9 ?k6z9 ?k7z9 ?k8z9 ?k9z9 ?kBz9 ?kDz9 ?_ ?c2z9 ?c3z9 ?c4z9; (case kAz9 => exact rfl); (case kFz9 => exact rfl); (case kKz9 => assumption); (case k1z9 => k_asm); (case k2z9 => k_asm); (case k3z9 => k_asm); (case k4z9 => k_asm); (case k5z9 => k_asm); (case k6z9 => k_is); (case k7z9 => k_is); (case k8z9 => ktr_room); (case k9z9 => first | exact BindsTo.of_eq rfl | exact binds_K (by k_in) rfl (by k_is) rfl rfl rfl); (case kBz9 => exact rfl); (case kDz9 => decide +kernel); (case c2z9 => exact rfl); (case c3z9 => exact rfl); (case c4z9 => exact rfl); k_whole)
  k_with "exec Raise some none" => (k_here; k_dflt (refine raise_own (by exact rfl) ?_); (try k_fold))
  k_with "M raise" => (k_dflt (refine' tf_use ?Bz9 ?Fz9 ?Xz9 ?Tz9 ?hAz9 ?hfz9 ?hkez9 ?hroomz9 ?huz9 ?hhz9 ?hSz9 ?_; (case hAz9 => exact rfl); (case hfz9 => exact rfl); (case hkez9 => first | exact rfl | assumption); (case Bz9 => k_asm); (case Fz9 => k_asm); (case Xz9 => k_asm); (case Tz9 => k_asm); (case hroomz9 => ktr_room); (case huz9 => ktr_units); (case hhz9 => exact rfl); (case hSz9 => first | decide | decide +kernel | walk_at "M ar")); intro e9 dx9 t9 k1 k2 h9 tk9 kp9 ne9 he9 hdx9 nd9 ht9 nt9; (try k_unfold); show RaisableM _ _ _ _; refine ⟨_, _, _, rfl, he9, Frag.In.keeps (Frag.In.keeps (by k_asm) (Fr.keep (by k_asm))) kp9, ?_⟩; (repeat k_unfold); (try dsimp only); (k_dflt (refine' leaveM_first ?Kz9 ?Fz9 ?hsz9 ?hLz9 kp9 ne9 he9 hdx9 nd9 ?_ ?hkz9; (case Kz9 => k_asm); (case Fz9 => k_asm); (case hsz9 => exact Kept.out (by assumption) (by assumption)); (case hLz9 => assumption); (case hkz9 => exact rfl))); intro h8 R8)
  k_with "M next" => ((repeat k_unfold); (try dsimp only); (rename RaisedM _ _ _ _ _ _ _ => R7); (k_dflt (refine' leaveM_next ?Kz9 ?Fz9 R7 ?hsz9 ?hLz9 ?hysz9 ?_ ?hkz9; (case Kz9 => k_asm); (case Fz9 => k_asm); (case hsz9 => exact Kept.out (by assumption) (by assumption)); (case hLz9 => assumption); (case hysz9 => first | exact (fun _ hb => absurd hb List.not_mem_nil) | (walk_at "M ys")); (case hkz9 => exact rfl))); clear R7; intro h8 R8)
  exact trivial
section
variable {w : World} {mean : ExcName → Option Value} {mg mb : Str → Option Value} {dp un : Nat} {gd : Option (List Code)} {cn : Str} {cs : Scope} {a : Addr} {ccd : Value} {cl : List (Str × Addr)} {outer : List Env} {A₀ : Around} {base h₀ : Heap} {L : Addr} {m : Str → Option Value} {s : Shared} {Q E : Value → Shared → Prop}
   (B : Below A₀ base outer h₀) (F : Fr h₀ L s.heap m) (X : (heapK w.params).In h₀) (T : Top prgV (looseW prgV [Str.ofString "ShapeError"]) mean mg mb h₀) (hk : cs.kind = .function)
include B F X T hk
set_option maxRecDepth 100000 in
set_option maxHeartbeats 8000000 in
theorem check_room_spec {b : Array UInt8} {ks : List Int} {t1 t2 t3 : Tok} {at' count : Int}
   (hd : dp + 30 < recursionLimit) (hu : un + 300 < cLine)
   (hb : KBw.bInts b = ks) (hfit : ks.length ≤ 100000)
   (hret : 0 ≤ at' → at' + count ≤ ks.length → ∀ h' tk', Kept s.heap h' [] → Q .none { s with heap := h', toks := tk' })
   (hexc : ¬ (0 ≤ at' ∧ at' + count ≤ ks.length) → ∀ e h' tk', RaisedM w.params s.heap [] (envX cn cs L a ccd cl :: outer) e at' h' → E (.ref e) { s with heap := h', toks := tk' }) :
   wpAny (model Challenge.rw_nu0154_01.row.prog w) (ktrTop dp un gd cn cs L a ccd cl outer) (call (.ref 70) [.bytes b t1, .int at' t2, .int count t3]) Q E s := by
  have N : News h₀ L s.heap [] := News.nil
  revert X; k_fill; intro X
  refine wpAny_call ?_
  k_dflt (walk_at "M enter")
  k_steps
  · walk_at "M raise"
    exact hexc (by omega) _ _ _ (by assumption)
  · walk_at "M raise"
    exact hexc (by omega) _ _ _ (by assumption)
  · exact hret (by omega) (by omega) _ _ (Kept.out (by assumption) (by assumption))
end
end
section
theorem rT17_0 : True := by
  k_with_none
  k_with "ne" => (refine neN ?_; (try dsimp only); first | with_reducible assumption | exact Ne.symm (by with_reducible assumption) | exact off_ne (by with_reducible assumption) (by k_mem) | exact Ne.symm (off_ne (by with_reducible assumption) (by k_mem)) | exact off_i (by with_reducible assumption) (by k_mem) | exact off_c (by with_reducible assumption) (by k_mem) | exact off_d (by with_reducible assumption) (by k_mem) | exact Ne.symm (off_i (by with_reducible assumption) (by k_mem)) | exact Ne.symm (off_c (by with_reducible assumption) (by k_mem)) | exact Ne.symm (off_d (by with_reducible assumption) (by k_mem)) | exact Ne3.a (by with_reducible assumption) | exact Ne3.b (by with_reducible assumption) | exact Ne3.c (by with_reducible assumption) | exact Ne.symm (Ne3.a (by with_reducible assumption)) | exact Ne.symm (Ne3.b (by with_reducible assumption)) | exact Ne.symm (Ne3.c (by with_reducible assumption)) | exact NeA.ne (by with_reducible assumption) | exact Ne.symm (NeA.ne (by with_reducible assumption)) | exact Nat.ne_of_lt (by with_reducible assumption) | exact Nat.ne_of_gt (by with_reducible assumption) | exact Nat.ne_of_lt (And.left (by with_reducible assumption)) | exact Nat.ne_of_gt (And.left (by with_reducible assumption)) | exact Nat.ne_of_lt (And.left (And.right (by with_reducible assumption))) | exact Nat.ne_of_gt (And.left (And.right (by with_reducible assumption))) | exact Nat.ne_of_lt (And.right (by with_reducible assumption)) | exact Nat.ne_of_gt (And.right (by with_reducible assumption)) | exact Nat.ne_of_lt (And.right (And.right (by with_reducible assumption))) | exact Nat.ne_of_gt (And.right (And.right (by with_reducible assumption))) | exact Nat.ne_of_lt (And.left (And.right (And.right (by with_reducible assumption)))) | exact Nat.ne_of_gt (And.left (And.right (And.right (by with_reducible assumption)))))
  k_with "M enter" => (refine' enterM ?k1z9 ?k2z9 ?k3z9 ?k4z9 ?k5z9 ?kAz9 ?kFz9 ?kKz9 ?k6z9 ?k7z9 ?k8z9 ?k9z9 ?kBz9 ?_ ?c2z9 ?c3z9 ?c4z9 ?c5z9; (case kAz9 => exact rfl); (case kFz9 => exact rfl); (case kKz9 => assumption); (case k1z9 => k_asm); (case k2z9 => k_asm); (case k3z9 => k_asm); (case k4z9 => k_asm); (case k5z9 => k_asm); (case k6z9 => k_is); (case k7z9 => k_is); (case k8z9 => ktr_room); (case k9z9 => first | exact BindsTo.of_eq rfl | exact binds_K (by k_in) rfl (by k_is) rfl rfl rfl); (case c5z9 => decide); (case kBz9 => exact locs rfl); (case c2z9 => exact rfl); (case c3z9 => exact rfl); (case c4z9 => exact rfl); k_whole; intro g' L' h' tk' K' G' FG' F' N' B' X' T' l1 l2; (try k_lt l1); (try dsimp only); (try k_lift B'); (try k_fold))
  k_with "M enter0" => (refine' enterM ?k1z9 ?k2z9 ?k3z9 ?k4z9 ?k5z9 ?kAz9 ?kFz9 ?kKz9 ?k6z9 ?k7z9 ?k8z9 ?k9z9 ?kBz9 ?_ ?c2z9 ?c3z9 ?c4z9 ?c5z9; (case kAz9 => exact rfl); (case kFz9 => exact rfl); (case kKz9 => assumption); (case k1z9 => k_asm); (case k2z9 => k_asm); (case k3z9 => k_asm); (case k4z9 => k_asm); (case k5z9 => k_asm); (case k6z9 => k_is); (case k7z9 => k_is); (case k8z9 => ktr_room); (case k9z9 => first | exact BindsTo.of_eq rfl | exact binds_K (by k_in) rfl (by k_is) rfl rfl rfl); (case c5z9 => decide); (case kBz9 => exact locs rfl); (case c2z9 => exact rfl); (case c3z9 => exact rfl); (case c4z9 => exact rfl); k_whole)
  k_with "M ar" => (first | with_reducible assumption | decide | omega | (simp [List.getD]; done) | (simp [List.getD]; omega))
  k_with "M keep" => (rename Kept _ _ [] => K7; (have F' := Kept.fr (by k_asm) K7); (have N' := Kept.news (by k_asm) K7); clear K7; (try dsimp only); (try k_sweep))
  k_with "M enterC" => (refine' enterMC ?k1z9 ?k2z9 ?k3z9 ?k4z9 ?k5z9 ?kAz9 ?kFz9 ?kKz9 ?k6z9 ?k7z9 ?k8z9 ?k9z9 ?kBz9 ?kDz9 ?_ ?c2z9 ?c3z9 ?c4z9; (case kAz9 => exact rfl); (case kFz9 => exact rfl); (case kKz9 => assumption); (case k1z9 => k_asm); (case k2z9 => k_asm); (case k3z9 => k_asm); (case k4z9 => k_asm); (case k5z9 => k_asm); (case k6z9 => k_is); (case k7z9 => k_is); (case k8z9 => ktr_room); (case k9z9 => first | exact BindsTo.of_eq rfl | exact binds_K (by k_in) rfl (by k_is) rfl rfl rfl); (case kBz9 => exact rfl); (case kDz9 => decide +kernel); (case c2z9 => exact rfl); (case c3z9 => exact rfl); (case c4z9 => exact rfl); k_whole; intro g' L' h' tk' cells' K' G' FG' F' N' Y' B' X' T' l1 l2; (try k_lt l1); k_cells Y'; (try simp only [List.cons_append, List.nil_append] at N'); (try dsimp only); (try k_lift B'); (try k_fold))
  k_with "M enterC0" => (refine' enterMC ?k1z9 ?k2z9 ?k3z9 ?k4z9 ?k5z9 ?kAz9 ?kFz9 ?kKz9 ?k6z9 ?k7z9 ?k8z9 ?k9z9 ?kBz9 ?kDz9 ?_ ?c2z9 ?c3z9 ?c4z9; (case kAz9 => exact rfl); (case kFz9 => exact rfl); (case kKz9 => assumption); (case k1z9 => k_asm); (case k2z9 => k_asm); (case k3z9 => k_asm); (case k4z9 => k_asm); (case k5z9 => k_asm); (case k6z9 => k_is); (case k7z9 => k_is); (case k8z9 => ktr_room); (case k9z9 => first | exact BindsTo.of_eq rfl | exact binds_K (by k_in) rfl (by k_is) rfl rfl rfl); (case kBz9 => exact rfl); (case kDz9 => decide +kernel); (case c2z9 => exact rfl); (case c3z9 => exact rfl); (case c4z9 => exact rfl); k_whole)
  k_with "exec Raise some none" => (k_here; k_dflt (refine raise_own (by exact rfl) ?_); (try k_fold))
  k_with "M raise" => (k_dflt (refine' tf_use ?Bz9 ?Fz9 ?Xz9 ?Tz9 ?hAz9 ?hfz9 ?hkez9 ?hroomz9 ?huz9 ?hhz9 ?hSz9 ?_; (case hAz9 => exact rfl); (case hfz9 => exact rfl); (case hkez9 => first | exact rfl | assumption); (case Bz9 => k_asm); (case Fz9 => k_asm); (case Xz9 => k_asm); (case Tz9 => k_asm); (case hroomz9 => ktr_room); (case huz9 => ktr_units); (case hhz9 => exact rfl); (case hSz9 => first | decide | decide +kernel | walk_at "M ar")); intro e9 dx9 t9 k1 k2 h9 tk9 kp9 ne9 he9 hdx9 nd9 ht9 nt9; (try k_unfold); show RaisableM _ _ _ _; refine ⟨_, _, _, rfl, he9, Frag.In.keeps (Frag.In.keeps (by k_asm) (Fr.keep (by k_asm))) kp9, ?_⟩; (repeat k_unfold); (try dsimp only); (k_dflt (refine' leaveM_first ?Kz9 ?Fz9 ?hsz9 ?hLz9 kp9 ne9 he9 hdx9 nd9 ?_ ?hkz9; (case Kz9 => k_asm); (case Fz9 => k_asm); (case hsz9 => exact Kept.out (by assumption) (by assumption)); (case hLz9 => assumption); (case hkz9 => exact rfl))); intro h8 R8)
  k_with "M next" => ((repeat k_unfold); (try dsimp only); (rename RaisedM _ _ _ _ _ _ _ => R7); (k_dflt (refine' leaveM_next ?Kz9 ?Fz9 R7 ?hsz9 ?hLz9 ?hysz9 ?_ ?hkz9; (case Kz9 => k_asm); (case Fz9 => k_asm); (case hsz9 => exact Kept.out (by assumption) (by assumption)); (case hLz9 => assumption); (case hysz9 => first | exact (fun _ hb => absurd hb List.not_mem_nil) | (walk_at "M ys")); (case hkz9 => exact rfl))); clear R7; intro h8 R8)
  k_with "call ref" => (k_here; (with_reducible show wpAny _ _ (call (Value.ref 70) [Value.bytes _ _, Value.int _ _, Value.int _ _]) _ _ _); k_dflt (refine' check_room_spec ?Bz9 ?Fz9 ?Xz9 ?Tz9 ?hkz9 ?hdz9 ?huz9 ?hbz9 ?hfitz9 ?_ ?_; (case Bz9 => k_asm); (case Fz9 => k_asm); (case Xz9 => k_asm); (case Tz9 => k_asm); (case hkz9 => first | exact rfl | assumption); (case hdz9 => ktr_room); (case huz9 => ktr_units); (case hbz9 => k_asm); (case hfitz9 => walk_at "M ar")); (all_goals (first | (intro p1 e' h' tk' R7; (with_reducible rename RaisedM _ _ _ _ _ _ _ => R7); (first | (exfalso; omega) | walk_at "M next")) | (intro p1 p2 h' tk' K7; walk_at "M keep"))))
  exact trivial
def num (l : List Int) : Int := l.foldl (fun a x => 256 * a + x) 0
theorem num_snoc (l : List Int) (x : Int) : num (l ++ [x]) = 256 * num l + x := by unfold num; rw [List.foldl_append]; rfl
theorem bitOr_nat (a b : Nat) : Builtin.bitOr (a : Int) (b : Int) = ((a ||| b : Nat) : Int) := by
  unfold Builtin.bitOr Builtin.bitAnd Builtin.bitNot
  have h1 : decide (-(a : Int) - 1 ≥ 0) = false := decide_eq_false (by omega)
  have h2 : decide (-(b : Int) - 1 ≥ 0) = false := decide_eq_false (by omega)
  simp only [h1, h2]
  have e1 : (-(-(a : Int) - 1) - 1).toNat = a := by omega
  have e2 : (-(-(b : Int) - 1) - 1).toNat = b := by omega
  rw [e1, e2]
  omega
theorem or8 {t c : Int} (h0 : 0 ≤ t) (h1 : 0 ≤ c) (h2 : c < 256) : Builtin.bitOr (t * 2 ^ (8 : Int).toNat) c = 256 * t + c := by
  obtain ⟨a, rfl⟩ := Int.eq_ofNat_of_zero_le h0
  obtain ⟨b, rfl⟩ := Int.eq_ofNat_of_zero_le h1
  have e8 : (8 : Int).toNat = 8 := by decide
  have e : (a : Int) * 2 ^ (8 : Int).toNat = ((2 ^ 8 * a : Nat) : Int) := by
    rw [e8, Int.natCast_mul, Int.mul_comm]; rfl
  rw [e, bitOr_nat, ← Nat.two_pow_add_eq_or_of_lt (by omega : b < 2 ^ 8)]
  rw [Int.natCast_add, Int.natCast_mul]; rfl
def NumP (pre : List Int) (total : Int) : Prop := total = num pre ∧ 0 ≤ total ∧ total < 70000 ∧ (pre.length = 0 → total = 0) ∧ (pre.length = 1 → total < 256)
theorem numP_nil : NumP [] 0 := by simp [NumP, num]
theorem numP_snoc {pre : List Int} {t n : Int} (h : NumP pre t) (hl : pre.length < 2) (h0 : 0 ≤ n) (h1 : n < 256) : NumP (pre ++ [n]) (Builtin.bitOr (t * 2 ^ (8 : Int).toNat) n) := by
  obtain ⟨e, a, _, b, c⟩ := h
  rw [or8 a h0 h1]
  refine ⟨by rw [num_snoc, ← e], by omega, ?_, by simp, ?_⟩
  · rcases (show pre.length = 0 ∨ pre.length = 1 by omega) with z | z
    · rw [b z]; omega
    · have := c z; omega
  · intro z; rw [List.length_append] at z; simp at z; rw [b (by simp [z])]; omega
theorem num2 {ks : List Int} {at' : Int} (h : 0 ≤ at' ∧ at' + 2 ≤ ks.length) : num (List.take ((at' + 2).toNat - at'.toNat) (List.drop at'.toNat ks)) = n2 ks at' := by
  obtain ⟨i, rfl⟩ := Int.eq_ofNat_of_zero_le h.1
  have e1 : ((i : Int) + 2).toNat - (i : Int).toNat = 2 := by omega
  have e2 : ((i : Int) + 1).toNat = i + 1 := by omega
  rw [e1, Int.toNat_natCast, List.drop_eq_getElem_cons (by omega), List.drop_eq_getElem_cons (by omega)]
  simp only [List.take_succ_cons, List.take_zero, num, List.foldl_cons, List.foldl_nil, List.getD_eq_getElem?_getD]
  rw [n2, List.getD_eq_getElem?_getD, List.getD_eq_getElem?_getD, e2, Int.toNat_natCast, List.getElem?_eq_getElem (by omega), List.getElem?_eq_getElem (by omega)]
  simp
theorem rT17_1 : True := by
  k_with "exec For Name Subscript cons nil" => (k_here; kstb_has; (rename Fr _ _ _ _ => lF'); (with_unfolding_all refine' For_invVF lF' ?k1z9 ?k2z9 ?_; (case k1z9 => exact rfl); (case k2z9 => exact rfl); k_whole))
  k_with "pyIter bytes" => (refine stopped ?_)
  exact trivial
section
variable {w : World} {mean : ExcName → Option Value} {mg mb : Str → Option Value} {dp un : Nat} {gd : Option (List Code)} {cn : Str} {cs : Scope} {a : Addr} {ccd : Value} {cl : List (Str × Addr)} {outer : List Env} {A₀ : Around} {base h₀ : Heap} {L : Addr} {m : Str → Option Value} {s : Shared} {Q E : Value → Shared → Prop}
   (B : Below A₀ base outer h₀) (F : Fr h₀ L s.heap m) (X : (heapK w.params).In h₀) (T : Top prgV (looseW prgV [Str.ofString "ShapeError"]) mean mg mb h₀) (hk : cs.kind = .function)
include B F X T hk
set_option maxRecDepth 100000 in
set_option maxHeartbeats 8000000 in
theorem number_at_spec {b : Array UInt8} {ks : List Int} {t1 t2 t3 : Tok} {at' : Int}
   (hd : dp + 32 < recursionLimit) (hu : un + 320 < cLine)
   (hb : KBw.bInts b = ks) (hfit : ks.length ≤ 100000) (h0 : 0 ≤ at')
   (hret : at' + 2 ≤ ks.length → ∀ t h' tk', Kept s.heap h' [] → Q (.int (n2 ks at') t) { s with heap := h', toks := tk' })
   (hexc : ¬ (at' + 2 ≤ ks.length) → ∀ e h' tk', RaisedM w.params s.heap [] (envX cn cs L a ccd cl :: outer) e at' h' → E (.ref e) { s with heap := h', toks := tk' }) :
   wpAny (model Challenge.rw_nu0154_01.row.prog w) (ktrTop dp un gd cn cs L a ccd cl outer) (call (.ref 77) [.bytes b t1, .int at' t2, .int 2 t3]) Q E s := by
  have N : News h₀ L s.heap [] := News.nil
  revert X; k_fill; intro X
  refine wpAny_call ?_
  k_dflt (walk_at "M enter")
  k_with "pyIter bytes" => k_state (fun pre total => NumP pre total) "total"
  k_steps
  rotate_left
  · exact hexc (by omega) _ _ _ (by assumption)
  refine Stop.go ?_
  have c1 := clipAt_in (n := ks.length) h0 (by omega)
  have c2 := clipAt_in (n := ks.length) (x := at' + 2) (by omega) (by omega)
  k_state (fun pre total => NumP pre total) "total"
  · rw [c1, c2] at kLen
    have hl : kPre.length < 2 := by omega
    obtain ⟨_, i1, i2, _⟩ := id kInv
    k_with "state" => exact numP_snoc (by assumption) (by assumption) (by assumption) (by assumption)
    k_steps
  · rw [c1, c2] at kInv
    k_steps
    obtain ⟨i1, _⟩ := kInv
    rw [num2 (by omega)] at i1
    subst i1
    exact hret (by omega) _ _ _ (Kept.out (by assumption) (by assumption))
end
end
section
theorem rT18_0 : True := by
  k_with_none
  k_with "ne" => (refine neN ?_; (try dsimp only); first | with_reducible assumption | exact Ne.symm (by with_reducible assumption) | exact off_ne (by with_reducible assumption) (by k_mem) | exact Ne.symm (off_ne (by with_reducible assumption) (by k_mem)) | exact off_i (by with_reducible assumption) (by k_mem) | exact off_c (by with_reducible assumption) (by k_mem) | exact off_d (by with_reducible assumption) (by k_mem) | exact Ne.symm (off_i (by with_reducible assumption) (by k_mem)) | exact Ne.symm (off_c (by with_reducible assumption) (by k_mem)) | exact Ne.symm (off_d (by with_reducible assumption) (by k_mem)) | exact Ne3.a (by with_reducible assumption) | exact Ne3.b (by with_reducible assumption) | exact Ne3.c (by with_reducible assumption) | exact Ne.symm (Ne3.a (by with_reducible assumption)) | exact Ne.symm (Ne3.b (by with_reducible assumption)) | exact Ne.symm (Ne3.c (by with_reducible assumption)) | exact NeA.ne (by with_reducible assumption) | exact Ne.symm (NeA.ne (by with_reducible assumption)) | exact Nat.ne_of_lt (by with_reducible assumption) | exact Nat.ne_of_gt (by with_reducible assumption) | exact Nat.ne_of_lt (And.left (by with_reducible assumption)) | exact Nat.ne_of_gt (And.left (by with_reducible assumption)) | exact Nat.ne_of_lt (And.left (And.right (by with_reducible assumption))) | exact Nat.ne_of_gt (And.left (And.right (by with_reducible assumption))) | exact Nat.ne_of_lt (And.right (by with_reducible assumption)) | exact Nat.ne_of_gt (And.right (by with_reducible assumption)) | exact Nat.ne_of_lt (And.right (And.right (by with_reducible assumption))) | exact Nat.ne_of_gt (And.right (And.right (by with_reducible assumption))) | exact Nat.ne_of_lt (And.left (And.right (And.right (by with_reducible assumption)))) | exact Nat.ne_of_gt (And.left (And.right (And.right (by with_reducible assumption)))))
  k_with "M enter" => (refine' enterM ?k1z9 ?k2z9 ?k3z9 ?k4z9 ?k5z9 ?kAz9 ?kFz9 ?kKz9 ?k6z9 ?k7z9 ?k8z9 ?k9z9 ?kBz9 ?_ ?c2z9 ?c3z9 ?c4z9 ?c5z9; (case kAz9 => exact rfl); (case kFz9 => exact rfl); (case kKz9 => assumption); (case k1z9 => k_asm); (case k2z9 => k_asm); (case k3z9 => k_asm); (case k4z9 => k_asm); (case k5z9 => k_asm); (case k6z9 => k_is); (case k7z9 => k_is); (case k8z9 => ktr_room); (case k9z9 => first | exact BindsTo.of_eq rfl | exact binds_K (by k_in) rfl (by k_is) rfl rfl rfl); (case c5z9 => decide); (case kBz9 => exact locs rfl); (case c2z9 => exact rfl); (case c3z9 => exact rfl); (case c4z9 => exact rfl); k_whole; intro g' L' h' tk' K' G' FG' F' N' B' X' T' l1 l2; (try k_lt l1); (try dsimp only); (try k_lift B'); (try k_fold))
  k_with "M enter0" => (refine' enterM ?k1z9 ?k2z9 ?k3z9 ?k4z9 ?k5z9 ?kAz9 ?kFz9 ?kKz9 ?k6z9 ?k7z9 ?k8z9 ?k9z9 ?kBz9 ?_ ?c2z9 ?c3z9 ?c4z9 ?c5z9; (case kAz9 => exact rfl); (case kFz9 => exact rfl); (case kKz9 => assumption); (case k1z9 => k_asm); (case k2z9 => k_asm); (case k3z9 => k_asm); (case k4z9 => k_asm); (case k5z9 => k_asm); (case k6z9 => k_is); (case k7z9 => k_is); (case k8z9 => ktr_room); (case k9z9 => first | exact BindsTo.of_eq rfl | exact binds_K (by k_in) rfl (by k_is) rfl rfl rfl); (case c5z9 => decide); (case kBz9 => exact locs rfl); (case c2z9 => exact rfl); (case c3z9 => exact rfl); (case c4z9 => exact rfl); k_whole)
  k_with "M ar" => (first | with_reducible assumption | decide | omega | (simp [List.getD]; done) | (simp [List.getD]; omega))
  k_with "M keep" => (rename Kept _ _ [] => K7; (have F' := Kept.fr (by k_asm) K7); (have N' := Kept.news (by k_asm) K7); clear K7; (try dsimp only); (try k_sweep))
  k_with "M enterC" => (refine' enterMC ?k1z9 ?k2z9 ?k3z9 ?k4z9 ?k5z9 ?kAz9 ?kFz9 ?kKz9 ?k6z9 ?k7z9 ?k8z9 ?k9z9 ?kBz9 ?kDz9 ?_ ?c2z9 ?c3z9 ?c4z9; (case kAz9 => exact rfl); (case kFz9 => exact rfl); (case kKz9 => assumption); (case k1z9 => k_asm); (case k2z9 => k_asm); (case k3z9 => k_asm); (case k4z9 => k_asm); (case k5z9 => k_asm); (case k6z9 => k_is); (case k7z9 => k_is); (case k8z9 => ktr_room); (case k9z9 => first | exact BindsTo.of_eq rfl | exact binds_K (by k_in) rfl (by k_is) rfl rfl rfl); (case kBz9 => exact rfl); (case kDz9 => decide +kernel); (case c2z9 => exact rfl); (case c3z9 => exact rfl); (case c4z9 => exact rfl); k_whole; intro g' L' h' tk' cells' K' G' FG' F' N' Y' B' X' T' l1 l2; (try k_lt l1); k_cells Y'; (try simp only [List.cons_append, List.nil_append] at N'); (try dsimp only); (try k_lift B'); (try k_fold))
  k_with "M enterC0" => (refine' enterMC ?k1z9 ?k2z9 ?k3z9 ?k4z9 ?k5z9 ?kAz9 ?kFz9 ?kKz9 ?k6z9 ?k7z9 ?k8z9 ?k9z9 ?kBz9 ?kDz9 ?_ ?c2z9 ?c3z9 ?c4z9; (case kAz9 => exact rfl); (case kFz9 => exact rfl); (case kKz9 => assumption); (case k1z9 => k_asm); (case k2z9 => k_asm); (case k3z9 => k_asm); (case k4z9 => k_asm); (case k5z9 => k_asm); (case k6z9 => k_is); (case k7z9 => k_is); (case k8z9 => ktr_room); (case k9z9 => first | exact BindsTo.of_eq rfl | exact binds_K (by k_in) rfl (by k_is) rfl rfl rfl); (case kBz9 => exact rfl); (case kDz9 => decide +kernel); (case c2z9 => exact rfl); (case c3z9 => exact rfl); (case c4z9 => exact rfl); k_whole)
  k_with "exec Raise some none" => (k_here; k_dflt (refine raise_own (by exact rfl) ?_); (try k_fold))
  k_with "M raise" => (k_dflt (refine' tf_use ?Bz9 ?Fz9 ?Xz9 ?Tz9 ?hAz9 ?hfz9 ?hkez9 ?hroomz9 ?huz9 ?hhz9 ?hSz9 ?_; (case hAz9 => exact rfl); (case hfz9 => exact rfl); (case hkez9 => first | exact rfl | assumption); (case Bz9 => k_asm); (case Fz9 => k_asm); (case Xz9 => k_asm); (case Tz9 => k_asm); (case hroomz9 => ktr_room); (case huz9 => ktr_units); (case hhz9 => exact rfl); (case hSz9 => first | decide | decide +kernel | walk_at "M ar")); intro e9 dx9 t9 k1 k2 h9 tk9 kp9 ne9 he9 hdx9 nd9 ht9 nt9; (try k_unfold); show RaisableM _ _ _ _; refine ⟨_, _, _, rfl, he9, Frag.In.keeps (Frag.In.keeps (by k_asm) (Fr.keep (by k_asm))) kp9, ?_⟩; (repeat k_unfold); (try dsimp only); (k_dflt (refine' leaveM_first ?Kz9 ?Fz9 ?hsz9 ?hLz9 kp9 ne9 he9 hdx9 nd9 ?_ ?hkz9; (case Kz9 => k_asm); (case Fz9 => k_asm); (case hsz9 => exact Kept.out (by assumption) (by assumption)); (case hLz9 => assumption); (case hkz9 => exact rfl))); intro h8 R8)
  k_with "M next" => ((repeat k_unfold); (try dsimp only); (rename RaisedM _ _ _ _ _ _ _ => R7); (k_dflt (refine' leaveM_next ?Kz9 ?Fz9 R7 ?hsz9 ?hLz9 ?hysz9 ?_ ?hkz9; (case Kz9 => k_asm); (case Fz9 => k_asm); (case hsz9 => exact Kept.out (by assumption) (by assumption)); (case hLz9 => assumption); (case hysz9 => first | exact (fun _ hb => absurd hb List.not_mem_nil) | (walk_at "M ys")); (case hkz9 => exact rfl))); clear R7; intro h8 R8)
  k_with "call ref" => (k_here; (with_reducible show wpAny _ _ (call (Value.ref 77) [Value.bytes _ _, Value.int _ _, Value.int 2 _]) _ _ _); k_dflt (refine' number_at_spec ?Bz9 ?Fz9 ?Xz9 ?Tz9 ?hkz9 ?hdz9 ?huz9 ?hbz9 ?hfitz9 ?h0z9 ?_ ?_; (case Bz9 => k_asm); (case Fz9 => k_asm); (case Xz9 => k_asm); (case Tz9 => k_asm); (case hkz9 => first | exact rfl | assumption); (case hdz9 => ktr_room); (case huz9 => ktr_units); (case hbz9 => k_asm); (case hfitz9 => walk_at "M ar"); (case h0z9 => walk_at "M ar")); (all_goals (first | (intro p1 e' h' tk' R7; (with_reducible rename RaisedM _ _ _ _ _ _ _ => R7); (first | (exfalso; omega) | walk_at "M next")) | (intro p1 tt h' tk' K7; walk_at "M keep"))))
  exact trivial
section
variable {w : World} {mean : ExcName → Option Value} {mg mb : Str → Option Value} {dp un : Nat} {gd : Option (List Code)} {cn : Str} {cs : Scope} {a : Addr} {ccd : Value} {cl : List (Str × Addr)} {outer : List Env} {A₀ : Around} {base h₀ : Heap} {L : Addr} {m : Str → Option Value} {s : Shared} {Q E : Value → Shared → Prop}
   (B : Below A₀ base outer h₀) (F : Fr h₀ L s.heap m) (X : (heapK w.params).In h₀) (T : Top prgV (looseW prgV [Str.ofString "ShapeError"]) mean mg mb h₀) (hk : cs.kind = .function)
include B F X T hk
set_option maxRecDepth 100000 in
set_option maxHeartbeats 8000000 in
theorem onum_spec {b : Array UInt8} {ks : List Int} {x dx : Addr} {k1 k2 t1 t2 t3 : Tok} {at' : Int}
   (N : News h₀ L s.heap [(x, instObj 163 dx), (dx, dictOf [⟨PyData.keyHash w.params "data", .str "data" k1, .bytes b t1⟩, ⟨PyData.keyHash w.params "at", .str "at" k2, .int at' t2⟩] 2)]) (hne : x ≠ dx)
   (hd : dp + 34 < recursionLimit) (hu : un + 340 < cLine)
   (hb : KBw.bInts b = ks) (hfit : ks.length ≤ 100000) (h0 : 0 ≤ at')
   (hret : at' + 2 ≤ ks.length → ∀ t k1 k2 t2' h' tk', Kept s.heap h' [dx] → h'.get? dx = some (dictOf [⟨PyData.keyHash w.params "data", .str "data" k1, .bytes b t1⟩, ⟨PyData.keyHash w.params "at", .str "at" k2, .int (at' + 2) t2'⟩] 2) → Q (.int (n2 ks at') t) { s with heap := h', toks := tk' })
   (hexc : ¬ (at' + 2 ≤ ks.length) → ∀ e h' tk', RaisedM w.params s.heap [x, dx] (envX cn cs L a ccd cl :: outer) e at' h' → E (.ref e) { s with heap := h', toks := tk' }) :
   wpAny (model Challenge.rw_nu0154_01.row.prog w) (ktrTop dp un gd cn cs L a ccd cl outer) (call (.ref 106) [.ref x, .int 2 t3]) Q E s := by
  have hne := neN hne
  revert X; k_fill; intro X
  refine wpAny_call ?_
  k_dflt (walk_at "M enter")
  k_steps
  rotate_right
  · exact hexc (by omega) _ _ _ (by assumption)
  · refine' hret (by omega) _ _ _ _ _ _ ?a1 ?a2
    case a2 => exact News.get (by assumption) (.tail _ (.head _))
    case a1 => exact Kept.drop (Kept.out (by assumption) (by assumption)) (N _ (.head _)).1 (News.get (by assumption) (.head _))
theorem onum_use {b : Array UInt8} {ks : List Int} {x dx : Addr} {k1 k2 t1 t2 t3 : Tok} {at' : Int} {news : List (Addr × Obj)} {g : Obj → List (Addr × Obj)}
   (N : News h₀ L s.heap news) (hx : (x, instObj 163 dx) ∈ news) (U : UpdF dx (dictOf [⟨PyData.keyHash w.params "data", .str "data" k1, .bytes b t1⟩, ⟨PyData.keyHash w.params "at", .str "at" k2, .int at' t2⟩] 2) news g) (hne : x ≠ dx)
   (hd : dp + 34 < recursionLimit) (hu : un + 340 < cLine)
   (hb : KBw.bInts b = ks) (hfit : ks.length ≤ 100000) (h0 : 0 ≤ at')
   (hret : at' + 2 ≤ ks.length → ∀ t k1 k2 t2' h' tk', Fr h₀ L h' m → News h₀ L h' (g (dictOf [⟨PyData.keyHash w.params "data", .str "data" k1, .bytes b t1⟩, ⟨PyData.keyHash w.params "at", .str "at" k2, .int (at' + 2) t2'⟩] 2)) → Q (.int (n2 ks at') t) { s with heap := h', toks := tk' })
   (hexc : ¬ (at' + 2 ≤ ks.length) → ∀ e h' tk', RaisedM w.params s.heap [x, dx] (envX cn cs L a ccd cl :: outer) e at' h' → E (.ref e) { s with heap := h', toks := tk' }) :
   wpAny (model Challenge.rw_nu0154_01.row.prog w) (ktrTop dp un gd cn cs L a ccd cl outer) (call (.ref 106) [.ref x, .int 2 t3]) Q E s := by
  have N1 : News h₀ L s.heap [(x, instObj 163 dx), (dx, dictOf [⟨PyData.keyHash w.params "data", .str "data" k1, .bytes b t1⟩, ⟨PyData.keyHash w.params "at", .str "at" k2, .int at' t2⟩] 2)] := fun p hp => by
    rcases List.mem_cons.mp hp with rfl | hp
    · exact N _ hx
    · exact UpdF.only N U _ hp
  refine onum_spec B F X T hk N1 hne hd hu hb hfit h0 (fun p1 t k1 k2 t2' h' tk' kp e => ?_) hexc
  obtain ⟨F', N'⟩ := Kept.updF F N U kp e
  exact hret p1 t k1 k2 t2' h' tk' F' N'
end
end
section
theorem rT19_0 : True := by
  k_with_none
  k_with "ne" => (refine neN ?_; (try dsimp only); first | with_reducible assumption | exact Ne.symm (by with_reducible assumption) | exact off_ne (by with_reducible assumption) (by k_mem) | exact Ne.symm (off_ne (by with_reducible assumption) (by k_mem)) | exact off_i (by with_reducible assumption) (by k_mem) | exact off_c (by with_reducible assumption) (by k_mem) | exact off_d (by with_reducible assumption) (by k_mem) | exact Ne.symm (off_i (by with_reducible assumption) (by k_mem)) | exact Ne.symm (off_c (by with_reducible assumption) (by k_mem)) | exact Ne.symm (off_d (by with_reducible assumption) (by k_mem)) | exact Ne3.a (by with_reducible assumption) | exact Ne3.b (by with_reducible assumption) | exact Ne3.c (by with_reducible assumption) | exact Ne.symm (Ne3.a (by with_reducible assumption)) | exact Ne.symm (Ne3.b (by with_reducible assumption)) | exact Ne.symm (Ne3.c (by with_reducible assumption)) | exact NeA.ne (by with_reducible assumption) | exact Ne.symm (NeA.ne (by with_reducible assumption)) | exact Nat.ne_of_lt (by with_reducible assumption) | exact Nat.ne_of_gt (by with_reducible assumption) | exact Nat.ne_of_lt (And.left (by with_reducible assumption)) | exact Nat.ne_of_gt (And.left (by with_reducible assumption)) | exact Nat.ne_of_lt (And.left (And.right (by with_reducible assumption))) | exact Nat.ne_of_gt (And.left (And.right (by with_reducible assumption))) | exact Nat.ne_of_lt (And.right (by with_reducible assumption)) | exact Nat.ne_of_gt (And.right (by with_reducible assumption)) | exact Nat.ne_of_lt (And.right (And.right (by with_reducible assumption))) | exact Nat.ne_of_gt (And.right (And.right (by with_reducible assumption))) | exact Nat.ne_of_lt (And.left (And.right (And.right (by with_reducible assumption)))) | exact Nat.ne_of_gt (And.left (And.right (And.right (by with_reducible assumption)))))
  k_with "M enter" => (refine' enterM ?k1z9 ?k2z9 ?k3z9 ?k4z9 ?k5z9 ?kAz9 ?kFz9 ?kKz9 ?k6z9 ?k7z9 ?k8z9 ?k9z9 ?kBz9 ?_ ?c2z9 ?c3z9 ?c4z9 ?c5z9; (case kAz9 => exact rfl); (case kFz9 => exact rfl); (case kKz9 => assumption); (case k1z9 => k_asm); (case k2z9 => k_asm); (case k3z9 => k_asm); (case k4z9 => k_asm); (case k5z9 => k_asm); (case k6z9 => k_is); (case k7z9 => k_is); (case k8z9 => ktr_room); (case k9z9 => first | exact BindsTo.of_eq rfl | exact binds_K (by k_in) rfl (by k_is) rfl rfl rfl); (case c5z9 => decide); (case kBz9 => exact locs rfl); (case c2z9 => exact rfl); (case c3z9 => exact rfl); (case c4z9 => exact rfl); k_whole; intro g' L' h' tk' K' G' FG' F' N' B' X' T' l1 l2; (try k_lt l1); (try dsimp only); (try k_lift B'); (try k_fold))
  k_with "M enter0" => (refine' enterM ?k1z9 ?k2z9 ?k3z9 ?k4z9 ?k5z9 ?kAz9 ?kFz9 ?kKz9 ?k6z9 ?k7z9 ?k8z9 ?k9z9 ?kBz9 ?_ ?c2z9 ?c3z9 ?c4z9 ?c5z9; (case kAz9 => exact rfl); (case kFz9 => exact rfl); (case kKz9 => assumption); (case k1z9 => k_asm); (case k2z9 => k_asm); (case k3z9 => k_asm); (case k4z9 => k_asm); (case k5z9 => k_asm); (case k6z9 => k_is); (case k7z9 => k_is); (case k8z9 => ktr_room); (case k9z9 => first | exact BindsTo.of_eq rfl | exact binds_K (by k_in) rfl (by k_is) rfl rfl rfl); (case c5z9 => decide); (case kBz9 => exact locs rfl); (case c2z9 => exact rfl); (case c3z9 => exact rfl); (case c4z9 => exact rfl); k_whole)
  k_with "M ar" => (first | with_reducible assumption | decide | omega | (simp [List.getD]; done) | (simp [List.getD]; omega))
  k_with "M keep" => (rename Kept _ _ [] => K7; (have F' := Kept.fr (by k_asm) K7); (have N' := Kept.news (by k_asm) K7); clear K7; (try dsimp only); (try k_sweep))
  k_with "M enterC" => (refine' enterMC ?k1z9 ?k2z9 ?k3z9 ?k4z9 ?k5z9 ?kAz9 ?kFz9 ?kKz9 ?k6z9 ?k7z9 ?k8z9 ?k9z9 ?kBz9 ?kDz9 ?_ ?c2z9 ?c3z9 ?c4z9; (case kAz9 => exact rfl); (case kFz9 => exact rfl); (case kKz9 => assumption); (case k1z9 => k_asm); (case k2z9 => k_asm); (case k3z9 => k_asm); (case k4z9 => k_asm); (case k5z9 => k_asm); (case k6z9 => k_is); (case k7z9 => k_is); (case k8z9 => ktr_room); (case k9z9 => first | exact BindsTo.of_eq rfl | exact binds_K (by k_in) rfl (by k_is) rfl rfl rfl); (case kBz9 => exact rfl); (case kDz9 => decide +kernel); (case c2z9 => exact rfl); (case c3z9 => exact rfl); (case c4z9 => exact rfl); k_whole; intro g' L' h' tk' cells' K' G' FG' F' N' Y' B' X' T' l1 l2; (try k_lt l1); k_cells Y'; (try simp only [List.cons_append, List.nil_append] at N'); (try dsimp only); (try k_lift B'); (try k_fold))
  k_with "M enterC0" => (refine' enterMC ?k1z9 ?k2z9 ?k3z9 ?k4z9 ?k5z9 ?kAz9 ?kFz9 ?kKz9 ?k6z9 ?k7z9 ?k8z9 ?k9z9 ?kBz9 ?kDz9 ?_ ?c2z9 ?c3z9 ?c4z9; (case kAz9 => exact rfl); (case kFz9 => exact rfl); (case kKz9 => assumption); (case k1z9 => k_asm); (case k2z9 => k_asm); (case k3z9 => k_asm); (case k4z9 => k_asm); (case k5z9 => k_asm); (case k6z9 => k_is); (case k7z9 => k_is); (case k8z9 => ktr_room); (case k9z9 => first | exact BindsTo.of_eq rfl | exact binds_K (by k_in) rfl (by k_is) rfl rfl rfl); (case kBz9 => exact rfl); (case kDz9 => decide +kernel); (case c2z9 => exact rfl); (case c3z9 => exact rfl); (case c4z9 => exact rfl); k_whole)
  k_with "exec Raise some none" => (k_here; k_dflt (refine raise_own (by exact rfl) ?_); (try k_fold))
  k_with "M raise" => (k_dflt (refine' tf_use ?Bz9 ?Fz9 ?Xz9 ?Tz9 ?hAz9 ?hfz9 ?hkez9 ?hroomz9 ?huz9 ?hhz9 ?hSz9 ?_; (case hAz9 => exact rfl); (case hfz9 => exact rfl); (case hkez9 => first | exact rfl | assumption); (case Bz9 => k_asm); (case Fz9 => k_asm); (case Xz9 => k_asm); (case Tz9 => k_asm); (case hroomz9 => ktr_room); (case huz9 => ktr_units); (case hhz9 => exact rfl); (case hSz9 => first | decide | decide +kernel | walk_at "M ar")); intro e9 dx9 t9 k1 k2 h9 tk9 kp9 ne9 he9 hdx9 nd9 ht9 nt9; (try k_unfold); show RaisableM _ _ _ _; refine ⟨_, _, _, rfl, he9, Frag.In.keeps (Frag.In.keeps (by k_asm) (Fr.keep (by k_asm))) kp9, ?_⟩; (repeat k_unfold); (try dsimp only); (k_dflt (refine' leaveM_first ?Kz9 ?Fz9 ?hsz9 ?hLz9 kp9 ne9 he9 hdx9 nd9 ?_ ?hkz9; (case Kz9 => k_asm); (case Fz9 => k_asm); (case hsz9 => exact Kept.out (by assumption) (by assumption)); (case hLz9 => assumption); (case hkz9 => exact rfl))); intro h8 R8)
  k_with "M next" => ((repeat k_unfold); (try dsimp only); (rename RaisedM _ _ _ _ _ _ _ => R7); (k_dflt (refine' leaveM_next ?Kz9 ?Fz9 R7 ?hsz9 ?hLz9 ?hysz9 ?_ ?hkz9; (case Kz9 => k_asm); (case Fz9 => k_asm); (case hsz9 => exact Kept.out (by assumption) (by assumption)); (case hLz9 => assumption); (case hysz9 => first | exact (fun _ hb => absurd hb List.not_mem_nil) | (walk_at "M ys")); (case hkz9 => exact rfl))); clear R7; intro h8 R8)
  k_with "M ys" => (intro b9 hb9; (simp only [List.mem_cons, List.not_mem_nil, or_false] at hb9); rcases hb9 with hb9 | hb9 <;> (subst hb9; first | (refine Or.inl ?_; simp only [List.map_cons, List.map_nil, List.mem_cons, List.not_mem_nil, or_false, true_or, or_true]; done) | (refine Or.inr ?_; walk_at "M new")))
  k_with "call ref" => (k_here; (with_reducible show wpAny _ _ (call (Value.ref 106) [Value.ref _, Value.int 2 _]) _ _ _); (k_dflt (refine' onum_use ?Bz9 ?Fz9 ?Xz9 ?Tz9 ?hkz9 ?Nz9 ?hxz9 ?Uz9 ?hnez9 ?hdz9 ?huz9 ?hbz9 ?hfitz9 ?h0z9 ?_ ?_)); (case Bz9 => k_asm); (case Fz9 => k_asm); (case Xz9 => k_asm); (case Tz9 => k_asm); (case hkz9 => first | exact rfl | assumption); (case Nz9 => k_asm); (case hxz9 => k_mem); (case Uz9 => k_updF); (case hnez9 => k_ne); (case hdz9 => ktr_room); (case huz9 => ktr_units); (case hbz9 => k_asm); (case hfitz9 => walk_at "M ar"); (case h0z9 => walk_at "M ar"); (all_goals (first | (intro p1 e' h' tk' R7; (with_reducible rename RaisedM _ _ _ _ _ _ _ => R7); (first | (exfalso; omega) | walk_at "M next")) | (intro p1 tt kk1 kk2 tt2 h' tk' F' N'; (try dsimp only at N'); (try dsimp only); (try k_sweep); (try k_fold)))))
  exact trivial
section
variable {w : World} {mean : ExcName → Option Value} {mg mb : Str → Option Value} {dp un : Nat} {gd : Option (List Code)} {cn : Str} {cs : Scope} {a : Addr} {ccd : Value} {cl : List (Str × Addr)} {outer : List Env} {A₀ : Around} {base h₀ : Heap} {L : Addr} {m : Str → Option Value} {s : Shared} {Q E : Value → Shared → Prop}
   (B : Below A₀ base outer h₀) (F : Fr h₀ L s.heap m) (X : (heapK w.params).In h₀) (T : Top prgV (looseW prgV [Str.ofString "ShapeError"]) mean mg mb h₀) (hk : cs.kind = .function)
include B F X T hk
set_option maxRecDepth 100000 in
set_option maxHeartbeats 8000000 in
theorem ou16_spec {b : Array UInt8} {ks : List Int} {x dx : Addr} {k1 k2 t1 t2 : Tok} {at' : Int}
   (N : News h₀ L s.heap [(x, instObj 163 dx), (dx, dictOf [⟨PyData.keyHash w.params "data", .str "data" k1, .bytes b t1⟩, ⟨PyData.keyHash w.params "at", .str "at" k2, .int at' t2⟩] 2)]) (hne : x ≠ dx)
   (hd : dp + 36 < recursionLimit) (hu : un + 360 < cLine)
   (hb : KBw.bInts b = ks) (hfit : ks.length ≤ 100000) (h0 : 0 ≤ at')
   (hret : at' + 2 ≤ ks.length → ∀ t k1 k2 t2' h' tk', Kept s.heap h' [dx] → h'.get? dx = some (dictOf [⟨PyData.keyHash w.params "data", .str "data" k1, .bytes b t1⟩, ⟨PyData.keyHash w.params "at", .str "at" k2, .int (at' + 2) t2'⟩] 2) → Q (.int (n2 ks at') t) { s with heap := h', toks := tk' })
   (hexc : ¬ (at' + 2 ≤ ks.length) → ∀ e h' tk', RaisedM w.params s.heap [x, dx] (envX cn cs L a ccd cl :: outer) e at' h' → E (.ref e) { s with heap := h', toks := tk' }) :
   wpAny (model Challenge.rw_nu0154_01.row.prog w) (ktrTop dp un gd cn cs L a ccd cl outer) (call (.ref 120) [.ref x]) Q E s := by
  have hne := neN hne
  revert X; k_fill; intro X
  refine wpAny_call ?_
  k_dflt (walk_at "M enter")
  k_steps
  rotate_right
  · exact hexc (by omega) _ _ _ (by assumption)
  · refine' hret (by omega) _ _ _ _ _ _ ?a1 ?a2
    case a2 => exact News.get (by assumption) (.tail _ (.head _))
    case a1 => exact Kept.drop (Kept.out (by assumption) (by assumption)) (N _ (.head _)).1 (News.get (by assumption) (.head _))
theorem ou16_use {b : Array UInt8} {ks : List Int} {x dx : Addr} {k1 k2 t1 t2 : Tok} {at' : Int} {news : List (Addr × Obj)} {g : Obj → List (Addr × Obj)}
   (N : News h₀ L s.heap news) (hx : (x, instObj 163 dx) ∈ news) (U : UpdF dx (dictOf [⟨PyData.keyHash w.params "data", .str "data" k1, .bytes b t1⟩, ⟨PyData.keyHash w.params "at", .str "at" k2, .int at' t2⟩] 2) news g) (hne : x ≠ dx)
   (hd : dp + 36 < recursionLimit) (hu : un + 360 < cLine)
   (hb : KBw.bInts b = ks) (hfit : ks.length ≤ 100000) (h0 : 0 ≤ at')
   (hret : at' + 2 ≤ ks.length → ∀ t k1 k2 t2' h' tk', Fr h₀ L h' m → News h₀ L h' (g (dictOf [⟨PyData.keyHash w.params "data", .str "data" k1, .bytes b t1⟩, ⟨PyData.keyHash w.params "at", .str "at" k2, .int (at' + 2) t2'⟩] 2)) → Q (.int (n2 ks at') t) { s with heap := h', toks := tk' })
   (hexc : ¬ (at' + 2 ≤ ks.length) → ∀ e h' tk', RaisedM w.params s.heap [x, dx] (envX cn cs L a ccd cl :: outer) e at' h' → E (.ref e) { s with heap := h', toks := tk' }) :
   wpAny (model Challenge.rw_nu0154_01.row.prog w) (ktrTop dp un gd cn cs L a ccd cl outer) (call (.ref 120) [.ref x]) Q E s := by
  have N1 : News h₀ L s.heap [(x, instObj 163 dx), (dx, dictOf [⟨PyData.keyHash w.params "data", .str "data" k1, .bytes b t1⟩, ⟨PyData.keyHash w.params "at", .str "at" k2, .int at' t2⟩] 2)] := fun p hp => by
    rcases List.mem_cons.mp hp with rfl | hp
    · exact N _ hx
    · exact UpdF.only N U _ hp
  refine ou16_spec B F X T hk N1 hne hd hu hb hfit h0 (fun p1 t k1 k2 t2' h' tk' kp e => ?_) hexc
  obtain ⟨F', N'⟩ := Kept.updF F N U kp e
  exact hret p1 t k1 k2 t2' h' tk' F' N'
end
end
section
theorem rT20_0 : True := by
  k_with_none
  k_with "ne" => (refine neN ?_; (try dsimp only); first | with_reducible assumption | exact Ne.symm (by with_reducible assumption) | exact off_ne (by with_reducible assumption) (by k_mem) | exact Ne.symm (off_ne (by with_reducible assumption) (by k_mem)) | exact off_i (by with_reducible assumption) (by k_mem) | exact off_c (by with_reducible assumption) (by k_mem) | exact off_d (by with_reducible assumption) (by k_mem) | exact Ne.symm (off_i (by with_reducible assumption) (by k_mem)) | exact Ne.symm (off_c (by with_reducible assumption) (by k_mem)) | exact Ne.symm (off_d (by with_reducible assumption) (by k_mem)) | exact Ne3.a (by with_reducible assumption) | exact Ne3.b (by with_reducible assumption) | exact Ne3.c (by with_reducible assumption) | exact Ne.symm (Ne3.a (by with_reducible assumption)) | exact Ne.symm (Ne3.b (by with_reducible assumption)) | exact Ne.symm (Ne3.c (by with_reducible assumption)) | exact NeA.ne (by with_reducible assumption) | exact Ne.symm (NeA.ne (by with_reducible assumption)) | exact Nat.ne_of_lt (by with_reducible assumption) | exact Nat.ne_of_gt (by with_reducible assumption) | exact Nat.ne_of_lt (And.left (by with_reducible assumption)) | exact Nat.ne_of_gt (And.left (by with_reducible assumption)) | exact Nat.ne_of_lt (And.left (And.right (by with_reducible assumption))) | exact Nat.ne_of_gt (And.left (And.right (by with_reducible assumption))) | exact Nat.ne_of_lt (And.right (by with_reducible assumption)) | exact Nat.ne_of_gt (And.right (by with_reducible assumption)) | exact Nat.ne_of_lt (And.right (And.right (by with_reducible assumption))) | exact Nat.ne_of_gt (And.right (And.right (by with_reducible assumption))) | exact Nat.ne_of_lt (And.left (And.right (And.right (by with_reducible assumption)))) | exact Nat.ne_of_gt (And.left (And.right (And.right (by with_reducible assumption)))))
  k_with "M enter" => (refine' enterM ?k1z9 ?k2z9 ?k3z9 ?k4z9 ?k5z9 ?kAz9 ?kFz9 ?kKz9 ?k6z9 ?k7z9 ?k8z9 ?k9z9 ?kBz9 ?_ ?c2z9 ?c3z9 ?c4z9 ?c5z9; (case kAz9 => exact rfl); (case kFz9 => exact rfl); (case kKz9 => assumption); (case k1z9 => k_asm); (case k2z9 => k_asm); (case k3z9 => k_asm); (case k4z9 => k_asm); (case k5z9 => k_asm); (case k6z9 => k_is); (case k7z9 => k_is); (case k8z9 => ktr_room); (case k9z9 => first | exact BindsTo.of_eq rfl | exact binds_K (by k_in) rfl (by k_is) rfl rfl rfl); (case c5z9 => decide); (case kBz9 => exact locs rfl); (case c2z9 => exact rfl); (case c3z9 => exact rfl); (case c4z9 => exact rfl); k_whole; intro g' L' h' tk' K' G' FG' F' N' B' X' T' l1 l2; (try k_lt l1); (try dsimp only); (try k_lift B'); (try k_fold))
  k_with "M enter0" => (refine' enterM ?k1z9 ?k2z9 ?k3z9 ?k4z9 ?k5z9 ?kAz9 ?kFz9 ?kKz9 ?k6z9 ?k7z9 ?k8z9 ?k9z9 ?kBz9 ?_ ?c2z9 ?c3z9 ?c4z9 ?c5z9; (case kAz9 => exact rfl); (case kFz9 => exact rfl); (case kKz9 => assumption); (case k1z9 => k_asm); (case k2z9 => k_asm); (case k3z9 => k_asm); (case k4z9 => k_asm); (case k5z9 => k_asm); (case k6z9 => k_is); (case k7z9 => k_is); (case k8z9 => ktr_room); (case k9z9 => first | exact BindsTo.of_eq rfl | exact binds_K (by k_in) rfl (by k_is) rfl rfl rfl); (case c5z9 => decide); (case kBz9 => exact locs rfl); (case c2z9 => exact rfl); (case c3z9 => exact rfl); (case c4z9 => exact rfl); k_whole)
  k_with "M ar" => (first | with_reducible assumption | decide | omega | (simp [List.getD]; done) | (simp [List.getD]; omega))
  k_with "M keep" => (rename Kept _ _ [] => K7; (have F' := Kept.fr (by k_asm) K7); (have N' := Kept.news (by k_asm) K7); clear K7; (try dsimp only); (try k_sweep))
  k_with "M enterC" => (refine' enterMC ?k1z9 ?k2z9 ?k3z9 ?k4z9 ?k5z9 ?kAz9 ?kFz9 ?kKz9 ?k6z9 ?k7z9 ?k8z9 ?k9z9 ?kBz9 ?kDz9 ?_ ?c2z9 ?c3z9 ?c4z9; (case kAz9 => exact rfl); (case kFz9 => exact rfl); (case kKz9 => assumption); (case k1z9 => k_asm); (case k2z9 => k_asm); (case k3z9 => k_asm); (case k4z9 => k_asm); (case k5z9 => k_asm); (case k6z9 => k_is); (case k7z9 => k_is); (case k8z9 => ktr_room); (case k9z9 => first | exact BindsTo.of_eq rfl | exact binds_K (by k_in) rfl (by k_is) rfl rfl rfl); (case kBz9 => exact rfl); (case kDz9 => decide +kernel); (case c2z9 => exact rfl); (case c3z9 => exact rfl); (case c4z9 => exact rfl); k_whole; intro g' L' h' tk' cells' K' G' FG' F' N' Y' B' X' T' l1 l2; (try k_lt l1); k_cells Y'; (try simp only [List.cons_append, List.nil_append] at N'); (try dsimp only); (try k_lift B'); (try k_fold))
  k_with "M enterC0" => (refine' enterMC ?k1z9 ?k2z9 ?k3z9 ?k4z9 ?k5z9 ?kAz9 ?kFz9 ?kKz9 ?k6z9 ?k7z9 ?k8z9 ?k9z9 ?kBz9 ?kDz9 ?_ ?c2z9 ?c3z9 ?c4z9; (case kAz9 => exact rfl); (case kFz9 => exact rfl); (case kKz9 => assumption); (case k1z9 => k_asm); (case k2z9 => k_asm); (case k3z9 => k_asm); (case k4z9 => k_asm); (case k5z9 => k_asm); (case k6z9 => k_is); (case k7z9 => k_is); (case k8z9 => ktr_room); (case k9z9 => first | exact BindsTo.of_eq rfl | exact binds_K (by k_in) rfl (by k_is) rfl rfl rfl); (case kBz9 => exact rfl); (case kDz9 => decide +kernel); (case c2z9 => exact rfl); (case c3z9 => exact rfl); (case c4z9 => exact rfl); k_whole)
  k_with "exec Raise some none" => (k_here; k_dflt (refine raise_own (by exact rfl) ?_); (try k_fold))
  k_with "M raise" => (k_dflt (refine' tf_use ?Bz9 ?Fz9 ?Xz9 ?Tz9 ?hAz9 ?hfz9 ?hkez9 ?hroomz9 ?huz9 ?hhz9 ?hSz9 ?_; (case hAz9 => exact rfl); (case hfz9 => exact rfl); (case hkez9 => first | exact rfl | assumption); (case Bz9 => k_asm); (case Fz9 => k_asm); (case Xz9 => k_asm); (case Tz9 => k_asm); (case hroomz9 => ktr_room); (case huz9 => ktr_units); (case hhz9 => exact rfl); (case hSz9 => first | decide | decide +kernel | walk_at "M ar")); intro e9 dx9 t9 k1 k2 h9 tk9 kp9 ne9 he9 hdx9 nd9 ht9 nt9; (try k_unfold); show RaisableM _ _ _ _; refine ⟨_, _, _, rfl, he9, Frag.In.keeps (Frag.In.keeps (by k_asm) (Fr.keep (by k_asm))) kp9, ?_⟩; (repeat k_unfold); (try dsimp only); (k_dflt (refine' leaveM_first ?Kz9 ?Fz9 ?hsz9 ?hLz9 kp9 ne9 he9 hdx9 nd9 ?_ ?hkz9; (case Kz9 => k_asm); (case Fz9 => k_asm); (case hsz9 => exact Kept.out (by assumption) (by assumption)); (case hLz9 => assumption); (case hkz9 => exact rfl))); intro h8 R8)
  k_with "M next" => ((repeat k_unfold); (try dsimp only); (rename RaisedM _ _ _ _ _ _ _ => R7); (k_dflt (refine' leaveM_next ?Kz9 ?Fz9 R7 ?hsz9 ?hLz9 ?hysz9 ?_ ?hkz9; (case Kz9 => k_asm); (case Fz9 => k_asm); (case hsz9 => exact Kept.out (by assumption) (by assumption)); (case hLz9 => assumption); (case hysz9 => first | exact (fun _ hb => absurd hb List.not_mem_nil) | (walk_at "M ys")); (case hkz9 => exact rfl))); clear R7; intro h8 R8)
  k_with "call ref" => (k_here; (with_reducible show wpAny _ _ (call (Value.ref 70) [Value.bytes _ _, Value.int _ _, Value.int _ _]) _ _ _); k_dflt (refine' check_room_spec ?Bz9 ?Fz9 ?Xz9 ?Tz9 ?hkz9 ?hdz9 ?huz9 ?hbz9 ?hfitz9 ?_ ?_; (case Bz9 => k_asm); (case Fz9 => k_asm); (case Xz9 => k_asm); (case Tz9 => k_asm); (case hkz9 => first | exact rfl | assumption); (case hdz9 => ktr_room); (case huz9 => ktr_units); (case hbz9 => k_asm); (case hfitz9 => walk_at "M ar")); (all_goals (first | (intro p1 e' h' tk' R7; (with_reducible rename RaisedM _ _ _ _ _ _ _ => R7); (first | (exfalso; omega) | walk_at "M next")) | (intro p1 p2 h' tk' K7; walk_at "M keep"))))
  k_with "call ref" => (k_here; (with_reducible show wpAny _ _ (call (Value.ref 77) [Value.bytes _ _, Value.int _ _, Value.int 2 _]) _ _ _); k_dflt (refine' number_at_spec ?Bz9 ?Fz9 ?Xz9 ?Tz9 ?hkz9 ?hdz9 ?huz9 ?hbz9 ?hfitz9 ?h0z9 ?_ ?_; (case Bz9 => k_asm); (case Fz9 => k_asm); (case Xz9 => k_asm); (case Tz9 => k_asm); (case hkz9 => first | exact rfl | assumption); (case hdz9 => ktr_room); (case huz9 => ktr_units); (case hbz9 => k_asm); (case hfitz9 => walk_at "M ar"); (case h0z9 => walk_at "M ar")); (all_goals (first | (intro p1 e' h' tk' R7; (with_reducible rename RaisedM _ _ _ _ _ _ _ => R7); (first | (exfalso; omega) | walk_at "M next")) | (intro p1 tt h' tk' K7; walk_at "M keep"))))
  exact trivial
section
variable {w : World} {mean : ExcName → Option Value} {mg mb : Str → Option Value} {dp un : Nat} {gd : Option (List Code)} {cn : Str} {cs : Scope} {a : Addr} {ccd : Value} {cl : List (Str × Addr)} {outer : List Env} {A₀ : Around} {base h₀ : Heap} {L : Addr} {m : Str → Option Value} {s : Shared} {Q E : Value → Shared → Prop}
   (B : Below A₀ base outer h₀) (F : Fr h₀ L s.heap m) (X : (heapK w.params).In h₀) (T : Top prgV (looseW prgV [Str.ofString "ShapeError"]) mean mg mb h₀) (hk : cs.kind = .function)
include B F X T hk
set_option maxRecDepth 100000 in
set_option maxHeartbeats 8000000 in
theorem need_spec {b : Array UInt8} {ks : List Int} {x dx : Addr} {k1 k2 t1 t2 t3 : Tok} {at' c : Int}
   (N : News h₀ L s.heap [(x, instObj 163 dx), (dx, dictOf [⟨PyData.keyHash w.params "data", .str "data" k1, .bytes b t1⟩, ⟨PyData.keyHash w.params "at", .str "at" k2, .int at' t2⟩] 2)]) (hne : x ≠ dx)
   (hd : dp + 34 < recursionLimit) (hu : un + 340 < cLine)
   (hb : KBw.bInts b = ks) (hfit : ks.length ≤ 100000) (h0 : 0 ≤ at') (h1 : at' + c ≤ ks.length)
   (hret : ∀ h' tk', Kept s.heap h' [] → Q .none { s with heap := h', toks := tk' }) :
   wpAny (model Challenge.rw_nu0154_01.row.prog w) (ktrTop dp un gd cn cs L a ccd cl outer) (call (.ref 99) [.ref x, .int c t3]) Q E s := by
  have hne := neN hne
  revert X; k_fill; intro X
  refine wpAny_call ?_
  k_dflt (walk_at "M enter")
  k_steps
  exact hret _ _ (Kept.drop (Kept.drop (Kept.out (by assumption) (by assumption)) (N _ (.head _)).1 (News.get (by assumption) (.head _))) (N _ (.tail _ (.head _))).1 (News.get (by assumption) (.tail _ (.head _))))
theorem need_use {b : Array UInt8} {ks : List Int} {x dx : Addr} {k1 k2 t1 t2 t3 : Tok} {at' c : Int} {news : List (Addr × Obj)}
   (N : News h₀ L s.heap news) (hx : (x, instObj 163 dx) ∈ news) (hdx : (dx, dictOf [⟨PyData.keyHash w.params "data", .str "data" k1, .bytes b t1⟩, ⟨PyData.keyHash w.params "at", .str "at" k2, .int at' t2⟩] 2) ∈ news) (hne : x ≠ dx)
   (hd : dp + 34 < recursionLimit) (hu : un + 340 < cLine)
   (hb : KBw.bInts b = ks) (hfit : ks.length ≤ 100000) (h0 : 0 ≤ at') (h1 : at' + c ≤ ks.length)
   (hret : ∀ h' tk', Kept s.heap h' [] → Q .none { s with heap := h', toks := tk' }) :
   wpAny (model Challenge.rw_nu0154_01.row.prog w) (ktrTop dp un gd cn cs L a ccd cl outer) (call (.ref 99) [.ref x, .int c t3]) Q E s := by
  have N1 : News h₀ L s.heap [(x, instObj 163 dx), (dx, dictOf [⟨PyData.keyHash w.params "data", .str "data" k1, .bytes b t1⟩, ⟨PyData.keyHash w.params "at", .str "at" k2, .int at' t2⟩] 2)] := fun p hp => by
    rcases List.mem_cons.mp hp with rfl | hp
    · exact N _ hx
    · rcases List.mem_singleton.mp hp with rfl; exact N _ hdx
  exact need_spec B F X T hk N1 hne hd hu hb hfit h0 h1 hret
end
end
section
theorem rT21_0 : True := by
  k_with_none
  k_with "ne" => (refine neN ?_; (try dsimp only); first | with_reducible assumption | exact Ne.symm (by with_reducible assumption) | exact off_ne (by with_reducible assumption) (by k_mem) | exact Ne.symm (off_ne (by with_reducible assumption) (by k_mem)) | exact off_i (by with_reducible assumption) (by k_mem) | exact off_c (by with_reducible assumption) (by k_mem) | exact off_d (by with_reducible assumption) (by k_mem) | exact Ne.symm (off_i (by with_reducible assumption) (by k_mem)) | exact Ne.symm (off_c (by with_reducible assumption) (by k_mem)) | exact Ne.symm (off_d (by with_reducible assumption) (by k_mem)) | exact Ne3.a (by with_reducible assumption) | exact Ne3.b (by with_reducible assumption) | exact Ne3.c (by with_reducible assumption) | exact Ne.symm (Ne3.a (by with_reducible assumption)) | exact Ne.symm (Ne3.b (by with_reducible assumption)) | exact Ne.symm (Ne3.c (by with_reducible assumption)) | exact NeA.ne (by with_reducible assumption) | exact Ne.symm (NeA.ne (by with_reducible assumption)) | exact Nat.ne_of_lt (by with_reducible assumption) | exact Nat.ne_of_gt (by with_reducible assumption) | exact Nat.ne_of_lt (And.left (by with_reducible assumption)) | exact Nat.ne_of_gt (And.left (by with_reducible assumption)) | exact Nat.ne_of_lt (And.left (And.right (by with_reducible assumption))) | exact Nat.ne_of_gt (And.left (And.right (by with_reducible assumption))) | exact Nat.ne_of_lt (And.right (by with_reducible assumption)) | exact Nat.ne_of_gt (And.right (by with_reducible assumption)) | exact Nat.ne_of_lt (And.right (And.right (by with_reducible assumption))) | exact Nat.ne_of_gt (And.right (And.right (by with_reducible assumption))) | exact Nat.ne_of_lt (And.left (And.right (And.right (by with_reducible assumption)))) | exact Nat.ne_of_gt (And.left (And.right (And.right (by with_reducible assumption)))))
  k_with "M enter" => (refine' enterM ?k1z9 ?k2z9 ?k3z9 ?k4z9 ?k5z9 ?kAz9 ?kFz9 ?kKz9 ?k6z9 ?k7z9 ?k8z9 ?k9z9 ?kBz9 ?_ ?c2z9 ?c3z9 ?c4z9 ?c5z9; (case kAz9 => exact rfl); (case kFz9 => exact rfl); (case kKz9 => assumption); (case k1z9 => k_asm); (case k2z9 => k_asm); (case k3z9 => k_asm); (case k4z9 => k_asm); (case k5z9 => k_asm); (case k6z9 => k_is); (case k7z9 => k_is); (case k8z9 => ktr_room); (case k9z9 => first | exact BindsTo.of_eq rfl | exact binds_K (by k_in) rfl (by k_is) rfl rfl rfl); (case c5z9 => decide); (case kBz9 => exact locs rfl); (case c2z9 => exact rfl); (case c3z9 => exact rfl); (case c4z9 => exact rfl); k_whole; intro g' L' h' tk' K' G' FG' F' N' B' X' T' l1 l2; (try k_lt l1); (try dsimp only); (try k_lift B'); (try k_fold))
  k_with "M enter0" => (refine' enterM ?k1z9 ?k2z9 ?k3z9 ?k4z9 ?k5z9 ?kAz9 ?kFz9 ?kKz9 ?k6z9 ?k7z9 ?k8z9 ?k9z9 ?kBz9 ?_ ?c2z9 ?c3z9 ?c4z9 ?c5z9; (case kAz9 => exact rfl); (case kFz9 => exact rfl); (case kKz9 => assumption); (case k1z9 => k_asm); (case k2z9 => k_asm); (case k3z9 => k_asm); (case k4z9 => k_asm); (case k5z9 => k_asm); (case k6z9 => k_is); (case k7z9 => k_is); (case k8z9 => ktr_room); (case k9z9 => first | exact BindsTo.of_eq rfl | exact binds_K (by k_in) rfl (by k_is) rfl rfl rfl); (case c5z9 => decide); (case kBz9 => exact locs rfl); (case c2z9 => exact rfl); (case c3z9 => exact rfl); (case c4z9 => exact rfl); k_whole)
  k_with "M ar" => (first | with_reducible assumption | decide | omega | (simp [List.getD]; done) | (simp [List.getD]; omega))
  k_with "M keep" => (rename Kept _ _ [] => K7; (have F' := Kept.fr (by k_asm) K7); (have N' := Kept.news (by k_asm) K7); clear K7; (try dsimp only); (try k_sweep))
  k_with "M enterC" => (refine' enterMC ?k1z9 ?k2z9 ?k3z9 ?k4z9 ?k5z9 ?kAz9 ?kFz9 ?kKz9 ?k6z9 ?k7z9 ?k8z9 ?k9z9 ?kBz9 ?kDz9 ?_ ?c2z9 ?c3z9 ?c4z9; (case kAz9 => exact rfl); (case kFz9 => exact rfl); (case kKz9 => assumption); (case k1z9 => k_asm); (case k2z9 => k_asm); (case k3z9 => k_asm); (case k4z9 => k_asm); (case k5z9 => k_asm); (case k6z9 => k_is); (case k7z9 => k_is); (case k8z9 => ktr_room); (case k9z9 => first | exact BindsTo.of_eq rfl | exact binds_K (by k_in) rfl (by k_is) rfl rfl rfl); (case kBz9 => exact rfl); (case kDz9 => decide +kernel); (case c2z9 => exact rfl); (case c3z9 => exact rfl); (case c4z9 => exact rfl); k_whole; intro g' L' h' tk' cells' K' G' FG' F' N' Y' B' X' T' l1 l2; (try k_lt l1); k_cells Y'; (try simp only [List.cons_append, List.nil_append] at N'); (try dsimp only); (try k_lift B'); (try k_fold))
  k_with "M enterC0" => (refine' enterMC ?k1z9 ?k2z9 ?k3z9 ?k4z9 ?k5z9 ?kAz9 ?kFz9 ?kKz9 ?k6z9 ?k7z9 ?k8z9 ?k9z9 ?kBz9 ?kDz9 ?_ ?c2z9 ?c3z9 ?c4z9; (case kAz9 => exact rfl); (case kFz9 => exact rfl); (case kKz9 => assumption); (case k1z9 => k_asm); (case k2z9 => k_asm); (case k3z9 => k_asm); (case k4z9 => k_asm); (case k5z9 => k_asm); (case k6z9 => k_is); (case k7z9 => k_is); (case k8z9 => ktr_room); (case k9z9 => first | exact BindsTo.of_eq rfl | exact binds_K (by k_in) rfl (by k_is) rfl rfl rfl); (case kBz9 => exact rfl); (case kDz9 => decide +kernel); (case c2z9 => exact rfl); (case c3z9 => exact rfl); (case c4z9 => exact rfl); k_whole)
  k_with "exec Raise some none" => (k_here; k_dflt (refine raise_own (by exact rfl) ?_); (try k_fold))
  k_with "M raise" => (k_dflt (refine' tf_use ?Bz9 ?Fz9 ?Xz9 ?Tz9 ?hAz9 ?hfz9 ?hkez9 ?hroomz9 ?huz9 ?hhz9 ?hSz9 ?_; (case hAz9 => exact rfl); (case hfz9 => exact rfl); (case hkez9 => first | exact rfl | assumption); (case Bz9 => k_asm); (case Fz9 => k_asm); (case Xz9 => k_asm); (case Tz9 => k_asm); (case hroomz9 => ktr_room); (case huz9 => ktr_units); (case hhz9 => exact rfl); (case hSz9 => first | decide | decide +kernel | walk_at "M ar")); intro e9 dx9 t9 k1 k2 h9 tk9 kp9 ne9 he9 hdx9 nd9 ht9 nt9; (try k_unfold); show RaisableM _ _ _ _; refine ⟨_, _, _, rfl, he9, Frag.In.keeps (Frag.In.keeps (by k_asm) (Fr.keep (by k_asm))) kp9, ?_⟩; (repeat k_unfold); (try dsimp only); (k_dflt (refine' leaveM_first ?Kz9 ?Fz9 ?hsz9 ?hLz9 kp9 ne9 he9 hdx9 nd9 ?_ ?hkz9; (case Kz9 => k_asm); (case Fz9 => k_asm); (case hsz9 => exact Kept.out (by assumption) (by assumption)); (case hLz9 => assumption); (case hkz9 => exact rfl))); intro h8 R8)
  k_with "M next" => ((repeat k_unfold); (try dsimp only); (rename RaisedM _ _ _ _ _ _ _ => R7); (k_dflt (refine' leaveM_next ?Kz9 ?Fz9 R7 ?hsz9 ?hLz9 ?hysz9 ?_ ?hkz9; (case Kz9 => k_asm); (case Fz9 => k_asm); (case hsz9 => exact Kept.out (by assumption) (by assumption)); (case hLz9 => assumption); (case hysz9 => first | exact (fun _ hb => absurd hb List.not_mem_nil) | (walk_at "M ys")); (case hkz9 => exact rfl))); clear R7; intro h8 R8)
  k_with "M ys" => (intro b9 hb9; (simp only [List.mem_cons, List.not_mem_nil, or_false] at hb9); rcases hb9 with hb9 | hb9 <;> (subst hb9; first | (refine Or.inl ?_; simp only [List.map_cons, List.map_nil, List.mem_cons, List.not_mem_nil, or_false, true_or, or_true]; done) | (refine Or.inr ?_; walk_at "M new")))
  k_with "call ref" => (k_here; (first | (with_reducible show wpAny _ _ (call (Value.ref 120) [Value.ref _]) _ _ _) | ((with_reducible show wpAny _ _ (call (Value.ref 120) ([Value.ref _] ++ [])) _ _ _); dsimp only [List.cons_append, List.nil_append])); (k_dflt (refine' ou16_use ?Bz9 ?Fz9 ?Xz9 ?Tz9 ?hkz9 ?Nz9 ?hxz9 ?Uz9 ?hnez9 ?hdz9 ?huz9 ?hbz9 ?hfitz9 ?h0z9 ?_ ?_)); (case Bz9 => k_asm); (case Fz9 => k_asm); (case Xz9 => k_asm); (case Tz9 => k_asm); (case hkz9 => first | exact rfl | assumption); (case Nz9 => k_asm); (case hxz9 => k_mem); (case Uz9 => k_updF); (case hnez9 => k_ne); (case hdz9 => ktr_room); (case huz9 => ktr_units); (case hbz9 => k_asm); (case hfitz9 => walk_at "M ar"); (case h0z9 => walk_at "M ar"); (all_goals (first | (intro p1 e' h' tk' R7; (with_reducible rename RaisedM _ _ _ _ _ _ _ => R7); (first | (exfalso; omega) | walk_at "M next")) | (intro p1 tt kk1 kk2 tt2 h' tk' F' N'; (try dsimp only at N'); (try dsimp only); (try k_sweep); (try k_fold)))))
  k_with "call ref" => (k_here; (with_reducible show wpAny _ _ (call (Value.ref 99) [Value.ref _, Value.int _ _]) _ _ _); (k_dflt (refine' need_use ?Bz9 ?Fz9 ?Xz9 ?Tz9 ?hkz9 ?Nz9 ?hxz9 ?Uz9 ?hnez9 ?hdz9 ?huz9 ?hbz9 ?hfitz9 ?h0z9 ?h1z9 ?_)); (case Bz9 => k_asm); (case Fz9 => k_asm); (case Xz9 => k_asm); (case Tz9 => k_asm); (case hkz9 => first | exact rfl | assumption); (case Nz9 => k_asm); (case hxz9 => k_mem); (case Uz9 => k_mem); (case hnez9 => k_ne); (case hdz9 => ktr_room); (case huz9 => ktr_units); (case hbz9 => k_asm); (case hfitz9 => walk_at "M ar"); (case h0z9 => walk_at "M ar"); (case h1z9 => walk_at "M ar"); (intro h' tk' K7; walk_at "M keep"))
  exact trivial
section
variable {w : World} {mean : ExcName → Option Value} {mg mb : Str → Option Value} {dp un : Nat} {gd : Option (List Code)} {cn : Str} {cs : Scope} {a : Addr} {ccd : Value} {cl : List (Str × Addr)} {outer : List Env} {A₀ : Around} {base h₀ : Heap} {L : Addr} {m : Str → Option Value} {s : Shared} {Q E : Value → Shared → Prop}
   (B : Below A₀ base outer h₀) (F : Fr h₀ L s.heap m) (X : (heapK w.params).In h₀) (T : Top prgV (looseW prgV [Str.ofString "ShapeError"]) mean mg mb h₀) (hk : cs.kind = .function)
include B F X T hk
theorem rT21_1 : True := by
  k_with "CompSrc" => (refine stopped ?_)
  exact trivial
set_option maxRecDepth 100000 in
set_option maxHeartbeats 8000000 in
theorem rows_spec {b : Array UInt8} {ks : List Int} {x dx : Addr} {k1 k2 t1 t2 t3 : Tok} {at' : Int} {n : Nat}
   (N : News h₀ L s.heap [(x, instObj 163 dx), (dx, dictOf [⟨PyData.keyHash w.params "data", .str "data" k1, .bytes b t1⟩, ⟨PyData.keyHash w.params "at", .str "at" k2, .int at' t2⟩] 2)]) (hne : x ≠ dx)
   (hd : dp + 40 < recursionLimit) (hu : un + 400 < cLine)
   (hb : KBw.bInts b = ks) (hfit : ks.length ≤ 100000) (h0 : 0 ≤ at') (h1 : at' + 2 * n ≤ ks.length)
   (hret : ∀ ys D k1 k2 t2' h' tk', IntsAre ys (nums ks at' n) → Kept s.heap h' [dx] → h'.get? dx = some (dictOf [⟨PyData.keyHash w.params "data", .str "data" k1, .bytes b t1⟩, ⟨PyData.keyHash w.params "at", .str "at" k2, .int (at' + 2 * (n : Int)) t2'⟩] 2) → h'.get? D = some (LCg.lst ys) → s.heap.get? D = none → Q (.ref D) { s with heap := h', toks := tk' }) :
   wpAny (model Challenge.rw_nu0154_01.row.prog w) (ktrTop dp un gd cn cs L a ccd cl outer) (call (.ref 153) [.ref x, .int n t3]) Q E s := by
  have hne := neN hne
  revert X; k_fill; intro X
  refine wpAny_call ?_
  k_dflt (walk_at "M enterC0")
  intro g1 L1 hh1 tk1 cells1 K1 G1 FG1 F1 N1 Y1 B1 X1 T1 l1 l2
  k_lt l1
  k_cells Y1
  rename_i o1 d1
  simp only [List.cons_append, List.nil_append] at N1
  dsimp only
  k_lift B1
  try k_fold
  k_steps
  refine Stop.go ?_
  refine LCg.CompSrc.range (n := n) (by rfl) (by k_asm) (by k_asm) (by assumption) ?sm ?sz (by rw [PySem.sizeLine_eq]; omega) ?_
  case sm => exact small_one (by omega) (by omega) (by omega) (by omega)
  case sz => exact rangeSize_nat _ _
  intro g'
  refine comp_rest (fun i ys nw => ∃ k1 k2 t2', nw = [(L1 + 1, o1), (x, instObj 163 dx), (dx, dictOf [⟨PyData.keyHash w.params "data", .str "data" k1, .bytes b t1⟩, ⟨PyData.keyHash w.params "at", .str "at" k2, .int (at' + 2 * (i : Int)) t2'⟩] 2)] ∧ IntsAre ys (nums ks at' i)) ?_ ?_ ?_
  · refine ⟨k1, k2, t2, ?_, .nil⟩
    simp
  · intro i v I oI C oC D m₂ ys nw h tk E' hi hv hJ hC hx F3 N3 off ne
    obtain ⟨k1', k2', t2', rfl, hy⟩ := hJ
    obtain ⟨t9, rfl⟩ := hv
    try k_fold
    k_steps
    have e : at' + 2 * (i : Int) + 2 = at' + 2 * ((i + 1 : Nat) : Int) := by omega
    k_steps
    · rw [e]
    · rw [nums_snoc]; exact IntsAre.append hy (.cons _ _ .nil)
  · intro ys nw hJ
    obtain ⟨k1', k2', t2', rfl, hy⟩ := hJ
    k_steps
    refine' hret _ _ _ _ _ _ _ hy ?a1 ?a2 ?a3 ?a4
    case a3 => exact News.get (by assumption) (.head _)
    case a2 => exact News.get (by assumption) (.tail _ (.tail _ (.tail _ (.head _))))
    case a1 => exact Kept.drop (Kept.out (by assumption) (by assumption)) (N _ (.head _)).1 (News.get (by assumption) (.tail _ (.tail _ (.head _))))
    case a4 =>
      rename News g1 L1 _ _ => N9
      rename _ ∧ _ ∧ _ => o9
      exact Kept.fresh K1 (N9 _ (.head _)).2.2 (by simp only [List.map_cons, List.map_nil, List.mem_cons, List.not_mem_nil, or_false, not_or]; exact ⟨Ne.symm o9.2.1, Ne.symm o9.2.2⟩)
theorem rows_use {b : Array UInt8} {ks : List Int} {x dx : Addr} {k1 k2 t1 t2 t3 : Tok} {at' c : Int} {news : List (Addr × Obj)} {g : Obj → List (Addr × Obj)}
   (N : News h₀ L s.heap news) (hx : (x, instObj 163 dx) ∈ news) (U : UpdF dx (dictOf [⟨PyData.keyHash w.params "data", .str "data" k1, .bytes b t1⟩, ⟨PyData.keyHash w.params "at", .str "at" k2, .int at' t2⟩] 2) news g) (hne : x ≠ dx)
   (hd : dp + 40 < recursionLimit) (hu : un + 400 < cLine)
   (hb : KBw.bInts b = ks) (hfit : ks.length ≤ 100000) (h0 : 0 ≤ at') (hc : 0 ≤ c) (h1 : at' + 2 * c ≤ ks.length)
   (hret : ∀ ys D k1 k2 t2' h' tk', IntsAre ys (nums ks at' c.toNat) → Fr h₀ L h' m → News h₀ L h' ((D, LCg.lst ys) :: g (dictOf [⟨PyData.keyHash w.params "data", .str "data" k1, .bytes b t1⟩, ⟨PyData.keyHash w.params "at", .str "at" k2, .int (at' + 2 * c) t2'⟩] 2)) → LCg.Off1 D news → Q (.ref D) { s with heap := h', toks := tk' }) :
   wpAny (model Challenge.rw_nu0154_01.row.prog w) (ktrTop dp un gd cn cs L a ccd cl outer) (call (.ref 153) [.ref x, .int c t3]) Q E s := by
  obtain ⟨n, rfl⟩ := Int.eq_ofNat_of_zero_le hc
  have N1 : News h₀ L s.heap [(x, instObj 163 dx), (dx, dictOf [⟨PyData.keyHash w.params "data", .str "data" k1, .bytes b t1⟩, ⟨PyData.keyHash w.params "at", .str "at" k2, .int at' t2⟩] 2)] := fun p hp => by
    rcases List.mem_cons.mp hp with rfl | hp
    · exact N _ hx
    · exact UpdF.only N U _ hp
  refine rows_spec B F X T hk N1 hne hd hu hb hfit h0 h1 (fun ys D k1 k2 t2' h' tk' hi kp e eD lD => ?_)
  obtain ⟨F', N'⟩ := Kept.updF F N U kp e
  exact hret ys D k1 k2 t2' h' tk' (by rw [Int.toNat_natCast]; exact hi) F' (News.cons_new F N' eD lD) (News.all_ne N lD)
end
end
section
theorem rT22_0 : True := by
  k_with_none
  k_with "ne" => (refine neN ?_; (try dsimp only); first | with_reducible assumption | exact Ne.symm (by with_reducible assumption) | exact off_ne (by with_reducible assumption) (by k_mem) | exact Ne.symm (off_ne (by with_reducible assumption) (by k_mem)) | exact off_i (by with_reducible assumption) (by k_mem) | exact off_c (by with_reducible assumption) (by k_mem) | exact off_d (by with_reducible assumption) (by k_mem) | exact Ne.symm (off_i (by with_reducible assumption) (by k_mem)) | exact Ne.symm (off_c (by with_reducible assumption) (by k_mem)) | exact Ne.symm (off_d (by with_reducible assumption) (by k_mem)) | exact Ne3.a (by with_reducible assumption) | exact Ne3.b (by with_reducible assumption) | exact Ne3.c (by with_reducible assumption) | exact Ne.symm (Ne3.a (by with_reducible assumption)) | exact Ne.symm (Ne3.b (by with_reducible assumption)) | exact Ne.symm (Ne3.c (by with_reducible assumption)) | exact NeA.ne (by with_reducible assumption) | exact Ne.symm (NeA.ne (by with_reducible assumption)) | exact Nat.ne_of_lt (by with_reducible assumption) | exact Nat.ne_of_gt (by with_reducible assumption) | exact Nat.ne_of_lt (And.left (by with_reducible assumption)) | exact Nat.ne_of_gt (And.left (by with_reducible assumption)) | exact Nat.ne_of_lt (And.left (And.right (by with_reducible assumption))) | exact Nat.ne_of_gt (And.left (And.right (by with_reducible assumption))) | exact Nat.ne_of_lt (And.right (by with_reducible assumption)) | exact Nat.ne_of_gt (And.right (by with_reducible assumption)) | exact Nat.ne_of_lt (And.right (And.right (by with_reducible assumption))) | exact Nat.ne_of_gt (And.right (And.right (by with_reducible assumption))) | exact Nat.ne_of_lt (And.left (And.right (And.right (by with_reducible assumption)))) | exact Nat.ne_of_gt (And.left (And.right (And.right (by with_reducible assumption)))))
  k_with "M enter" => (refine' enterM ?k1z9 ?k2z9 ?k3z9 ?k4z9 ?k5z9 ?kAz9 ?kFz9 ?kKz9 ?k6z9 ?k7z9 ?k8z9 ?k9z9 ?kBz9 ?_ ?c2z9 ?c3z9 ?c4z9 ?c5z9; (case kAz9 => exact rfl); (case kFz9 => exact rfl); (case kKz9 => assumption); (case k1z9 => k_asm); (case k2z9 => k_asm); (case k3z9 => k_asm); (case k4z9 => k_asm); (case k5z9 => k_asm); (case k6z9 => k_is); (case k7z9 => k_is); (case k8z9 => ktr_room); (case k9z9 => first | exact BindsTo.of_eq rfl | exact binds_K (by k_in) rfl (by k_is) rfl rfl rfl); (case c5z9 => decide); (case kBz9 => exact locs rfl); (case c2z9 => exact rfl); (case c3z9 => exact rfl); (case c4z9 => exact rfl); k_whole; intro g' L' h' tk' K' G' FG' F' N' B' X' T' l1 l2; (try k_lt l1); (try dsimp only); (try k_lift B'); (try k_fold))
  k_with "M enter0" => (refine' enterM ?k1z9 ?k2z9 ?k3z9 ?k4z9 ?k5z9 ?kAz9 ?kFz9 ?kKz9 ?k6z9 ?k7z9 ?k8z9 ?k9z9 ?kBz9 ?_ ?c2z9 ?c3z9 ?c4z9 ?c5z9; (case kAz9 => exact rfl); (case kFz9 => exact rfl); (case kKz9 => assumption); (case k1z9 => k_asm); (case k2z9 => k_asm); (case k3z9 => k_asm); (case k4z9 => k_asm); (case k5z9 => k_asm); (case k6z9 => k_is); (case k7z9 => k_is); (case k8z9 => ktr_room); (case k9z9 => first | exact BindsTo.of_eq rfl | exact binds_K (by k_in) rfl (by k_is) rfl rfl rfl); (case c5z9 => decide); (case kBz9 => exact locs rfl); (case c2z9 => exact rfl); (case c3z9 => exact rfl); (case c4z9 => exact rfl); k_whole)
  k_with "M ar" => (first | with_reducible assumption | decide | omega | (simp [List.getD]; done) | (simp [List.getD]; omega))
  k_with "M keep" => (rename Kept _ _ [] => K7; (have F' := Kept.fr (by k_asm) K7); (have N' := Kept.news (by k_asm) K7); clear K7; (try dsimp only); (try k_sweep))
  k_with "M enterC" => (refine' enterMC ?k1z9 ?k2z9 ?k3z9 ?k4z9 ?k5z9 ?kAz9 ?kFz9 ?kKz9 ?k6z9 ?k7z9 ?k8z9 ?k9z9 ?kBz9 ?kDz9 ?_ ?c2z9 ?c3z9 ?c4z9; (case kAz9 => exact rfl); (case kFz9 => exact rfl); (case kKz9 => assumption); (case k1z9 => k_asm); (case k2z9 => k_asm); (case k3z9 => k_asm); (case k4z9 => k_asm); (case k5z9 => k_asm); (case k6z9 => k_is); (case k7z9 => k_is); (case k8z9 => ktr_room); (case k9z9 => first | exact BindsTo.of_eq rfl | exact binds_K (by k_in) rfl (by k_is) rfl rfl rfl); (case kBz9 => exact rfl); (case kDz9 => decide +kernel); (case c2z9 => exact rfl); (case c3z9 => exact rfl); (case c4z9 => exact rfl); k_whole; intro g' L' h' tk' cells' K' G' FG' F' N' Y' B' X' T' l1 l2; (try k_lt l1); k_cells Y'; (try simp only [List.cons_append, List.nil_append] at N'); (try dsimp only); (try k_lift B'); (try k_fold))
  k_with "M enterC0" => (refine' enterMC ?k1z9 ?k2z9 ?k3z9 ?k4z9 ?k5z9 ?kAz9 ?kFz9 ?kKz9 ?k6z9 ?k7z9 ?k8z9 ?k9z9 ?kBz9 ?kDz9 ?_ ?c2z9 ?c3z9 ?c4z9; (case kAz9 => exact rfl); (case kFz9 => exact rfl); (case kKz9 => assumption); (case k1z9 => k_asm); (case k2z9 => k_asm); (case k3z9 => k_asm); (case k4z9 => k_asm); (case k5z9 => k_asm); (case k6z9 => k_is); (case k7z9 => k_is); (case k8z9 => ktr_room); (case k9z9 => first | exact BindsTo.of_eq rfl | exact binds_K (by k_in) rfl (by k_is) rfl rfl rfl); (case kBz9 => exact rfl); (case kDz9 => decide +kernel); (case c2z9 => exact rfl); (case c3z9 => exact rfl); (case c4z9 => exact rfl); k_whole)
  k_with "exec Raise some none" => (k_here; k_dflt (refine raise_own (by exact rfl) ?_); (try k_fold))
  k_with "M raise" => (k_dflt (refine' tf_use ?Bz9 ?Fz9 ?Xz9 ?Tz9 ?hAz9 ?hfz9 ?hkez9 ?hroomz9 ?huz9 ?hhz9 ?hSz9 ?_; (case hAz9 => exact rfl); (case hfz9 => exact rfl); (case hkez9 => first | exact rfl | assumption); (case Bz9 => k_asm); (case Fz9 => k_asm); (case Xz9 => k_asm); (case Tz9 => k_asm); (case hroomz9 => ktr_room); (case huz9 => ktr_units); (case hhz9 => exact rfl); (case hSz9 => first | decide | decide +kernel | walk_at "M ar")); intro e9 dx9 t9 k1 k2 h9 tk9 kp9 ne9 he9 hdx9 nd9 ht9 nt9; (try k_unfold); show RaisableM _ _ _ _; refine ⟨_, _, _, rfl, he9, Frag.In.keeps (Frag.In.keeps (by k_asm) (Fr.keep (by k_asm))) kp9, ?_⟩; (repeat k_unfold); (try dsimp only); (k_dflt (refine' leaveM_first ?Kz9 ?Fz9 ?hsz9 ?hLz9 kp9 ne9 he9 hdx9 nd9 ?_ ?hkz9; (case Kz9 => k_asm); (case Fz9 => k_asm); (case hsz9 => exact Kept.out (by assumption) (by assumption)); (case hLz9 => assumption); (case hkz9 => exact rfl))); intro h8 R8)
  k_with "M next" => ((repeat k_unfold); (try dsimp only); (rename RaisedM _ _ _ _ _ _ _ => R7); (k_dflt (refine' leaveM_next ?Kz9 ?Fz9 R7 ?hsz9 ?hLz9 ?hysz9 ?_ ?hkz9; (case Kz9 => k_asm); (case Fz9 => k_asm); (case hsz9 => exact Kept.out (by assumption) (by assumption)); (case hLz9 => assumption); (case hysz9 => first | exact (fun _ hb => absurd hb List.not_mem_nil) | (walk_at "M ys")); (case hkz9 => exact rfl))); clear R7; intro h8 R8)
  k_with "M ys" => (intro b9 hb9; (simp only [List.mem_cons, List.not_mem_nil, or_false] at hb9); rcases hb9 with hb9 | hb9 <;> (subst hb9; first | (refine Or.inl ?_; simp only [List.map_cons, List.map_nil, List.mem_cons, List.not_mem_nil, or_false, true_or, or_true]; done) | (refine Or.inr ?_; walk_at "M new")))
  k_with "call ref" => (k_here; (first | (with_reducible show wpAny _ _ (call (Value.ref 120) [Value.ref _]) _ _ _) | ((with_reducible show wpAny _ _ (call (Value.ref 120) ([Value.ref _] ++ [])) _ _ _); dsimp only [List.cons_append, List.nil_append])); (k_dflt (refine' ou16_use ?Bz9 ?Fz9 ?Xz9 ?Tz9 ?hkz9 ?Nz9 ?hxz9 ?Uz9 ?hnez9 ?hdz9 ?huz9 ?hbz9 ?hfitz9 ?h0z9 ?_ ?_)); (case Bz9 => k_asm); (case Fz9 => k_asm); (case Xz9 => k_asm); (case Tz9 => k_asm); (case hkz9 => first | exact rfl | assumption); (case Nz9 => k_asm); (case hxz9 => k_mem); (case Uz9 => k_updF); (case hnez9 => k_ne); (case hdz9 => ktr_room); (case huz9 => ktr_units); (case hbz9 => k_asm); (case hfitz9 => walk_at "M ar"); (case h0z9 => walk_at "M ar"); (all_goals (first | (intro p1 e' h' tk' R7; (with_reducible rename RaisedM _ _ _ _ _ _ _ => R7); (first | (exfalso; omega) | walk_at "M next")) | (intro p1 tt kk1 kk2 tt2 h' tk' F' N'; (try dsimp only at N'); (try dsimp only); (try k_sweep); (try k_fold)))))
  exact trivial
section
variable {w : World} {mean : ExcName → Option Value} {mg mb : Str → Option Value} {dp un : Nat} {gd : Option (List Code)} {cn : Str} {cs : Scope} {a : Addr} {ccd : Value} {cl : List (Str × Addr)} {outer : List Env} {A₀ : Around} {base h₀ : Heap} {L : Addr} {m : Str → Option Value} {s : Shared} {Q E : Value → Shared → Prop}
   (B : Below A₀ base outer h₀) (F : Fr h₀ L s.heap m) (X : (heapK w.params).In h₀) (T : Top prgV (looseW prgV [Str.ofString "ShapeError"]) mean mg mb h₀) (hk : cs.kind = .function)
include B F X T hk
set_option maxRecDepth 100000 in
set_option maxHeartbeats 8000000 in
theorem form_spec {b : Array UInt8} {ks : List Int} {x dx : Addr} {k1 k2 t1 t2 t3 : Tok} {at' : Int}
   (N : News h₀ L s.heap [(x, instObj 163 dx), (dx, dictOf [⟨PyData.keyHash w.params "data", .str "data" k1, .bytes b t1⟩, ⟨PyData.keyHash w.params "at", .str "at" k2, .int at' t2⟩] 2)]) (hne : x ≠ dx)
   (hd : dp + 40 < recursionLimit) (hu : un + 400 < cLine)
   (hb : KBw.bInts b = ks) (hfit : ks.length ≤ 100000) (h0 : 0 ≤ at')
   (hret : at' + 2 ≤ ks.length → n2 ks at' = 4 → ∀ k1 k2 t2' h' tk', Kept s.heap h' [dx] → h'.get? dx = some (dictOf [⟨PyData.keyHash w.params "data", .str "data" k1, .bytes b t1⟩, ⟨PyData.keyHash w.params "at", .str "at" k2, .int (at' + 2) t2'⟩] 2) → Q .none { s with heap := h', toks := tk' })
   (hexc : ¬ (at' + 2 ≤ ks.length ∧ n2 ks at' = 4) → ∀ e h' tk', RaisedM w.params s.heap [x, dx] (envX cn cs L a ccd cl :: outer) e at' h' → E (.ref e) { s with heap := h', toks := tk' }) :
   wpAny (model Challenge.rw_nu0154_01.row.prog w) (ktrTop dp un gd cn cs L a ccd cl outer) (call (.ref 174) [.ref x, .int 4 t3]) Q E s := by
  have hne := neN hne
  revert X; k_fill; intro X
  refine wpAny_call ?_
  k_dflt (walk_at "M enter")
  k_steps
  rotate_right
  · exact hexc (by omega) _ _ _ (by assumption)
  · walk_at "M raise"
    exact hexc (by omega) _ _ _ (by assumption)
  · refine' hret (by omega) (by omega) _ _ _ _ _ ?a1 ?a2
    case a2 => exact News.get (by assumption) (.tail _ (.head _))
    case a1 => exact Kept.drop (Kept.out (by assumption) (by assumption)) (N _ (.head _)).1 (News.get (by assumption) (.head _))
theorem form_use {b : Array UInt8} {ks : List Int} {x dx : Addr} {k1 k2 t1 t2 t3 : Tok} {at' : Int} {news : List (Addr × Obj)} {g : Obj → List (Addr × Obj)}
   (N : News h₀ L s.heap news) (hx : (x, instObj 163 dx) ∈ news) (U : UpdF dx (dictOf [⟨PyData.keyHash w.params "data", .str "data" k1, .bytes b t1⟩, ⟨PyData.keyHash w.params "at", .str "at" k2, .int at' t2⟩] 2) news g) (hne : x ≠ dx)
   (hd : dp + 40 < recursionLimit) (hu : un + 400 < cLine)
   (hb : KBw.bInts b = ks) (hfit : ks.length ≤ 100000) (h0 : 0 ≤ at')
   (hret : at' + 2 ≤ ks.length → n2 ks at' = 4 → ∀ k1 k2 t2' h' tk', Fr h₀ L h' m → News h₀ L h' (g (dictOf [⟨PyData.keyHash w.params "data", .str "data" k1, .bytes b t1⟩, ⟨PyData.keyHash w.params "at", .str "at" k2, .int (at' + 2) t2'⟩] 2)) → Q .none { s with heap := h', toks := tk' })
   (hexc : ¬ (at' + 2 ≤ ks.length ∧ n2 ks at' = 4) → ∀ e h' tk', RaisedM w.params s.heap [x, dx] (envX cn cs L a ccd cl :: outer) e at' h' → E (.ref e) { s with heap := h', toks := tk' }) :
   wpAny (model Challenge.rw_nu0154_01.row.prog w) (ktrTop dp un gd cn cs L a ccd cl outer) (call (.ref 174) [.ref x, .int 4 t3]) Q E s := by
  have N1 : News h₀ L s.heap [(x, instObj 163 dx), (dx, dictOf [⟨PyData.keyHash w.params "data", .str "data" k1, .bytes b t1⟩, ⟨PyData.keyHash w.params "at", .str "at" k2, .int at' t2⟩] 2)] := fun p hp => by
    rcases List.mem_cons.mp hp with rfl | hp
    · exact N _ hx
    · exact UpdF.only N U _ hp
  refine form_spec B F X T hk N1 hne hd hu hb hfit h0 (fun p1 p2 k1 k2 t2' h' tk' kp e => ?_) hexc
  obtain ⟨F', N'⟩ := Kept.updF F N U kp e
  exact hret p1 p2 k1 k2 t2' h' tk' F' N'
end
end
section
theorem rT23_0 : True := by
  k_with_none
  k_with "ne" => (refine neN ?_; (try dsimp only); first | with_reducible assumption | exact Ne.symm (by with_reducible assumption) | exact off_ne (by with_reducible assumption) (by k_mem) | exact Ne.symm (off_ne (by with_reducible assumption) (by k_mem)) | exact off_i (by with_reducible assumption) (by k_mem) | exact off_c (by with_reducible assumption) (by k_mem) | exact off_d (by with_reducible assumption) (by k_mem) | exact Ne.symm (off_i (by with_reducible assumption) (by k_mem)) | exact Ne.symm (off_c (by with_reducible assumption) (by k_mem)) | exact Ne.symm (off_d (by with_reducible assumption) (by k_mem)) | exact Ne3.a (by with_reducible assumption) | exact Ne3.b (by with_reducible assumption) | exact Ne3.c (by with_reducible assumption) | exact Ne.symm (Ne3.a (by with_reducible assumption)) | exact Ne.symm (Ne3.b (by with_reducible assumption)) | exact Ne.symm (Ne3.c (by with_reducible assumption)) | exact NeA.ne (by with_reducible assumption) | exact Ne.symm (NeA.ne (by with_reducible assumption)) | exact Nat.ne_of_lt (by with_reducible assumption) | exact Nat.ne_of_gt (by with_reducible assumption) | exact Nat.ne_of_lt (And.left (by with_reducible assumption)) | exact Nat.ne_of_gt (And.left (by with_reducible assumption)) | exact Nat.ne_of_lt (And.left (And.right (by with_reducible assumption))) | exact Nat.ne_of_gt (And.left (And.right (by with_reducible assumption))) | exact Nat.ne_of_lt (And.right (by with_reducible assumption)) | exact Nat.ne_of_gt (And.right (by with_reducible assumption)) | exact Nat.ne_of_lt (And.right (And.right (by with_reducible assumption))) | exact Nat.ne_of_gt (And.right (And.right (by with_reducible assumption))) | exact Nat.ne_of_lt (And.left (And.right (And.right (by with_reducible assumption)))) | exact Nat.ne_of_gt (And.left (And.right (And.right (by with_reducible assumption)))))
  k_with "M enter" => (refine' enterM ?k1z9 ?k2z9 ?k3z9 ?k4z9 ?k5z9 ?kAz9 ?kFz9 ?kKz9 ?k6z9 ?k7z9 ?k8z9 ?k9z9 ?kBz9 ?_ ?c2z9 ?c3z9 ?c4z9 ?c5z9; (case kAz9 => exact rfl); (case kFz9 => exact rfl); (case kKz9 => assumption); (case k1z9 => k_asm); (case k2z9 => k_asm); (case k3z9 => k_asm); (case k4z9 => k_asm); (case k5z9 => k_asm); (case k6z9 => k_is); (case k7z9 => k_is); (case k8z9 => ktr_room); (case k9z9 => first | exact BindsTo.of_eq rfl | exact binds_K (by k_in) rfl (by k_is) rfl rfl rfl); (case c5z9 => decide); (case kBz9 => exact locs rfl); (case c2z9 => exact rfl); (case c3z9 => exact rfl); (case c4z9 => exact rfl); k_whole; intro g' L' h' tk' K' G' FG' F' N' B' X' T' l1 l2; (try k_lt l1); (try dsimp only); (try k_lift B'); (try k_fold))
  k_with "M enter0" => (refine' enterM ?k1z9 ?k2z9 ?k3z9 ?k4z9 ?k5z9 ?kAz9 ?kFz9 ?kKz9 ?k6z9 ?k7z9 ?k8z9 ?k9z9 ?kBz9 ?_ ?c2z9 ?c3z9 ?c4z9 ?c5z9; (case kAz9 => exact rfl); (case kFz9 => exact rfl); (case kKz9 => assumption); (case k1z9 => k_asm); (case k2z9 => k_asm); (case k3z9 => k_asm); (case k4z9 => k_asm); (case k5z9 => k_asm); (case k6z9 => k_is); (case k7z9 => k_is); (case k8z9 => ktr_room); (case k9z9 => first | exact BindsTo.of_eq rfl | exact binds_K (by k_in) rfl (by k_is) rfl rfl rfl); (case c5z9 => decide); (case kBz9 => exact locs rfl); (case c2z9 => exact rfl); (case c3z9 => exact rfl); (case c4z9 => exact rfl); k_whole)
  k_with "M ar" => (first | with_reducible assumption | decide | omega | (simp [List.getD]; done) | (simp [List.getD]; omega))
  k_with "M keep" => (rename Kept _ _ [] => K7; (have F' := Kept.fr (by k_asm) K7); (have N' := Kept.news (by k_asm) K7); clear K7; (try dsimp only); (try k_sweep))
  k_with "M enterC" => (refine' enterMC ?k1z9 ?k2z9 ?k3z9 ?k4z9 ?k5z9 ?kAz9 ?kFz9 ?kKz9 ?k6z9 ?k7z9 ?k8z9 ?k9z9 ?kBz9 ?kDz9 ?_ ?c2z9 ?c3z9 ?c4z9; (case kAz9 => exact rfl); (case kFz9 => exact rfl); (case kKz9 => assumption); (case k1z9 => k_asm); (case k2z9 => k_asm); (case k3z9 => k_asm); (case k4z9 => k_asm); (case k5z9 => k_asm); (case k6z9 => k_is); (case k7z9 => k_is); (case k8z9 => ktr_room); (case k9z9 => first | exact BindsTo.of_eq rfl | exact binds_K (by k_in) rfl (by k_is) rfl rfl rfl); (case kBz9 => exact rfl); (case kDz9 => decide +kernel); (case c2z9 => exact rfl); (case c3z9 => exact rfl); (case c4z9 => exact rfl); k_whole; intro g' L' h' tk' cells' K' G' FG' F' N' Y' B' X' T' l1 l2; (try k_lt l1); k_cells Y'; (try simp only [List.cons_append, List.nil_append] at N'); (try dsimp only); (try k_lift B'); (try k_fold))
  k_with "M enterC0" => (refine' enterMC ?k1z9 ?k2z9 ?k3z9 ?k4z9 ?k5z9 ?kAz9 ?kFz9 ?kKz9 ?k6z9 ?k7z9 ?k8z9 ?k9z9 ?kBz9 ?kDz9 ?_ ?c2z9 ?c3z9 ?c4z9; (case kAz9 => exact rfl); (case kFz9 => exact rfl); (case kKz9 => assumption); (case k1z9 => k_asm); (case k2z9 => k_asm); (case k3z9 => k_asm); (case k4z9 => k_asm); (case k5z9 => k_asm); (case k6z9 => k_is); (case k7z9 => k_is); (case k8z9 => ktr_room); (case k9z9 => first | exact BindsTo.of_eq rfl | exact binds_K (by k_in) rfl (by k_is) rfl rfl rfl); (case kBz9 => exact rfl); (case kDz9 => decide +kernel); (case c2z9 => exact rfl); (case c3z9 => exact rfl); (case c4z9 => exact rfl); k_whole)
  k_with "exec Raise some none" => (k_here; k_dflt (refine raise_own (by exact rfl) ?_); (try k_fold))
  k_with "M raise" => (k_dflt (refine' tf_use ?Bz9 ?Fz9 ?Xz9 ?Tz9 ?hAz9 ?hfz9 ?hkez9 ?hroomz9 ?huz9 ?hhz9 ?hSz9 ?_; (case hAz9 => exact rfl); (case hfz9 => exact rfl); (case hkez9 => first | exact rfl | assumption); (case Bz9 => k_asm); (case Fz9 => k_asm); (case Xz9 => k_asm); (case Tz9 => k_asm); (case hroomz9 => ktr_room); (case huz9 => ktr_units); (case hhz9 => exact rfl); (case hSz9 => first | decide | decide +kernel | walk_at "M ar")); intro e9 dx9 t9 k1 k2 h9 tk9 kp9 ne9 he9 hdx9 nd9 ht9 nt9; (try k_unfold); show RaisableM _ _ _ _; refine ⟨_, _, _, rfl, he9, Frag.In.keeps (Frag.In.keeps (by k_asm) (Fr.keep (by k_asm))) kp9, ?_⟩; (repeat k_unfold); (try dsimp only); (k_dflt (refine' leaveM_first ?Kz9 ?Fz9 ?hsz9 ?hLz9 kp9 ne9 he9 hdx9 nd9 ?_ ?hkz9; (case Kz9 => k_asm); (case Fz9 => k_asm); (case hsz9 => exact Kept.out (by assumption) (by assumption)); (case hLz9 => assumption); (case hkz9 => exact rfl))); intro h8 R8)
  k_with "M next" => ((repeat k_unfold); (try dsimp only); (rename RaisedM _ _ _ _ _ _ _ => R7); (k_dflt (refine' leaveM_next ?Kz9 ?Fz9 R7 ?hsz9 ?hLz9 ?hysz9 ?_ ?hkz9; (case Kz9 => k_asm); (case Fz9 => k_asm); (case hsz9 => exact Kept.out (by assumption) (by assumption)); (case hLz9 => assumption); (case hysz9 => first | exact (fun _ hb => absurd hb List.not_mem_nil) | (walk_at "M ys")); (case hkz9 => exact rfl))); clear R7; intro h8 R8)
  exact trivial
def prevE (es : List Int) (i : Nat) : Int := if i = 0 then -1 else es.getD (i - 1) 0
def StepOk (es ss : List Int) (i : Nat) : Prop := prevE es i < ss.getD i 0 ∧ ss.getD i 0 ≤ es.getD i 0
def SegOk (es ss : List Int) (i : Nat) : Prop := ∀ j, j < i → StepOk es ss j
def SegFault (es ss : List Int) (ea sa n : Int) : Prop := (∃ i : Nat, i < es.length ∧ SegOk es ss i ∧ ¬ StepOk es ss i ∧ n = sa + 2 * i) ∨ (SegOk es ss es.length ∧ prevE es es.length ≠ 65535 ∧ n = ea + 2 * es.length - 2)
def SegP (es ss : List Int) (pre : List Int) (last : Int) : Prop := SegOk es ss pre.length ∧ last = prevE es pre.length
theorem segP_nil {es ss : List Int} : SegP es ss [] (-1) := ⟨fun j h => absurd h (Nat.not_lt_zero _), rfl⟩
theorem prevE_succ (es : List Int) (i : Nat) : prevE es (i + 1) = es.getD i 0 := rfl
theorem segP_snoc {es ss pre : List Int} {last n : Int} (h : SegP es ss pre last) (e : n = 0 + (pre.length : Int)) (h1 : ¬ ss.getD n.toNat 0 ≤ last) (h2 : ¬ es.getD n.toNat 0 < ss.getD n.toNat 0) : SegP es ss (pre ++ [n]) (es.getD n.toNat 0) := by
  have en : n.toNat = pre.length := by omega
  rw [en] at h1 h2 ⊢
  obtain ⟨a, b⟩ := h
  rw [SegP, List.length_append, List.length_singleton, prevE_succ]
  refine ⟨fun j hj => ?_, rfl⟩
  rcases Nat.lt_or_ge j pre.length with z | z
  · exact a j z
  · have : j = pre.length := by omega
    subst this
    exact ⟨by rw [← b]; omega, by omega⟩
theorem seg_fault1 {es ss pre : List Int} {last n ea sa : Int} (h : SegP es ss pre last) (e : n = 0 + (pre.length : Int)) (hl : pre.length < ((es.length : Int) - 0).toNat) (h1 : ss.getD n.toNat 0 ≤ last ∨ es.getD n.toNat 0 < ss.getD n.toNat 0) : SegFault es ss ea sa (sa + 2 * n) := by
  have en : n.toNat = pre.length := by omega
  rw [en] at h1
  obtain ⟨a, b⟩ := h
  refine .inl ⟨pre.length, by omega, a, ?_, by omega⟩
  rintro ⟨z1, z2⟩
  rw [← b] at z1
  omega
theorem segP_end {es ss : List Int} {last : Int} (h : SegP es ss (rangeKs 0 ((es.length : Int) - 0).toNat) last) : SegOk es ss es.length ∧ last = prevE es es.length := by
  have e : ((es.length : Int) - 0).toNat = es.length := by omega
  unfold SegP at h
  rw [rangeKs_length, e] at h
  exact h
section
variable {w : World} {mean : ExcName → Option Value} {mg mb : Str → Option Value} {dp un : Nat} {gd : Option (List Code)} {cn : Str} {cs : Scope} {a : Addr} {ccd : Value} {cl : List (Str × Addr)} {outer : List Env} {A₀ : Around} {base h₀ : Heap} {L : Addr} {m : Str → Option Value} {s : Shared} {Q E : Value → Shared → Prop}
   (B : Below A₀ base outer h₀) (F : Fr h₀ L s.heap m) (X : (heapK w.params).In h₀) (T : Top prgV (looseW prgV [Str.ofString "ShapeError"]) mean mg mb h₀) (hk : cs.kind = .function)
include B F X T hk
theorem rT23_1 : True := by
  k_with "pyIter ref" => (refine stopped ?_)
  exact trivial
set_option maxRecDepth 100000 in
set_option maxHeartbeats 8000000 in
theorem segs_spec {le ls : Addr} {vs us : List Value} {es ss : List Int} {q1 q2 : Nat} {ea sa : Int} {t1 t2 : Tok}
   (N : News h₀ L s.heap [(le, W.listOf vs.toArray q1), (ls, W.listOf us.toArray q2)]) (hne : le ≠ ls)
   (hd : dp + 40 < recursionLimit) (hu : un + 400 < cLine)
   (hv : IntsAre vs es) (hw : IntsAre us ss) (hl : es.length = ss.length) (hfit : es.length ≤ 100000)
   (hret : SegOk es ss es.length → prevE es es.length = 65535 → ∀ h' tk', Kept s.heap h' [] → Q .none { s with heap := h', toks := tk' })
   (hexc : ∀ n, SegFault es ss ea sa n → ∀ e h' tk', RaisedM w.params s.heap [le, ls] (envX cn cs L a ccd cl :: outer) e n h' → E (.ref e) { s with heap := h', toks := tk' }) :
   wpAny (model Challenge.rw_nu0154_01.row.prog w) (ktrTop dp un gd cn cs L a ccd cl outer) (call (.ref 188) [.ref le, .ref ls, .int ea t1, .int sa t2]) Q E s := by
  have hne := neN hne
  revert X; k_fill; intro X
  refine wpAny_call ?_
  k_dflt (walk_at "M enter")
  k_steps
  refine Stop.go ?_
  k_with "state" => first | exact segP_nil | exact segP_snoc (by assumption) (by assumption) (by assumption) (by assumption)
  k_state (fun pre last => SegP es ss pre last) "last"
  · k_steps
    · walk_at "M raise"
      exact hexc _ (seg_fault1 kInv kEq kLt (.inl (by assumption))) _ _ _ (by assumption)
    · walk_at "M raise"
      exact hexc _ (seg_fault1 kInv kEq kLt (.inr (by assumption))) _ _ _ (by assumption)
  · obtain ⟨z1, z2⟩ := segP_end kInv
    k_steps
    · walk_at "M raise"
      refine hexc _ (.inr ⟨z1, ?_, rfl⟩) _ _ _ (by assumption)
      rw [← z2]; omega
    · refine hret z1 (by rw [← z2]; omega) _ _ (Kept.drop (Kept.drop (Kept.out (by assumption) (by assumption)) (N _ (.head _)).1 (News.get (by assumption) (.head _))) (N _ (.tail _ (.head _))).1 (News.get (by assumption) (.tail _ (.head _))))
theorem segs_use {le ls : Addr} {vs us : List Value} {es ss : List Int} {q1 q2 : Nat} {ea sa : Int} {t1 t2 : Tok} {news : List (Addr × Obj)}
   (N : News h₀ L s.heap news) (h1 : (le, W.listOf vs.toArray q1) ∈ news) (h2 : (ls, W.listOf us.toArray q2) ∈ news) (hne : le ≠ ls)
   (hd : dp + 40 < recursionLimit) (hu : un + 400 < cLine)
   (hv : IntsAre vs es) (hw : IntsAre us ss) (hl : es.length = ss.length) (hfit : es.length ≤ 100000)
   (hret : SegOk es ss es.length → prevE es es.length = 65535 → ∀ h' tk', Kept s.heap h' [] → Q .none { s with heap := h', toks := tk' })
   (hexc : ∀ n, SegFault es ss ea sa n → ∀ e h' tk', RaisedM w.params s.heap [le, ls] (envX cn cs L a ccd cl :: outer) e n h' → E (.ref e) { s with heap := h', toks := tk' }) :
   wpAny (model Challenge.rw_nu0154_01.row.prog w) (ktrTop dp un gd cn cs L a ccd cl outer) (call (.ref 188) [.ref le, .ref ls, .int ea t1, .int sa t2]) Q E s := by
  have N1 : News h₀ L s.heap [(le, W.listOf vs.toArray q1), (ls, W.listOf us.toArray q2)] := fun p hp => by
    rcases List.mem_cons.mp hp with rfl | hp
    · exact N _ h1
    · rcases List.mem_singleton.mp hp with rfl; exact N _ h2
  exact segs_spec B F X T hk N1 hne hd hu hv hw hl hfit hret hexc
end
end
section
theorem rT24_0 : True := by
  k_with_none
  k_with "ne" => (refine neN ?_; (try dsimp only); first | with_reducible assumption | exact Ne.symm (by with_reducible assumption) | exact off_ne (by with_reducible assumption) (by k_mem) | exact Ne.symm (off_ne (by with_reducible assumption) (by k_mem)) | exact off_i (by with_reducible assumption) (by k_mem) | exact off_c (by with_reducible assumption) (by k_mem) | exact off_d (by with_reducible assumption) (by k_mem) | exact Ne.symm (off_i (by with_reducible assumption) (by k_mem)) | exact Ne.symm (off_c (by with_reducible assumption) (by k_mem)) | exact Ne.symm (off_d (by with_reducible assumption) (by k_mem)) | exact Ne3.a (by with_reducible assumption) | exact Ne3.b (by with_reducible assumption) | exact Ne3.c (by with_reducible assumption) | exact Ne.symm (Ne3.a (by with_reducible assumption)) | exact Ne.symm (Ne3.b (by with_reducible assumption)) | exact Ne.symm (Ne3.c (by with_reducible assumption)) | exact NeA.ne (by with_reducible assumption) | exact Ne.symm (NeA.ne (by with_reducible assumption)) | exact Nat.ne_of_lt (by with_reducible assumption) | exact Nat.ne_of_gt (by with_reducible assumption) | exact Nat.ne_of_lt (And.left (by with_reducible assumption)) | exact Nat.ne_of_gt (And.left (by with_reducible assumption)) | exact Nat.ne_of_lt (And.left (And.right (by with_reducible assumption))) | exact Nat.ne_of_gt (And.left (And.right (by with_reducible assumption))) | exact Nat.ne_of_lt (And.right (by with_reducible assumption)) | exact Nat.ne_of_gt (And.right (by with_reducible assumption)) | exact Nat.ne_of_lt (And.right (And.right (by with_reducible assumption))) | exact Nat.ne_of_gt (And.right (And.right (by with_reducible assumption))) | exact Nat.ne_of_lt (And.left (And.right (And.right (by with_reducible assumption)))) | exact Nat.ne_of_gt (And.left (And.right (And.right (by with_reducible assumption)))))
  k_with "M enter" => (refine' enterM ?k1z9 ?k2z9 ?k3z9 ?k4z9 ?k5z9 ?kAz9 ?kFz9 ?kKz9 ?k6z9 ?k7z9 ?k8z9 ?k9z9 ?kBz9 ?_ ?c2z9 ?c3z9 ?c4z9 ?c5z9; (case kAz9 => exact rfl); (case kFz9 => exact rfl); (case kKz9 => assumption); (case k1z9 => k_asm); (case k2z9 => k_asm); (case k3z9 => k_asm); (case k4z9 => k_asm); (case k5z9 => k_asm); (case k6z9 => k_is); (case k7z9 => k_is); (case k8z9 => ktr_room); (case k9z9 => first | exact BindsTo.of_eq rfl | exact binds_K (by k_in) rfl (by k_is) rfl rfl rfl); (case c5z9 => decide); (case kBz9 => exact locs rfl); (case c2z9 => exact rfl); (case c3z9 => exact rfl); (case c4z9 => exact rfl); k_whole; intro g' L' h' tk' K' G' FG' F' N' B' X' T' l1 l2; (try k_lt l1); (try dsimp only); (try k_lift B'); (try k_fold))
  k_with "M enter0" => (refine' enterM ?k1z9 ?k2z9 ?k3z9 ?k4z9 ?k5z9 ?kAz9 ?kFz9 ?kKz9 ?k6z9 ?k7z9 ?k8z9 ?k9z9 ?kBz9 ?_ ?c2z9 ?c3z9 ?c4z9 ?c5z9; (case kAz9 => exact rfl); (case kFz9 => exact rfl); (case kKz9 => assumption); (case k1z9 => k_asm); (case k2z9 => k_asm); (case k3z9 => k_asm); (case k4z9 => k_asm); (case k5z9 => k_asm); (case k6z9 => k_is); (case k7z9 => k_is); (case k8z9 => ktr_room); (case k9z9 => first | exact BindsTo.of_eq rfl | exact binds_K (by k_in) rfl (by k_is) rfl rfl rfl); (case c5z9 => decide); (case kBz9 => exact locs rfl); (case c2z9 => exact rfl); (case c3z9 => exact rfl); (case c4z9 => exact rfl); k_whole)
  k_with "M ar" => (first | with_reducible assumption | decide | omega | (simp [List.getD]; done) | (simp [List.getD]; omega))
  k_with "M keep" => (rename Kept _ _ [] => K7; (have F' := Kept.fr (by k_asm) K7); (have N' := Kept.news (by k_asm) K7); clear K7; (try dsimp only); (try k_sweep))
  k_with "M enterC" => (refine' enterMC ?k1z9 ?k2z9 ?k3z9 ?k4z9 ?k5z9 ?kAz9 ?kFz9 ?kKz9 ?k6z9 ?k7z9 ?k8z9 ?k9z9 ?kBz9 ?kDz9 ?_ ?c2z9 ?c3z9 ?c4z9; (case kAz9 => exact rfl); (case kFz9 => exact rfl); (case kKz9 => assumption); (case k1z9 => k_asm); (case k2z9 => k_asm); (case k3z9 => k_asm); (case k4z9 => k_asm); (case k5z9 => k_asm); (case k6z9 => k_is); (case k7z9 => k_is); (case k8z9 => ktr_room); (case k9z9 => first | exact BindsTo.of_eq rfl | exact binds_K (by k_in) rfl (by k_is) rfl rfl rfl); (case kBz9 => exact rfl); (case kDz9 => decide +kernel); (case c2z9 => exact rfl); (case c3z9 => exact rfl); (case c4z9 => exact rfl); k_whole; intro g' L' h' tk' cells' K' G' FG' F' N' Y' B' X' T' l1 l2; (try k_lt l1); k_cells Y'; (try simp only [List.cons_append, List.nil_append] at N'); (try dsimp only); (try k_lift B'); (try k_fold))
  k_with "M enterC0" => (refine' enterMC ?k1z9 ?k2z9 ?k3z9 ?k4z9 ?k5z9 ?kAz9 ?kFz9 ?kKz9 ?k6z9 ?k7z9 ?k8z9 ?k9z9 ?kBz9 ?kDz9 ?_ ?c2z9 ?c3z9 ?c4z9; (case kAz9 => exact rfl); (case kFz9 => exact rfl); (case kKz9 => assumption); (case k1z9 => k_asm); (case k2z9 => k_asm); (case k3z9 => k_asm); (case k4z9 => k_asm); (case k5z9 => k_asm); (case k6z9 => k_is); (case k7z9 => k_is); (case k8z9 => ktr_room); (case k9z9 => first | exact BindsTo.of_eq rfl | exact binds_K (by k_in) rfl (by k_is) rfl rfl rfl); (case kBz9 => exact rfl); (case kDz9 => decide +kernel); (case c2z9 => exact rfl); (case c3z9 => exact rfl); (case c4z9 => exact rfl); k_whole)
  k_with "exec Raise some none" => (k_here; k_dflt (refine raise_own (by exact rfl) ?_); (try k_fold))
  k_with "M raise" => (k_dflt (refine' tf_use ?Bz9 ?Fz9 ?Xz9 ?Tz9 ?hAz9 ?hfz9 ?hkez9 ?hroomz9 ?huz9 ?hhz9 ?hSz9 ?_; (case hAz9 => exact rfl); (case hfz9 => exact rfl); (case hkez9 => first | exact rfl | assumption); (case Bz9 => k_asm); (case Fz9 => k_asm); (case Xz9 => k_asm); (case Tz9 => k_asm); (case hroomz9 => ktr_room); (case huz9 => ktr_units); (case hhz9 => exact rfl); (case hSz9 => first | decide | decide +kernel | walk_at "M ar")); intro e9 dx9 t9 k1 k2 h9 tk9 kp9 ne9 he9 hdx9 nd9 ht9 nt9; (try k_unfold); show RaisableM _ _ _ _; refine ⟨_, _, _, rfl, he9, Frag.In.keeps (Frag.In.keeps (by k_asm) (Fr.keep (by k_asm))) kp9, ?_⟩; (repeat k_unfold); (try dsimp only); (k_dflt (refine' leaveM_first ?Kz9 ?Fz9 ?hsz9 ?hLz9 kp9 ne9 he9 hdx9 nd9 ?_ ?hkz9; (case Kz9 => k_asm); (case Fz9 => k_asm); (case hsz9 => exact Kept.out (by assumption) (by assumption)); (case hLz9 => assumption); (case hkz9 => exact rfl))); intro h8 R8)
  k_with "M next" => ((repeat k_unfold); (try dsimp only); (rename RaisedM _ _ _ _ _ _ _ => R7); (k_dflt (refine' leaveM_next ?Kz9 ?Fz9 R7 ?hsz9 ?hLz9 ?hysz9 ?_ ?hkz9; (case Kz9 => k_asm); (case Fz9 => k_asm); (case hsz9 => exact Kept.out (by assumption) (by assumption)); (case hLz9 => assumption); (case hysz9 => first | exact (fun _ hb => absurd hb List.not_mem_nil) | (walk_at "M ys")); (case hkz9 => exact rfl))); clear R7; intro h8 R8)
  exact trivial
section
variable {prog : Program} {w : World} {A : Around} {K : Frag} {C x : Addr} {s : Shared} {h₀ : Heap} {L : Addr} {m : Str → Option Value} {Q E : Value → Shared → Prop}
theorem call_clsK {pos : List Value} {fI : Addr} (F : Fr h₀ L s.heap m) (X₀ : K.In h₀) (hm : makesIn K C = true)
    (hi : findIn K (.ref C) "__init__" = some (some (.ref fI))) (hf : isFn K (.ref fI) = true)
    (h : ∀ x dx h', (∀ b o, s.heap.get? b = some o → h'.get? b = some o) → s.heap.get? x = none → s.heap.get? dx = none → Fr h₀ L h' m → News h₀ L h' [(x, instObj C dx), (dx, dictOf [] 0)] → dx < x →
      codeAny (model prog w) (A.under (.builtin "type.__call__" ⟨.ref C :: pos, []⟩)) (.call (.ref fI) ⟨.ref x :: pos, []⟩) (InitBack x fun r s' => match r with | .ok (.ret v) => Q v s' | .ok _ => False | .error e => E e s') { s with heap := h' }) :
    wpAny (model prog w) A (call (.ref C) pos []) Q E s := by
  obtain ⟨hh, g, d, t, os⟩ := s
  refine wpAny_call ?_
  have X := X₀.keeps F.keep
  refine make_core (makes_of X hm) (looks_findIn X hi) (fun self => bind_fn X self (beq_iff_eq.mp hf)) (.inl rfl) (h _ hh.objs.size _ (fun b o e => Heap.get?_push_of_some _ (Heap.get?_push_of_some _ e)) (Heap.get?_none_of_le (Nat.le_succ _)) (Heap.get?_none_of_le (Nat.le_refl _)) ((F.push _).push _) ?_ (Nat.lt_succ_self _))
  have := ((News.nil (h₀ := h₀) (L := L) (h := hh)).push F emptyDict).push (F.push _) (instObj C hh.objs.size)
  rwa [Heap.size_push] at this
end
section
variable {w : World} {mean : ExcName → Option Value} {mg mb : Str → Option Value} {dp un : Nat} {gd : Option (List Code)} {cn : Str} {cs : Scope} {a : Addr} {ccd : Value} {cl : List (Str × Addr)} {outer : List Env} {A₀ : Around} {base h₀ : Heap} {L : Addr} {m : Str → Option Value} {s : Shared} {Q E : Value → Shared → Prop}
   (B : Below A₀ base outer h₀) (F : Fr h₀ L s.heap m) (X : (heapK w.params).In h₀) (T : Top prgV (looseW prgV [Str.ofString "ShapeError"]) mean mg mb h₀) (hk : cs.kind = .function)
include B F X T hk
set_option maxRecDepth 100000 in
set_option maxHeartbeats 8000000 in
theorem make_spec {b : Array UInt8} {t1 t2 : Tok} {i : Int}
   (hd : dp + 10 < recursionLimit) (hu : un + 100 < cLine)
   (hret : ∀ x dx k1 k2 h' tk', Kept s.heap h' [] → h'.get? x = some (instObj 163 dx) → h'.get? dx = some (dictOf [⟨PyData.keyHash w.params "data", .str "data" k1, .bytes b t1⟩, ⟨PyData.keyHash w.params "at", .str "at" k2, .int i t2⟩] 2) → s.heap.get? x = none → s.heap.get? dx = none → x ≠ dx → Q (.ref x) { s with heap := h', toks := tk' }) :
   wpAny (model Challenge.rw_nu0154_01.row.prog w) (ktrTop dp un gd cn cs L a ccd cl outer) (call (.ref 163) [.bytes b t1, .int i t2]) Q E s := by
  revert X; k_fill; intro X
  k_dflt (refine' call_clsK ?k1 ?k2 ?k3 ?k4 ?k5 ?_; (case k1 => k_asm); (case k2 => k_asm); (case k3 => k_is); (case k4 => k_is); (case k5 => k_is))
  intro x dx h1 kp nx ndx F1 N lt1
  have hne := neN (Ne.symm (Nat.ne_of_lt lt1))
  k_dflt (walk_at "M enter")
  k_steps
  rename Fr _ _ _ _ => F9
  rename Kept _ _ _ => K9
  refine' hret x dx _ _ _ _ ?a1 ?a2 ?a3 nx ndx hne
  case a2 => exact News.get (by assumption) (.head _)
  case a3 => exact News.get (by assumption) (.tail _ (.head _))
  case a1 => exact fun b o e _ => (Kept.out K9 (by assumption)) b o (kp b o e) (by simp only [List.map_cons, List.map_nil, List.mem_cons, List.not_mem_nil, or_false, not_or]; exact ⟨ne_of_get e nx, ne_of_get e ndx⟩)
theorem make_use {b : Array UInt8} {t1 t2 : Tok} {i : Int} {news : List (Addr × Obj)} (N : News h₀ L s.heap news)
   (hd : dp + 10 < recursionLimit) (hu : un + 100 < cLine)
   (hret : ∀ x dx k1 k2 h' tk', Fr h₀ L h' m → News h₀ L h' ((x, instObj 163 dx) :: (dx, dictOf [⟨PyData.keyHash w.params "data", .str "data" k1, .bytes b t1⟩, ⟨PyData.keyHash w.params "at", .str "at" k2, .int i t2⟩] 2) :: news) → x ≠ dx → LCg.Off1 x news → LCg.Off1 dx news → Q (.ref x) { s with heap := h', toks := tk' }) :
   wpAny (model Challenge.rw_nu0154_01.row.prog w) (ktrTop dp un gd cn cs L a ccd cl outer) (call (.ref 163) [.bytes b t1, .int i t2]) Q E s := by
  refine make_spec B F X T hk hd hu fun x dx k1 k2 h' tk' kp ex edx nx ndx ne => ?_
  have F' := Kept.fr F kp
  exact hret x dx k1 k2 h' tk' F' (News.cons_new F (News.cons_new F (Kept.news N kp) edx ndx) ex nx) ne (News.all_ne N nx) (News.all_ne N ndx)
end
end
section
theorem rT25_0 : True := by
  k_with_none
  k_with "ne" => (refine neN ?_; (try dsimp only); first | with_reducible assumption | exact Ne.symm (by with_reducible assumption) | exact off_ne (by with_reducible assumption) (by k_mem) | exact Ne.symm (off_ne (by with_reducible assumption) (by k_mem)) | exact off_i (by with_reducible assumption) (by k_mem) | exact off_c (by with_reducible assumption) (by k_mem) | exact off_d (by with_reducible assumption) (by k_mem) | exact Ne.symm (off_i (by with_reducible assumption) (by k_mem)) | exact Ne.symm (off_c (by with_reducible assumption) (by k_mem)) | exact Ne.symm (off_d (by with_reducible assumption) (by k_mem)) | exact Ne3.a (by with_reducible assumption) | exact Ne3.b (by with_reducible assumption) | exact Ne3.c (by with_reducible assumption) | exact Ne.symm (Ne3.a (by with_reducible assumption)) | exact Ne.symm (Ne3.b (by with_reducible assumption)) | exact Ne.symm (Ne3.c (by with_reducible assumption)) | exact NeA.ne (by with_reducible assumption) | exact Ne.symm (NeA.ne (by with_reducible assumption)) | exact Nat.ne_of_lt (by with_reducible assumption) | exact Nat.ne_of_gt (by with_reducible assumption) | exact Nat.ne_of_lt (And.left (by with_reducible assumption)) | exact Nat.ne_of_gt (And.left (by with_reducible assumption)) | exact Nat.ne_of_lt (And.left (And.right (by with_reducible assumption))) | exact Nat.ne_of_gt (And.left (And.right (by with_reducible assumption))) | exact Nat.ne_of_lt (And.right (by with_reducible assumption)) | exact Nat.ne_of_gt (And.right (by with_reducible assumption)) | exact Nat.ne_of_lt (And.right (And.right (by with_reducible assumption))) | exact Nat.ne_of_gt (And.right (And.right (by with_reducible assumption))) | exact Nat.ne_of_lt (And.left (And.right (And.right (by with_reducible assumption)))) | exact Nat.ne_of_gt (And.left (And.right (And.right (by with_reducible assumption)))))
  k_with "M enter" => (refine' enterM ?k1z9 ?k2z9 ?k3z9 ?k4z9 ?k5z9 ?kAz9 ?kFz9 ?kKz9 ?k6z9 ?k7z9 ?k8z9 ?k9z9 ?kBz9 ?_ ?c2z9 ?c3z9 ?c4z9 ?c5z9; (case kAz9 => exact rfl); (case kFz9 => exact rfl); (case kKz9 => assumption); (case k1z9 => k_asm); (case k2z9 => k_asm); (case k3z9 => k_asm); (case k4z9 => k_asm); (case k5z9 => k_asm); (case k6z9 => k_is); (case k7z9 => k_is); (case k8z9 => ktr_room); (case k9z9 => first | exact BindsTo.of_eq rfl | exact binds_K (by k_in) rfl (by k_is) rfl rfl rfl); (case c5z9 => decide); (case kBz9 => exact locs rfl); (case c2z9 => exact rfl); (case c3z9 => exact rfl); (case c4z9 => exact rfl); k_whole; intro g' L' h' tk' K' G' FG' F' N' B' X' T' l1 l2; (try k_lt l1); (try dsimp only); (try k_lift B'); (try k_fold))
  k_with "M enter0" => (refine' enterM ?k1z9 ?k2z9 ?k3z9 ?k4z9 ?k5z9 ?kAz9 ?kFz9 ?kKz9 ?k6z9 ?k7z9 ?k8z9 ?k9z9 ?kBz9 ?_ ?c2z9 ?c3z9 ?c4z9 ?c5z9; (case kAz9 => exact rfl); (case kFz9 => exact rfl); (case kKz9 => assumption); (case k1z9 => k_asm); (case k2z9 => k_asm); (case k3z9 => k_asm); (case k4z9 => k_asm); (case k5z9 => k_asm); (case k6z9 => k_is); (case k7z9 => k_is); (case k8z9 => ktr_room); (case k9z9 => first | exact BindsTo.of_eq rfl | exact binds_K (by k_in) rfl (by k_is) rfl rfl rfl); (case c5z9 => decide); (case kBz9 => exact locs rfl); (case c2z9 => exact rfl); (case c3z9 => exact rfl); (case c4z9 => exact rfl); k_whole)
  k_with "M ar" => (first | with_reducible assumption | decide | omega | (simp [List.getD]; done) | (simp [List.getD]; omega))
  k_with "M keep" => (rename Kept _ _ [] => K7; (have F' := Kept.fr (by k_asm) K7); (have N' := Kept.news (by k_asm) K7); clear K7; (try dsimp only); (try k_sweep))
  k_with "M enterC" => (refine' enterMC ?k1z9 ?k2z9 ?k3z9 ?k4z9 ?k5z9 ?kAz9 ?kFz9 ?kKz9 ?k6z9 ?k7z9 ?k8z9 ?k9z9 ?kBz9 ?kDz9 ?_ ?c2z9 ?c3z9 ?c4z9; (case kAz9 => exact rfl); (case kFz9 => exact rfl); (case kKz9 => assumption); (case k1z9 => k_asm); (case k2z9 => k_asm); (case k3z9 => k_asm); (case k4z9 => k_asm); (case k5z9 => k_asm); (case k6z9 => k_is); (case k7z9 => k_is); (case k8z9 => ktr_room); (case k9z9 => first | exact BindsTo.of_eq rfl | exact binds_K (by k_in) rfl (by k_is) rfl rfl rfl); (case kBz9 => exact rfl); (case kDz9 => decide +kernel); (case c2z9 => exact rfl); (case c3z9 => exact rfl); (case c4z9 => exact rfl); k_whole; intro g' L' h' tk' cells' K' G' FG' F' N' Y' B' X' T' l1 l2; (try k_lt l1); k_cells Y'; (try simp only [List.cons_append, List.nil_append] at N'); (try dsimp only); (try k_lift B'); (try k_fold))
  k_with "M enterC0" => (refine' enterMC ?k1z9 ?k2z9 ?k3z9 ?k4z9 ?k5z9 ?kAz9 ?kFz9 ?kKz9 ?k6z9 ?k7z9 ?k8z9 ?k9z9 ?kBz9 ?kDz9 ?_ ?c2z9 ?c3z9 ?c4z9; (case kAz9 => exact rfl); (case kFz9 => exact rfl); (case kKz9 => assumption); (case k1z9 => k_asm); (case k2z9 => k_asm); (case k3z9 => k_asm); (case k4z9 => k_asm); (case k5z9 => k_asm); (case k6z9 => k_is); (case k7z9 => k_is); (case k8z9 => ktr_room); (case k9z9 => first | exact BindsTo.of_eq rfl | exact binds_K (by k_in) rfl (by k_is) rfl rfl rfl); (case kBz9 => exact rfl); (case kDz9 => decide +kernel); (case c2z9 => exact rfl); (case c3z9 => exact rfl); (case c4z9 => exact rfl); k_whole)
  k_with "exec Raise some none" => (k_here; k_dflt (refine raise_own (by exact rfl) ?_); (try k_fold))
  k_with "M raise" => (k_dflt (refine' tf_use ?Bz9 ?Fz9 ?Xz9 ?Tz9 ?hAz9 ?hfz9 ?hkez9 ?hroomz9 ?huz9 ?hhz9 ?hSz9 ?_; (case hAz9 => exact rfl); (case hfz9 => exact rfl); (case hkez9 => first | exact rfl | assumption); (case Bz9 => k_asm); (case Fz9 => k_asm); (case Xz9 => k_asm); (case Tz9 => k_asm); (case hroomz9 => ktr_room); (case huz9 => ktr_units); (case hhz9 => exact rfl); (case hSz9 => first | decide | decide +kernel | walk_at "M ar")); intro e9 dx9 t9 k1 k2 h9 tk9 kp9 ne9 he9 hdx9 nd9 ht9 nt9; (try k_unfold); show RaisableM _ _ _ _; refine ⟨_, _, _, rfl, he9, Frag.In.keeps (Frag.In.keeps (by k_asm) (Fr.keep (by k_asm))) kp9, ?_⟩; (repeat k_unfold); (try dsimp only); (k_dflt (refine' leaveM_first ?Kz9 ?Fz9 ?hsz9 ?hLz9 kp9 ne9 he9 hdx9 nd9 ?_ ?hkz9; (case Kz9 => k_asm); (case Fz9 => k_asm); (case hsz9 => exact Kept.out (by assumption) (by assumption)); (case hLz9 => assumption); (case hkz9 => exact rfl))); intro h8 R8)
  k_with "M next" => ((repeat k_unfold); (try dsimp only); (rename RaisedM _ _ _ _ _ _ _ => R7); (k_dflt (refine' leaveM_next ?Kz9 ?Fz9 R7 ?hsz9 ?hLz9 ?hysz9 ?_ ?hkz9; (case Kz9 => k_asm); (case Fz9 => k_asm); (case hsz9 => exact Kept.out (by assumption) (by assumption)); (case hLz9 => assumption); (case hysz9 => first | exact (fun _ hb => absurd hb List.not_mem_nil) | (walk_at "M ys")); (case hkz9 => exact rfl))); clear R7; intro h8 R8)
  k_with "M ys" => (intro b9 hb9; (simp only [List.mem_cons, List.not_mem_nil, or_false] at hb9); rcases hb9 with hb9 | hb9 <;> (subst hb9; first | (refine Or.inl ?_; simp only [List.map_cons, List.map_nil, List.mem_cons, List.not_mem_nil, or_false, true_or, or_true]; done) | (refine Or.inr ?_; walk_at "M new")))
  k_with "call ref" => (k_here; (first | (with_reducible show wpAny _ _ (call (Value.ref 120) [Value.ref _]) _ _ _) | ((with_reducible show wpAny _ _ (call (Value.ref 120) ([Value.ref _] ++ [])) _ _ _); dsimp only [List.cons_append, List.nil_append])); (k_dflt (refine' ou16_use ?Bz9 ?Fz9 ?Xz9 ?Tz9 ?hkz9 ?Nz9 ?hxz9 ?Uz9 ?hnez9 ?hdz9 ?huz9 ?hbz9 ?hfitz9 ?h0z9 ?_ ?_)); (case Bz9 => k_asm); (case Fz9 => k_asm); (case Xz9 => k_asm); (case Tz9 => k_asm); (case hkz9 => first | exact rfl | assumption); (case Nz9 => k_asm); (case hxz9 => k_mem); (case Uz9 => k_updF); (case hnez9 => k_ne); (case hdz9 => ktr_room); (case huz9 => ktr_units); (case hbz9 => k_asm); (case hfitz9 => walk_at "M ar"); (case h0z9 => walk_at "M ar"); (all_goals (first | (intro p1 e' h' tk' R7; (with_reducible rename RaisedM _ _ _ _ _ _ _ => R7); (first | (exfalso; omega) | walk_at "M next")) | (intro p1 tt kk1 kk2 tt2 h' tk' F' N'; (try dsimp only at N'); (try dsimp only); (try k_sweep); (try k_fold)))))
  k_with "call ref" => (k_here; (with_reducible show wpAny _ _ (call (Value.ref 163) [Value.bytes _ _, Value.int _ _]) _ _ _); (k_dflt (refine' make_use ?Bz9 ?Fz9 ?Xz9 ?Tz9 ?hkz9 ?Nz9 ?hdz9 ?huz9 ?_)); (case Bz9 => k_asm); (case Fz9 => k_asm); (case Xz9 => k_asm); (case Tz9 => k_asm); (case hkz9 => first | exact rfl | assumption); (case Nz9 => k_asm); (case hdz9 => ktr_room); (case huz9 => ktr_units); (intro x' dx' kk1 kk2 h' tk' F' N' e1' e2' e3'; (try dsimp only at N'); (have e4' := neN e1'); (try dsimp only); (try k_sweep); (try k_fold)))
  exact trivial
def arrG (ks : List Int) (wh end_ delta : Int) : Int :=
  if wh + 2 > end_ then 0 else if n2 ks wh = 0 then 0 else (n2 ks wh + delta).fmod 65536
section
variable {w : World} {mean : ExcName → Option Value} {mg mb : Str → Option Value} {dp un : Nat} {gd : Option (List Code)} {cn : Str} {cs : Scope} {a : Addr} {ccd : Value} {cl : List (Str × Addr)} {outer : List Env} {A₀ : Around} {base h₀ : Heap} {L : Addr} {m : Str → Option Value} {s : Shared} {Q E : Value → Shared → Prop}
   (B : Below A₀ base outer h₀) (F : Fr h₀ L s.heap m) (X : (heapK w.params).In h₀) (T : Top prgV (looseW prgV [Str.ofString "ShapeError"]) mean mg mb h₀) (hk : cs.kind = .function)
include B F X T hk
set_option maxRecDepth 100000 in
set_option maxHeartbeats 8000000 in
theorem arr_spec {b : Array UInt8} {ks : List Int} {t1 t2 t3 t4 : Tok} {wh end_ delta : Int}
   (hd : dp + 44 < recursionLimit) (hu : un + 440 < cLine)
   (hb : KBw.bInts b = ks) (hfit : ks.length ≤ 100000) (h0 : 0 ≤ wh) (h1 : end_ ≤ ks.length)
   (hret : ∀ t h' tk', Kept s.heap h' [] → Q (.int (arrG ks wh end_ delta) t) { s with heap := h', toks := tk' }) :
   wpAny (model Challenge.rw_nu0154_01.row.prog w) (ktrTop dp un gd cn cs L a ccd cl outer) (call (.ref 195) [.bytes b t1, .int wh t2, .int end_ t3, .int delta t4]) Q E s := by
  have N : News h₀ L s.heap [] := News.nil
  revert X; k_fill; intro X
  refine wpAny_call ?_
  k_dflt (walk_at "M enter")
  k_steps
  · rw [show arrG ks wh end_ delta = 0 by unfold arrG; rw [if_pos (by omega)]] at hret
    exact hret _ _ _ (Kept.out (by assumption) (by assumption))
  · rw [show arrG ks wh end_ delta = 0 by unfold arrG; rw [if_neg (by omega), if_pos (by assumption)]] at hret
    exact hret _ _ _ (Kept.out (by assumption) (by assumption))
  · rw [show arrG ks wh end_ delta = (n2 ks wh + delta).fmod 65536 by unfold arrG; rw [if_neg (by omega), if_neg (by assumption)]] at hret
    exact hret _ _ _ (Kept.out (by assumption) (by assumption))
end
end
section
theorem rT26_0 : True := by
  k_with_none
  k_with "ne" => (refine neN ?_; (try dsimp only); first | with_reducible assumption | exact Ne.symm (by with_reducible assumption) | exact off_ne (by with_reducible assumption) (by k_mem) | exact Ne.symm (off_ne (by with_reducible assumption) (by k_mem)) | exact off_i (by with_reducible assumption) (by k_mem) | exact off_c (by with_reducible assumption) (by k_mem) | exact off_d (by with_reducible assumption) (by k_mem) | exact Ne.symm (off_i (by with_reducible assumption) (by k_mem)) | exact Ne.symm (off_c (by with_reducible assumption) (by k_mem)) | exact Ne.symm (off_d (by with_reducible assumption) (by k_mem)) | exact Ne3.a (by with_reducible assumption) | exact Ne3.b (by with_reducible assumption) | exact Ne3.c (by with_reducible assumption) | exact Ne.symm (Ne3.a (by with_reducible assumption)) | exact Ne.symm (Ne3.b (by with_reducible assumption)) | exact Ne.symm (Ne3.c (by with_reducible assumption)) | exact NeA.ne (by with_reducible assumption) | exact Ne.symm (NeA.ne (by with_reducible assumption)) | exact Nat.ne_of_lt (by with_reducible assumption) | exact Nat.ne_of_gt (by with_reducible assumption) | exact Nat.ne_of_lt (And.left (by with_reducible assumption)) | exact Nat.ne_of_gt (And.left (by with_reducible assumption)) | exact Nat.ne_of_lt (And.left (And.right (by with_reducible assumption))) | exact Nat.ne_of_gt (And.left (And.right (by with_reducible assumption))) | exact Nat.ne_of_lt (And.right (by with_reducible assumption)) | exact Nat.ne_of_gt (And.right (by with_reducible assumption)) | exact Nat.ne_of_lt (And.right (And.right (by with_reducible assumption))) | exact Nat.ne_of_gt (And.right (And.right (by with_reducible assumption))) | exact Nat.ne_of_lt (And.left (And.right (And.right (by with_reducible assumption)))) | exact Nat.ne_of_gt (And.left (And.right (And.right (by with_reducible assumption)))))
  k_with "M enter" => (refine' enterM ?k1z9 ?k2z9 ?k3z9 ?k4z9 ?k5z9 ?kAz9 ?kFz9 ?kKz9 ?k6z9 ?k7z9 ?k8z9 ?k9z9 ?kBz9 ?_ ?c2z9 ?c3z9 ?c4z9 ?c5z9; (case kAz9 => exact rfl); (case kFz9 => exact rfl); (case kKz9 => assumption); (case k1z9 => k_asm); (case k2z9 => k_asm); (case k3z9 => k_asm); (case k4z9 => k_asm); (case k5z9 => k_asm); (case k6z9 => k_is); (case k7z9 => k_is); (case k8z9 => ktr_room); (case k9z9 => first | exact BindsTo.of_eq rfl | exact binds_K (by k_in) rfl (by k_is) rfl rfl rfl); (case c5z9 => decide); (case kBz9 => exact locs rfl); (case c2z9 => exact rfl); (case c3z9 => exact rfl); (case c4z9 => exact rfl); k_whole; intro g' L' h' tk' K' G' FG' F' N' B' X' T' l1 l2; (try k_lt l1); (try dsimp only); (try k_lift B'); (try k_fold))
  k_with "M enter0" => (refine' enterM ?k1z9 ?k2z9 ?k3z9 ?k4z9 ?k5z9 ?kAz9 ?kFz9 ?kKz9 ?k6z9 ?k7z9 ?k8z9 ?k9z9 ?kBz9 ?_ ?c2z9 ?c3z9 ?c4z9 ?c5z9; (case kAz9 => exact rfl); (case kFz9 => exact rfl); (case kKz9 => assumption); (case k1z9 => k_asm); (case k2z9 => k_asm); (case k3z9 => k_asm); (case k4z9 => k_asm); (case k5z9 => k_asm); (case k6z9 => k_is); (case k7z9 => k_is); (case k8z9 => ktr_room); (case k9z9 => first | exact BindsTo.of_eq rfl | exact binds_K (by k_in) rfl (by k_is) rfl rfl rfl); (case c5z9 => decide); (case kBz9 => exact locs rfl); (case c2z9 => exact rfl); (case c3z9 => exact rfl); (case c4z9 => exact rfl); k_whole)
  k_with "M ar" => (first | with_reducible assumption | decide | omega | (simp [List.getD]; done) | (simp [List.getD]; omega))
  k_with "M keep" => (rename Kept _ _ [] => K7; (have F' := Kept.fr (by k_asm) K7); (have N' := Kept.news (by k_asm) K7); clear K7; (try dsimp only); (try k_sweep))
  k_with "M enterC" => (refine' enterMC ?k1z9 ?k2z9 ?k3z9 ?k4z9 ?k5z9 ?kAz9 ?kFz9 ?kKz9 ?k6z9 ?k7z9 ?k8z9 ?k9z9 ?kBz9 ?kDz9 ?_ ?c2z9 ?c3z9 ?c4z9; (case kAz9 => exact rfl); (case kFz9 => exact rfl); (case kKz9 => assumption); (case k1z9 => k_asm); (case k2z9 => k_asm); (case k3z9 => k_asm); (case k4z9 => k_asm); (case k5z9 => k_asm); (case k6z9 => k_is); (case k7z9 => k_is); (case k8z9 => ktr_room); (case k9z9 => first | exact BindsTo.of_eq rfl | exact binds_K (by k_in) rfl (by k_is) rfl rfl rfl); (case kBz9 => exact rfl); (case kDz9 => decide +kernel); (case c2z9 => exact rfl); (case c3z9 => exact rfl); (case c4z9 => exact rfl); k_whole; intro g' L' h' tk' cells' K' G' FG' F' N' Y' B' X' T' l1 l2; (try k_lt l1); k_cells Y'; (try simp only [List.cons_append, List.nil_append] at N'); (try dsimp only); (try k_lift B'); (try k_fold))
  k_with "M enterC0" => (refine' enterMC ?k1z9 ?k2z9 ?k3z9 ?k4z9 ?k5z9 ?kAz9 ?kFz9 ?kKz9 ?k6z9 ?k7z9 ?k8z9 ?k9z9 ?kBz9 ?kDz9 ?_ ?c2z9 ?c3z9 ?c4z9; (case kAz9 => exact rfl); (case kFz9 => exact rfl); (case kKz9 => assumption); (case k1z9 => k_asm); (case k2z9 => k_asm); (case k3z9 => k_asm); (case k4z9 => k_asm); (case k5z9 => k_asm); (case k6z9 => k_is); (case k7z9 => k_is); (case k8z9 => ktr_room); (case k9z9 => first | exact BindsTo.of_eq rfl | exact binds_K (by k_in) rfl (by k_is) rfl rfl rfl); (case kBz9 => exact rfl); (case kDz9 => decide +kernel); (case c2z9 => exact rfl); (case c3z9 => exact rfl); (case c4z9 => exact rfl); k_whole)
  k_with "exec Raise some none" => (k_here; k_dflt (refine raise_own (by exact rfl) ?_); (try k_fold))
  k_with "M raise" => (k_dflt (refine' tf_use ?Bz9 ?Fz9 ?Xz9 ?Tz9 ?hAz9 ?hfz9 ?hkez9 ?hroomz9 ?huz9 ?hhz9 ?hSz9 ?_; (case hAz9 => exact rfl); (case hfz9 => exact rfl); (case hkez9 => first | exact rfl | assumption); (case Bz9 => k_asm); (case Fz9 => k_asm); (case Xz9 => k_asm); (case Tz9 => k_asm); (case hroomz9 => ktr_room); (case huz9 => ktr_units); (case hhz9 => exact rfl); (case hSz9 => first | decide | decide +kernel | walk_at "M ar")); intro e9 dx9 t9 k1 k2 h9 tk9 kp9 ne9 he9 hdx9 nd9 ht9 nt9; (try k_unfold); show RaisableM _ _ _ _; refine ⟨_, _, _, rfl, he9, Frag.In.keeps (Frag.In.keeps (by k_asm) (Fr.keep (by k_asm))) kp9, ?_⟩; (repeat k_unfold); (try dsimp only); (k_dflt (refine' leaveM_first ?Kz9 ?Fz9 ?hsz9 ?hLz9 kp9 ne9 he9 hdx9 nd9 ?_ ?hkz9; (case Kz9 => k_asm); (case Fz9 => k_asm); (case hsz9 => exact Kept.out (by assumption) (by assumption)); (case hLz9 => assumption); (case hkz9 => exact rfl))); intro h8 R8)
  k_with "M next" => ((repeat k_unfold); (try dsimp only); (rename RaisedM _ _ _ _ _ _ _ => R7); (k_dflt (refine' leaveM_next ?Kz9 ?Fz9 R7 ?hsz9 ?hLz9 ?hysz9 ?_ ?hkz9; (case Kz9 => k_asm); (case Fz9 => k_asm); (case hsz9 => exact Kept.out (by assumption) (by assumption)); (case hLz9 => assumption); (case hysz9 => first | exact (fun _ hb => absurd hb List.not_mem_nil) | (walk_at "M ys")); (case hkz9 => exact rfl))); clear R7; intro h8 R8)
  exact trivial
section
variable {w : World} {mean : ExcName → Option Value} {mg mb : Str → Option Value} {dp un : Nat} {gd : Option (List Code)} {cn : Str} {cs : Scope} {a : Addr} {ccd : Value} {cl : List (Str × Addr)} {outer : List Env} {A₀ : Around} {base h₀ : Heap} {L : Addr} {m : Str → Option Value} {s : Shared} {Q E : Value → Shared → Prop}
   (B : Below A₀ base outer h₀) (F : Fr h₀ L s.heap m) (X : (heapK w.params).In h₀) (T : Top prgV (looseW prgV [Str.ofString "ShapeError"]) mean mg mb h₀) (hk : cs.kind = .function)
include B F X T hk
set_option maxRecDepth 100000 in
set_option maxHeartbeats 8000000 in
theorem put_spec {dd : Addr} {o : Obj} {kvs : List (Int × Value)} {c : List (Int × Int)} {t1 t2 : Tok} {code glyph : Int}
   (N : News h₀ L s.heap [(dd, o)]) (hD : o.IsDictOf (PySem.intKind Challenge.rw_nu0154_01.row.prog w) kvs) (hf : PyProof.V.FlatPairs PyData.int kvs (kdfD c)) (hc : c.length ≤ 8000000)
   (hd : dp + 4 < recursionLimit) (hu : un + 40 < cLine)
   (hret : ∀ o' kvs' h' tk', Kept s.heap h' [dd] → h'.get? dd = some o' → o'.IsDictOf (PySem.intKind Challenge.rw_nu0154_01.row.prog w) kvs' → PyProof.V.FlatPairs PyData.int kvs' (kdfD (if glyph = 0 then c else kdfPut c code glyph)) → Q .none { s with heap := h', toks := tk' }) :
   wpAny (model Challenge.rw_nu0154_01.row.prog w) (ktrTop dp un gd cn cs L a ccd cl outer) (call (.ref 181) [.ref dd, .int code t1, .int glyph t2]) Q E s := by
  revert X; k_fill; intro X
  refine wpAny_call ?_
  k_dflt (walk_at "M enter")
  k_steps
  · rw [if_neg (by assumption)] at hret
    exact hret _ _ _ _ (Kept.out (by assumption) (by assumption)) (News.get (by assumption) (.head _)) (by assumption) (by assumption)
  · rw [if_pos (by assumption)] at hret
    exact hret _ _ _ _ (Kept.out (by assumption) (by assumption)) (News.get (by assumption) (.head _)) (by assumption) (by assumption)
theorem put_use {dd : Addr} {o : Obj} {kvs : List (Int × Value)} {c : List (Int × Int)} {t1 t2 : Tok} {code glyph : Int} {news : List (Addr × Obj)} {g : Obj → List (Addr × Obj)}
   (N : News h₀ L s.heap news) (U : UpdF dd o news g) (hD : o.IsDictOf (PySem.intKind Challenge.rw_nu0154_01.row.prog w) kvs) (hf : PyProof.V.FlatPairs PyData.int kvs (kdfD c)) (hc : c.length ≤ 8000000)
   (hd : dp + 4 < recursionLimit) (hu : un + 40 < cLine)
   (hret : ∀ o' kvs' h' tk', Fr h₀ L h' m → News h₀ L h' (g o') → o'.IsDictOf (PySem.intKind Challenge.rw_nu0154_01.row.prog w) kvs' → PyProof.V.FlatPairs PyData.int kvs' (kdfD (if glyph = 0 then c else kdfPut c code glyph)) → Q .none { s with heap := h', toks := tk' }) :
   wpAny (model Challenge.rw_nu0154_01.row.prog w) (ktrTop dp un gd cn cs L a ccd cl outer) (call (.ref 181) [.ref dd, .int code t1, .int glyph t2]) Q E s := by
  refine put_spec B F X T hk (UpdF.only N U) hD hf hc hd hu fun o' kvs' h' tk' kp e a1 a2 => ?_
  obtain ⟨F', N'⟩ := Kept.updF F N U kp e
  exact hret o' kvs' h' tk' F' N' a1 a2
end
end
section
theorem rT28_0 : True := by
  k_with_none
  k_with "ne" => (refine neN ?_; (try dsimp only); first | with_reducible assumption | exact Ne.symm (by with_reducible assumption) | exact off_ne (by with_reducible assumption) (by k_mem) | exact Ne.symm (off_ne (by with_reducible assumption) (by k_mem)) | exact off_i (by with_reducible assumption) (by k_mem) | exact off_c (by with_reducible assumption) (by k_mem) | exact off_d (by with_reducible assumption) (by k_mem) | exact Ne.symm (off_i (by with_reducible assumption) (by k_mem)) | exact Ne.symm (off_c (by with_reducible assumption) (by k_mem)) | exact Ne.symm (off_d (by with_reducible assumption) (by k_mem)) | exact Ne3.a (by with_reducible assumption) | exact Ne3.b (by with_reducible assumption) | exact Ne3.c (by with_reducible assumption) | exact Ne.symm (Ne3.a (by with_reducible assumption)) | exact Ne.symm (Ne3.b (by with_reducible assumption)) | exact Ne.symm (Ne3.c (by with_reducible assumption)) | exact NeA.ne (by with_reducible assumption) | exact Ne.symm (NeA.ne (by with_reducible assumption)) | exact Nat.ne_of_lt (by with_reducible assumption) | exact Nat.ne_of_gt (by with_reducible assumption) | exact Nat.ne_of_lt (And.left (by with_reducible assumption)) | exact Nat.ne_of_gt (And.left (by with_reducible assumption)) | exact Nat.ne_of_lt (And.left (And.right (by with_reducible assumption))) | exact Nat.ne_of_gt (And.left (And.right (by with_reducible assumption))) | exact Nat.ne_of_lt (And.right (by with_reducible assumption)) | exact Nat.ne_of_gt (And.right (by with_reducible assumption)) | exact Nat.ne_of_lt (And.right (And.right (by with_reducible assumption))) | exact Nat.ne_of_gt (And.right (And.right (by with_reducible assumption))) | exact Nat.ne_of_lt (And.left (And.right (And.right (by with_reducible assumption)))) | exact Nat.ne_of_gt (And.left (And.right (And.right (by with_reducible assumption)))))
  k_with "M enter" => (refine' enterM ?k1z9 ?k2z9 ?k3z9 ?k4z9 ?k5z9 ?kAz9 ?kFz9 ?kKz9 ?k6z9 ?k7z9 ?k8z9 ?k9z9 ?kBz9 ?_ ?c2z9 ?c3z9 ?c4z9 ?c5z9; (case kAz9 => exact rfl); (case kFz9 => exact rfl); (case kKz9 => assumption); (case k1z9 => k_asm); (case k2z9 => k_asm); (case k3z9 => k_asm); (case k4z9 => k_asm); (case k5z9 => k_asm); (case k6z9 => k_is); (case k7z9 => k_is); (case k8z9 => ktr_room); (case k9z9 => first | exact BindsTo.of_eq rfl | exact binds_K (by k_in) rfl (by k_is) rfl rfl rfl); (case c5z9 => decide); (case kBz9 => exact locs rfl); (case c2z9 => exact rfl); (case c3z9 => exact rfl); (case c4z9 => exact rfl); k_whole; intro g' L' h' tk' K' G' FG' F' N' B' X' T' l1 l2; (try k_lt l1); (try dsimp only); (try k_lift B'); (try k_fold))
  k_with "M enter0" => (refine' enterM ?k1z9 ?k2z9 ?k3z9 ?k4z9 ?k5z9 ?kAz9 ?kFz9 ?kKz9 ?k6z9 ?k7z9 ?k8z9 ?k9z9 ?kBz9 ?_ ?c2z9 ?c3z9 ?c4z9 ?c5z9; (case kAz9 => exact rfl); (case kFz9 => exact rfl); (case kKz9 => assumption); (case k1z9 => k_asm); (case k2z9 => k_asm); (case k3z9 => k_asm); (case k4z9 => k_asm); (case k5z9 => k_asm); (case k6z9 => k_is); (case k7z9 => k_is); (case k8z9 => ktr_room); (case k9z9 => first | exact BindsTo.of_eq rfl | exact binds_K (by k_in) rfl (by k_is) rfl rfl rfl); (case c5z9 => decide); (case kBz9 => exact locs rfl); (case c2z9 => exact rfl); (case c3z9 => exact rfl); (case c4z9 => exact rfl); k_whole)
  k_with "M ar" => (first | with_reducible assumption | decide | omega | (simp [List.getD]; done) | (simp [List.getD]; omega))
  k_with "M keep" => (rename Kept _ _ [] => K7; (have F' := Kept.fr (by k_asm) K7); (have N' := Kept.news (by k_asm) K7); clear K7; (try dsimp only); (try k_sweep))
  k_with "M enterC" => (refine' enterMC ?k1z9 ?k2z9 ?k3z9 ?k4z9 ?k5z9 ?kAz9 ?kFz9 ?kKz9 ?k6z9 ?k7z9 ?k8z9 ?k9z9 ?kBz9 ?kDz9 ?_ ?c2z9 ?c3z9 ?c4z9; (case kAz9 => exact rfl); (case kFz9 => exact rfl); (case kKz9 => assumption); (case k1z9 => k_asm); (case k2z9 => k_asm); (case k3z9 => k_asm); (case k4z9 => k_asm); (case k5z9 => k_asm); (case k6z9 => k_is); (case k7z9 => k_is); (case k8z9 => ktr_room); (case k9z9 => first | exact BindsTo.of_eq rfl | exact binds_K (by k_in) rfl (by k_is) rfl rfl rfl); (case kBz9 => exact rfl); (case kDz9 => decide +kernel); (case c2z9 => exact rfl); (case c3z9 => exact rfl); (case c4z9 => exact rfl); k_whole; intro g' L' h' tk' cells' K' G' FG' F' N' Y' B' X' T' l1 l2; (try k_lt l1); k_cells Y'; (try simp only [List.cons_append, List.nil_append] at N'); (try dsimp only); (try k_lift B'); (try k_fold))
  k_with "M enterC0" => (refine' enterMC ?k1z9 ?k2z9 ?k3z9 ?k4z9 ?k5z9 ?kAz9 ?kFz9 ?kKz9 ?k6z9 ?k7z9 ?k8z9 ?k9z9 ?kBz9 ?kDz9 ?_ ?c2z9 ?c3z9 ?c4z9; (case kAz9 => exact rfl); (case kFz9 => exact rfl); (case kKz9 => assumption); (case k1z9 => k_asm); (case k2z9 => k_asm); (case k3z9 => k_asm); (case k4z9 => k_asm); (case k5z9 => k_asm); (case k6z9 => k_is); (case k7z9 => k_is); (case k8z9 => ktr_room); (case k9z9 => first | exact BindsTo.of_eq rfl | exact binds_K (by k_in) rfl (by k_is) rfl rfl rfl); (case kBz9 => exact rfl); (case kDz9 => decide +kernel); (case c2z9 => exact rfl); (case c3z9 => exact rfl); (case c4z9 => exact rfl); k_whole)
  k_with "call ref" => (k_here; (with_reducible show wpAny _ _ (call (Value.ref 188) [Value.ref _, Value.ref _, Value.int _ _, Value.int _ _]) _ _ _); (k_dflt (refine' segs_use ?Bz9 ?Fz9 ?Xz9 ?Tz9 ?hkz9 ?Nz9 ?h1z9 ?h2z9 ?hnez9 ?hdz9 ?huz9 ?hvz9 ?hwz9 ?hlz9 ?hfitz9 ?_ ?_)); (case Bz9 => k_asm); (case Fz9 => k_asm); (case Xz9 => k_asm); (case Tz9 => k_asm); (case hkz9 => first | exact rfl | assumption); (case Nz9 => k_asm); (case h1z9 => k_mem); (case h2z9 => k_mem); (case hnez9 => k_ne); (case hdz9 => ktr_room); (case huz9 => ktr_units); (case hvz9 => assumption); (case hwz9 => assumption); (case hlz9 => walk_at "M len"); (case hfitz9 => walk_at "M len"); (all_goals (first | (intro n9 p1 e' h' tk' R7; (with_reducible rename RaisedM _ _ _ _ _ _ _ => R7); walk_at "M next") | (intro z1 z2 h' tk' K7; walk_at "M keep"))))
  k_with "call ref" => (k_here; (with_reducible show wpAny _ _ (call (Value.ref 195) [Value.bytes _ _, Value.int _ _, Value.int _ _, Value.int _ _]) _ _ _); (k_dflt (refine' arr_spec ?Bz9 ?Fz9 ?Xz9 ?Tz9 ?hkz9 ?hdz9 ?huz9 ?hbz9 ?hfitz9 ?h0z9 ?h1z9 ?_)); (case Bz9 => k_asm); (case Fz9 => k_asm); (case Xz9 => k_asm); (case Tz9 => k_asm); (case hkz9 => first | exact rfl | assumption); (case hdz9 => ktr_room); (case huz9 => ktr_units); (case hbz9 => k_asm); (case hfitz9 => walk_at "M ar"); (case h0z9 => walk_at "M ar"); (case h1z9 => walk_at "M ar"); (intro tt' h' tk' K7; walk_at "M keep"))
  k_with "call ref" => (k_here; (with_reducible show wpAny _ _ (call (Value.ref 181) [Value.ref _, Value.int _ _, Value.int _ _]) _ _ _); (k_dflt (refine' put_use ?Bz9 ?Fz9 ?Xz9 ?Tz9 ?hkz9 ?Nz9 ?Uz9 ?hDz9 ?hfz9 ?hcz9 ?hdz9 ?huz9 ?_)); (case Bz9 => k_asm); (case Fz9 => k_asm); (case Xz9 => k_asm); (case Tz9 => k_asm); (case hkz9 => first | exact rfl | assumption); (case Nz9 => k_asm); (case Uz9 => k_updF); (case hDz9 => assumption); (case hfz9 => assumption); (case hcz9 => walk_at "M ar"); (case hdz9 => ktr_room); (case huz9 => ktr_units); (intro o' kvs' h' tk' F' N' hd' hf'; (try dsimp only at N'); (try dsimp only); (try k_sweep); (try k_fold)))
  exact trivial
section
variable (ks es ss ds os : List Int) (oa en : Int)
/-- the glyph of one code of segment i -/
def glyphAt (i code : Int) : Int :=
  if os.getD i.toNat 0 = 0 then (code + ds.getD i.toNat 0).fmod 65536
  else arrG ks (oa + 2 * i + os.getD i.toNat 0 + 2 * (code - ss.getD i.toNat 0)) en (ds.getD i.toNat 0)
def put1 (c : List (Int × Int)) (code g : Int) : List (Int × Int) := if g = 0 then c else kdfPut c code g
def fillSeg (i : Int) (c : List (Int × Int)) (codes : List Int) : List (Int × Int) := codes.foldl (fun c code => put1 c code (glyphAt ks ss ds os oa en i code)) c
def segCodes (i : Int) : List Int := rangeKs (ss.getD i.toNat 0) (es.getD i.toNat 0 + 1 - ss.getD i.toNat 0).toNat
def fillAll (is : List Int) : List (Int × Int) := is.foldl (fun c i => fillSeg ks ss ds os oa en i c (segCodes es ss i)) []
def OutP (pre : List Int) (c : List (Int × Int)) : Prop := c = fillAll ks es ss ds os oa en pre ∧ (c.length : Int) ≤ prevE es pre.length + 1
def InP (prei : List Int) (i : Int) (pre : List Int) (c : List (Int × Int)) : Prop := c = fillSeg ks ss ds os oa en i (fillAll ks es ss ds os oa en prei) pre ∧ (c.length : Int) ≤ ss.getD i.toNat 0 + pre.length
end
theorem put1_len (c : List (Int × Int)) (code g : Int) : (put1 c code g).length ≤ c.length + 1 := by
  unfold put1; split
  · omega
  · exact kdfPut_len _ _ _
section
variable {ks es ss ds os : List Int} {oa en : Int}
theorem outP_nil : OutP ks es ss ds os oa en [] [] := ⟨rfl, by simp [prevE]⟩
theorem inP_nil {i : Int} {pre : List Int} {c : List (Int × Int)} (h : OutP ks es ss ds os oa en pre c) (e : i = 0 + (pre.length : Int)) (hs : SegOk es ss es.length) (hl : pre.length < es.length) : InP ks es ss ds os oa en pre i [] c := by
  have en : i.toNat = pre.length := by omega
  have := (hs pre.length hl).1
  refine ⟨h.1, ?_⟩
  have h2 := h.2
  rw [en]
  simp only [List.length_nil]
  omega
theorem inP_snoc {i k g : Int} {prei pre : List Int} {c : List (Int × Int)} (h : InP ks es ss ds os oa en prei i pre c) (hg : g = glyphAt ks ss ds os oa en i k) : InP ks es ss ds os oa en prei i (pre ++ [k]) (if g = 0 then c else kdfPut c k g) := by
  subst hg
  show InP ks es ss ds os oa en prei i (pre ++ [k]) (put1 c k (glyphAt ks ss ds os oa en i k))
  refine ⟨?_, ?_⟩
  · rw [h.1]; unfold fillSeg; rw [List.foldl_append]; rfl
  · have h2 := h.2
    have := put1_len c k (glyphAt ks ss ds os oa en i k)
    rw [List.length_append, List.length_singleton]
    omega
theorem outP_snoc {i : Int} {pre : List Int} {c : List (Int × Int)} (h : InP ks es ss ds os oa en pre i (segCodes es ss i) c) (e : i = 0 + (pre.length : Int)) (hs : SegOk es ss es.length) (hl : pre.length < es.length) : OutP ks es ss ds os oa en (pre ++ [i]) c := by
  have en : i.toNat = pre.length := by omega
  have := (hs pre.length hl).2
  refine ⟨?_, ?_⟩
  · rw [h.1]; unfold fillAll; rw [List.foldl_append]; rfl
  · have h2 := h.2
    rw [List.length_append, List.length_singleton, prevE_succ]
    unfold segCodes at h2
    rw [rangeKs_length, en] at h2
    omega
theorem glyph_d {i k : Int} (h : os.getD i.toNat 0 = 0) : (k + ds.getD i.toNat 0).fmod 65536 = glyphAt ks ss ds os oa en i k := by unfold glyphAt; rw [if_pos h]
theorem glyph_o {i k : Int} (h : ¬ os.getD i.toNat 0 = 0) : arrG ks (oa + 2 * i + os.getD i.toNat 0 + 2 * (k - ss.getD i.toNat 0)) en (ds.getD i.toNat 0) = glyphAt ks ss ds os oa en i k := by unfold glyphAt; rw [if_neg h]
theorem inP_room {i : Int} {prei pre : List Int} {c : List (Int × Int)} (h : InP ks es ss ds os oa en prei i pre c) (h1 : ss.getD i.toNat 0 < 65536) (h2 : pre.length < (es.getD i.toNat 0 + 1 - ss.getD i.toNat 0).toNat) (h3 : es.getD i.toNat 0 < 65536) : c.length ≤ 8000000 := by
  have := h.2
  omega
end
end
section
theorem rT29_0 : True := by
  k_with_none
  k_with "ne" => (refine neN ?_; (try dsimp only); first | with_reducible assumption | exact Ne.symm (by with_reducible assumption) | exact off_ne (by with_reducible assumption) (by k_mem) | exact Ne.symm (off_ne (by with_reducible assumption) (by k_mem)) | exact off_i (by with_reducible assumption) (by k_mem) | exact off_c (by with_reducible assumption) (by k_mem) | exact off_d (by with_reducible assumption) (by k_mem) | exact Ne.symm (off_i (by with_reducible assumption) (by k_mem)) | exact Ne.symm (off_c (by with_reducible assumption) (by k_mem)) | exact Ne.symm (off_d (by with_reducible assumption) (by k_mem)) | exact Ne3.a (by with_reducible assumption) | exact Ne3.b (by with_reducible assumption) | exact Ne3.c (by with_reducible assumption) | exact Ne.symm (Ne3.a (by with_reducible assumption)) | exact Ne.symm (Ne3.b (by with_reducible assumption)) | exact Ne.symm (Ne3.c (by with_reducible assumption)) | exact NeA.ne (by with_reducible assumption) | exact Ne.symm (NeA.ne (by with_reducible assumption)) | exact Nat.ne_of_lt (by with_reducible assumption) | exact Nat.ne_of_gt (by with_reducible assumption) | exact Nat.ne_of_lt (And.left (by with_reducible assumption)) | exact Nat.ne_of_gt (And.left (by with_reducible assumption)) | exact Nat.ne_of_lt (And.left (And.right (by with_reducible assumption))) | exact Nat.ne_of_gt (And.left (And.right (by with_reducible assumption))) | exact Nat.ne_of_lt (And.right (by with_reducible assumption)) | exact Nat.ne_of_gt (And.right (by with_reducible assumption)) | exact Nat.ne_of_lt (And.right (And.right (by with_reducible assumption))) | exact Nat.ne_of_gt (And.right (And.right (by with_reducible assumption))) | exact Nat.ne_of_lt (And.left (And.right (And.right (by with_reducible assumption)))) | exact Nat.ne_of_gt (And.left (And.right (And.right (by with_reducible assumption)))))
  k_with "M enter" => (refine' enterM ?k1z9 ?k2z9 ?k3z9 ?k4z9 ?k5z9 ?kAz9 ?kFz9 ?kKz9 ?k6z9 ?k7z9 ?k8z9 ?k9z9 ?kBz9 ?_ ?c2z9 ?c3z9 ?c4z9 ?c5z9; (case kAz9 => exact rfl); (case kFz9 => exact rfl); (case kKz9 => assumption); (case k1z9 => k_asm); (case k2z9 => k_asm); (case k3z9 => k_asm); (case k4z9 => k_asm); (case k5z9 => k_asm); (case k6z9 => k_is); (case k7z9 => k_is); (case k8z9 => ktr_room); (case k9z9 => first | exact BindsTo.of_eq rfl | exact binds_K (by k_in) rfl (by k_is) rfl rfl rfl); (case c5z9 => decide); (case kBz9 => exact locs rfl); (case c2z9 => exact rfl); (case c3z9 => exact rfl); (case c4z9 => exact rfl); k_whole; intro g' L' h' tk' K' G' FG' F' N' B' X' T' l1 l2; (try k_lt l1); (try dsimp only); (try k_lift B'); (try k_fold))
  k_with "M enter0" => (refine' enterM ?k1z9 ?k2z9 ?k3z9 ?k4z9 ?k5z9 ?kAz9 ?kFz9 ?kKz9 ?k6z9 ?k7z9 ?k8z9 ?k9z9 ?kBz9 ?_ ?c2z9 ?c3z9 ?c4z9 ?c5z9; (case kAz9 => exact rfl); (case kFz9 => exact rfl); (case kKz9 => assumption); (case k1z9 => k_asm); (case k2z9 => k_asm); (case k3z9 => k_asm); (case k4z9 => k_asm); (case k5z9 => k_asm); (case k6z9 => k_is); (case k7z9 => k_is); (case k8z9 => ktr_room); (case k9z9 => first | exact BindsTo.of_eq rfl | exact binds_K (by k_in) rfl (by k_is) rfl rfl rfl); (case c5z9 => decide); (case kBz9 => exact locs rfl); (case c2z9 => exact rfl); (case c3z9 => exact rfl); (case c4z9 => exact rfl); k_whole)
  k_with "M ar" => (first | with_reducible assumption | decide | omega | (simp [List.getD]; done) | (simp [List.getD]; omega))
  k_with "M keep" => (rename Kept _ _ [] => K7; (have F' := Kept.fr (by k_asm) K7); (have N' := Kept.news (by k_asm) K7); clear K7; (try dsimp only); (try k_sweep))
  k_with "M enterC" => (refine' enterMC ?k1z9 ?k2z9 ?k3z9 ?k4z9 ?k5z9 ?kAz9 ?kFz9 ?kKz9 ?k6z9 ?k7z9 ?k8z9 ?k9z9 ?kBz9 ?kDz9 ?_ ?c2z9 ?c3z9 ?c4z9; (case kAz9 => exact rfl); (case kFz9 => exact rfl); (case kKz9 => assumption); (case k1z9 => k_asm); (case k2z9 => k_asm); (case k3z9 => k_asm); (case k4z9 => k_asm); (case k5z9 => k_asm); (case k6z9 => k_is); (case k7z9 => k_is); (case k8z9 => ktr_room); (case k9z9 => first | exact BindsTo.of_eq rfl | exact binds_K (by k_in) rfl (by k_is) rfl rfl rfl); (case kBz9 => exact rfl); (case kDz9 => decide +kernel); (case c2z9 => exact rfl); (case c3z9 => exact rfl); (case c4z9 => exact rfl); k_whole; intro g' L' h' tk' cells' K' G' FG' F' N' Y' B' X' T' l1 l2; (try k_lt l1); k_cells Y'; (try simp only [List.cons_append, List.nil_append] at N'); (try dsimp only); (try k_lift B'); (try k_fold))
  k_with "M enterC0" => (refine' enterMC ?k1z9 ?k2z9 ?k3z9 ?k4z9 ?k5z9 ?kAz9 ?kFz9 ?kKz9 ?k6z9 ?k7z9 ?k8z9 ?k9z9 ?kBz9 ?kDz9 ?_ ?c2z9 ?c3z9 ?c4z9; (case kAz9 => exact rfl); (case kFz9 => exact rfl); (case kKz9 => assumption); (case k1z9 => k_asm); (case k2z9 => k_asm); (case k3z9 => k_asm); (case k4z9 => k_asm); (case k5z9 => k_asm); (case k6z9 => k_is); (case k7z9 => k_is); (case k8z9 => ktr_room); (case k9z9 => first | exact BindsTo.of_eq rfl | exact binds_K (by k_in) rfl (by k_is) rfl rfl rfl); (case kBz9 => exact rfl); (case kDz9 => decide +kernel); (case c2z9 => exact rfl); (case c3z9 => exact rfl); (case c4z9 => exact rfl); k_whole)
  k_with "exec Raise some none" => (k_here; k_dflt (refine raise_own (by exact rfl) ?_); (try k_fold))
  k_with "M raise" => (k_dflt (refine' tf_use ?Bz9 ?Fz9 ?Xz9 ?Tz9 ?hAz9 ?hfz9 ?hkez9 ?hroomz9 ?huz9 ?hhz9 ?hSz9 ?_; (case hAz9 => exact rfl); (case hfz9 => exact rfl); (case hkez9 => first | exact rfl | assumption); (case Bz9 => k_asm); (case Fz9 => k_asm); (case Xz9 => k_asm); (case Tz9 => k_asm); (case hroomz9 => ktr_room); (case huz9 => ktr_units); (case hhz9 => exact rfl); (case hSz9 => first | decide | decide +kernel | walk_at "M ar")); intro e9 dx9 t9 k1 k2 h9 tk9 kp9 ne9 he9 hdx9 nd9 ht9 nt9; (try k_unfold); show RaisableM _ _ _ _; refine ⟨_, _, _, rfl, he9, Frag.In.keeps (Frag.In.keeps (by k_asm) (Fr.keep (by k_asm))) kp9, ?_⟩; (repeat k_unfold); (try dsimp only); (k_dflt (refine' leaveM_first ?Kz9 ?Fz9 ?hsz9 ?hLz9 kp9 ne9 he9 hdx9 nd9 ?_ ?hkz9; (case Kz9 => k_asm); (case Fz9 => k_asm); (case hsz9 => exact Kept.out (by assumption) (by assumption)); (case hLz9 => assumption); (case hkz9 => exact rfl))); intro h8 R8)
  k_with "M next" => ((repeat k_unfold); (try dsimp only); (rename RaisedM _ _ _ _ _ _ _ => R7); (k_dflt (refine' leaveM_next ?Kz9 ?Fz9 R7 ?hsz9 ?hLz9 ?hysz9 ?_ ?hkz9; (case Kz9 => k_asm); (case Fz9 => k_asm); (case hsz9 => exact Kept.out (by assumption) (by assumption)); (case hLz9 => assumption); (case hysz9 => first | exact (fun _ hb => absurd hb List.not_mem_nil) | (walk_at "M ys")); (case hkz9 => exact rfl))); clear R7; intro h8 R8)
  k_with "call ref" => (k_here; (with_reducible show wpAny _ _ (call (Value.ref 195) [Value.bytes _ _, Value.int _ _, Value.int _ _, Value.int _ _]) _ _ _); (k_dflt (refine' arr_spec ?Bz9 ?Fz9 ?Xz9 ?Tz9 ?hkz9 ?hdz9 ?huz9 ?hbz9 ?hfitz9 ?h0z9 ?h1z9 ?_)); (case Bz9 => k_asm); (case Fz9 => k_asm); (case Xz9 => k_asm); (case Tz9 => k_asm); (case hkz9 => first | exact rfl | assumption); (case hdz9 => ktr_room); (case huz9 => ktr_units); (case hbz9 => k_asm); (case hfitz9 => walk_at "M ar"); (case h0z9 => walk_at "M ar"); (case h1z9 => walk_at "M ar"); (intro tt' h' tk' K7; walk_at "M keep"))
  k_with "call ref" => (k_here; (with_reducible show wpAny _ _ (call (Value.ref 181) [Value.ref _, Value.int _ _, Value.int _ _]) _ _ _); (k_dflt (refine' put_use ?Bz9 ?Fz9 ?Xz9 ?Tz9 ?hkz9 ?Nz9 ?Uz9 ?hDz9 ?hfz9 ?hcz9 ?hdz9 ?huz9 ?_)); (case Bz9 => k_asm); (case Fz9 => k_asm); (case Xz9 => k_asm); (case Tz9 => k_asm); (case hkz9 => first | exact rfl | assumption); (case Nz9 => k_asm); (case Uz9 => k_updF); (case hDz9 => assumption); (case hfz9 => assumption); (case hcz9 => walk_at "M ar"); (case hdz9 => ktr_room); (case huz9 => ktr_units); (intro o' kvs' h' tk' F' N' hd' hf'; (try dsimp only at N'); (try dsimp only); (try k_sweep); (try k_fold)))
  exact trivial
section
variable {w : World} {mean : ExcName → Option Value} {mg mb : Str → Option Value} {dp un : Nat} {gd : Option (List Code)} {cn : Str} {cs : Scope} {a : Addr} {ccd : Value} {cl : List (Str × Addr)} {outer : List Env} {A₀ : Around} {base h₀ : Heap} {L : Addr} {m : Str → Option Value} {s : Shared} {Q E : Value → Shared → Prop}
   (B : Below A₀ base outer h₀) (F : Fr h₀ L s.heap m) (X : (heapK w.params).In h₀) (T : Top prgV (looseW prgV [Str.ofString "ShapeError"]) mean mg mb h₀) (hk : cs.kind = .function)
theorem rT29_1 : True := by
  k_with "pyIter ref" => (refine stopped ?_)
  exact trivial
set_option maxRecDepth 100000 in
set_option maxHeartbeats 8000000 in
theorem loops_spec {g : Heap} {L1 xA dA d l1 l2 l3 l4 l5 : Addr} {b : Array UInt8} {ks es ss ds os : List Int} {v1 v2 v3 v4 v5 : List Value} {ox od o : Obj} {t1 t2 te tc tea tsa toa : Tok} {at' en cnt ea sa oa : Int} {Qf : Flow → Shared → Prop}
   (B : Below (ktrTop dp un gd cn cs L a ccd cl outer) base (envX cn cs L a ccd cl :: outer) g) (X : (heapK w.params).In g) (T : Top prgV (looseW prgV [Str.ofString "ShapeError"]) mean mg mb g)
   (F : Fr g L1 s.heap (fun y => if y = Str.ofString "found" then some (Value.ref d) else if y = Str.ofString "offsets" then some (Value.ref l5) else if y = Str.ofString "offsets_at" then some (Value.int oa toa) else if y = Str.ofString "deltas" then some (Value.ref l4) else if y = Str.ofString "starts" then some (Value.ref l3) else if y = Str.ofString "starts_at" then some (Value.int sa tsa) else if y = Str.ofString "ends" then some (Value.ref l2) else if y = Str.ofString "ends_at" then some (Value.int ea tea) else if y = Str.ofString "count" then some (Value.int cnt tc) else if y = Str.ofString "end" then some (Value.int en te) else if y = Str.ofString "octets_in" then some (Value.ref xA) else List.lookup y [(Str.ofString "at", .int at' t2), (Str.ofString "data", .bytes b t1)]))
   (N : News g L1 s.heap [(d, o), (l5, LCg.lst v5), (l4, LCg.lst v4), (l3, LCg.lst v3), (l2, LCg.lst v2), (l1, LCg.lst v1), (xA, ox), (dA, od)])
   (lt : @LT.lt Nat _ l5 d ∧ @LT.lt Nat _ l4 d ∧ @LT.lt Nat _ l3 d ∧ @LT.lt Nat _ l2 d ∧ @LT.lt Nat _ l1 d ∧ @LT.lt Nat _ xA d ∧ @LT.lt Nat _ dA d)
   (hD : o.IsDictOf (PySem.intKind Challenge.rw_nu0154_01.row.prog w) []) (hf : PyProof.V.FlatPairs PyData.int [] [])
   (hd : dp + 60 < recursionLimit) (hu : un + 600 < cLine)
   (hb : KBw.bInts b = ks) (hby : ∀ k ∈ ks, 0 ≤ k ∧ k < 256) (hfit : ks.length ≤ 100000) (hen : en ≤ ks.length) (hoa : 0 ≤ oa)
   (hv2 : IntsAre v2 es) (hv3 : IntsAre v3 ss) (hv4 : IntsAre v4 ds) (hv5 : IntsAre v5 os) (e2 : es.length = (cnt.fdiv 2).toNat) (e3 : ss.length = (cnt.fdiv 2).toNat) (e4 : ds.length = (cnt.fdiv 2).toNat) (e5 : os.length = (cnt.fdiv 2).toNat)
   (hes : ∀ i, 0 ≤ es.getD i 0 ∧ es.getD i 0 < 65536) (hss : ∀ i, 0 ≤ ss.getD i 0 ∧ ss.getD i 0 < 65536) (hds : ∀ i, 0 ≤ ds.getD i 0 ∧ ds.getD i 0 < 65536) (hos : ∀ i, 0 ≤ os.getD i 0 ∧ os.getD i 0 < 65536)
   (hc : 0 ≤ cnt ∧ cnt < 65536) (z1 : SegOk es ss es.length)
   (hret : ∀ o' kvs h' tk' m', Fr g L1 h' m' → h'.get? d = some o' → o'.IsDictOf (PySem.intKind Challenge.rw_nu0154_01.row.prog w) kvs → PyProof.V.FlatPairs PyData.int kvs (kdfD (fillAll ks es ss ds os oa en (rangeKs 0 (cnt.fdiv 2).toNat))) → Qf (.ret (.ref d)) { s with heap := h', toks := tk' }) :
   wpAny (model Challenge.rw_nu0154_01.row.prog w) ((ktrTop dp un gd cn cs L a ccd cl outer).deeper (envOf (Str.ofString "read_format4") (scopeAt w.params 202) L1 202 (Value.ref 201))) (execs (sufAt w.params 202 17) (envOf (Str.ofString "read_format4") (scopeAt w.params 202) L1 202 (Value.ref 201))) Qf (fun _ _ => False) s := by
  revert X; k_fill; intro X
  conv in (occs := *) scopeAt _ _ => all_goals whnf
  conv in sufAt _ _ _ => whnf
  have q7 := fd_bd cnt
  k_steps
  refine Stop.go ?_
  k_with "state" => exact outP_nil
  k_state (fun pre found => OutP ks es ss ds os oa en pre found) "found"
  · have hl : kPre.length < es.length := by omega
    have st : ss.getD kN.toNat 0 ≤ es.getD kN.toNat 0 := by
      have e := (z1 kPre.length hl).2
      have en : kN.toNat = kPre.length := by omega
      rw [en]; exact e
    have be := hes kN.toNat
    have bs := hss kN.toNat
    have bd := hds kN.toNat
    have bo := hos kN.toNat
    obtain ⟨oPre, ePre⟩ : ∃ p, p = kPre := ⟨_, rfl⟩
    obtain ⟨oN, eN⟩ : ∃ p, p = kN := ⟨_, rfl⟩
    subst ePre
    subst eN
    have oInv := kInv
    have oEq := kEq
    have oLt := kLt
    clear kInv kEq kLt
    k_steps
    refine Stop.go ?_
    k_with "state" => exact inP_nil (by assumption) (by assumption) (by assumption) (by assumption)
    k_state (fun pre found => InP ks es ss ds os oa en oPre oN pre found) "found"
    · have rm := inP_room kInv bs.2 kLt be.2
      k_with "state" => first | exact inP_snoc (by assumption) (glyph_d (by assumption)) | exact inP_snoc (by assumption) (glyph_o (by assumption))
      k_steps
    · k_with "state" => exact outP_snoc (by assumption) (by assumption) (by assumption) (by assumption)
      k_steps
  · k_steps
    rw [Int.sub_zero] at kInv
    refine hret _ _ _ _ _ kFr (News.get kNews (.head _)) (by assumption) ?_
    rw [← kInv.1]
    assumption
end
end
section
theorem rT27_0 : True := by
  k_with_none
  k_with "ne" => (refine neN ?_; (try dsimp only); first | with_reducible assumption | exact Ne.symm (by with_reducible assumption) | exact off_ne (by with_reducible assumption) (by k_mem) | exact Ne.symm (off_ne (by with_reducible assumption) (by k_mem)) | exact off_i (by with_reducible assumption) (by k_mem) | exact off_c (by with_reducible assumption) (by k_mem) | exact off_d (by with_reducible assumption) (by k_mem) | exact Ne.symm (off_i (by with_reducible assumption) (by k_mem)) | exact Ne.symm (off_c (by with_reducible assumption) (by k_mem)) | exact Ne.symm (off_d (by with_reducible assumption) (by k_mem)) | exact Ne3.a (by with_reducible assumption) | exact Ne3.b (by with_reducible assumption) | exact Ne3.c (by with_reducible assumption) | exact Ne.symm (Ne3.a (by with_reducible assumption)) | exact Ne.symm (Ne3.b (by with_reducible assumption)) | exact Ne.symm (Ne3.c (by with_reducible assumption)) | exact NeA.ne (by with_reducible assumption) | exact Ne.symm (NeA.ne (by with_reducible assumption)) | exact Nat.ne_of_lt (by with_reducible assumption) | exact Nat.ne_of_gt (by with_reducible assumption) | exact Nat.ne_of_lt (And.left (by with_reducible assumption)) | exact Nat.ne_of_gt (And.left (by with_reducible assumption)) | exact Nat.ne_of_lt (And.left (And.right (by with_reducible assumption))) | exact Nat.ne_of_gt (And.left (And.right (by with_reducible assumption))) | exact Nat.ne_of_lt (And.right (by with_reducible assumption)) | exact Nat.ne_of_gt (And.right (by with_reducible assumption)) | exact Nat.ne_of_lt (And.right (And.right (by with_reducible assumption))) | exact Nat.ne_of_gt (And.right (And.right (by with_reducible assumption))) | exact Nat.ne_of_lt (And.left (And.right (And.right (by with_reducible assumption)))) | exact Nat.ne_of_gt (And.left (And.right (And.right (by with_reducible assumption)))))
  k_with "M enter" => (refine' enterM ?k1z9 ?k2z9 ?k3z9 ?k4z9 ?k5z9 ?kAz9 ?kFz9 ?kKz9 ?k6z9 ?k7z9 ?k8z9 ?k9z9 ?kBz9 ?_ ?c2z9 ?c3z9 ?c4z9 ?c5z9; (case kAz9 => exact rfl); (case kFz9 => exact rfl); (case kKz9 => assumption); (case k1z9 => k_asm); (case k2z9 => k_asm); (case k3z9 => k_asm); (case k4z9 => k_asm); (case k5z9 => k_asm); (case k6z9 => k_is); (case k7z9 => k_is); (case k8z9 => ktr_room); (case k9z9 => first | exact BindsTo.of_eq rfl | exact binds_K (by k_in) rfl (by k_is) rfl rfl rfl); (case c5z9 => decide); (case kBz9 => exact locs rfl); (case c2z9 => exact rfl); (case c3z9 => exact rfl); (case c4z9 => exact rfl); k_whole; intro g' L' h' tk' K' G' FG' F' N' B' X' T' l1 l2; (try k_lt l1); (try dsimp only); (try k_lift B'); (try k_fold))
  k_with "M enter0" => (refine' enterM ?k1z9 ?k2z9 ?k3z9 ?k4z9 ?k5z9 ?kAz9 ?kFz9 ?kKz9 ?k6z9 ?k7z9 ?k8z9 ?k9z9 ?kBz9 ?_ ?c2z9 ?c3z9 ?c4z9 ?c5z9; (case kAz9 => exact rfl); (case kFz9 => exact rfl); (case kKz9 => assumption); (case k1z9 => k_asm); (case k2z9 => k_asm); (case k3z9 => k_asm); (case k4z9 => k_asm); (case k5z9 => k_asm); (case k6z9 => k_is); (case k7z9 => k_is); (case k8z9 => ktr_room); (case k9z9 => first | exact BindsTo.of_eq rfl | exact binds_K (by k_in) rfl (by k_is) rfl rfl rfl); (case c5z9 => decide); (case kBz9 => exact locs rfl); (case c2z9 => exact rfl); (case c3z9 => exact rfl); (case c4z9 => exact rfl); k_whole)
  k_with "M ar" => (first | with_reducible assumption | decide | omega | (simp [List.getD]; done) | (simp [List.getD]; omega))
  k_with "M keep" => (rename Kept _ _ [] => K7; (have F' := Kept.fr (by k_asm) K7); (have N' := Kept.news (by k_asm) K7); clear K7; (try dsimp only); (try k_sweep))
  k_with "M enterC" => (refine' enterMC ?k1z9 ?k2z9 ?k3z9 ?k4z9 ?k5z9 ?kAz9 ?kFz9 ?kKz9 ?k6z9 ?k7z9 ?k8z9 ?k9z9 ?kBz9 ?kDz9 ?_ ?c2z9 ?c3z9 ?c4z9; (case kAz9 => exact rfl); (case kFz9 => exact rfl); (case kKz9 => assumption); (case k1z9 => k_asm); (case k2z9 => k_asm); (case k3z9 => k_asm); (case k4z9 => k_asm); (case k5z9 => k_asm); (case k6z9 => k_is); (case k7z9 => k_is); (case k8z9 => ktr_room); (case k9z9 => first | exact BindsTo.of_eq rfl | exact binds_K (by k_in) rfl (by k_is) rfl rfl rfl); (case kBz9 => exact rfl); (case kDz9 => decide +kernel); (case c2z9 => exact rfl); (case c3z9 => exact rfl); (case c4z9 => exact rfl); k_whole; intro g' L' h' tk' cells' K' G' FG' F' N' Y' B' X' T' l1 l2; (try k_lt l1); k_cells Y'; (try simp only [List.cons_append, List.nil_append] at N'); (try dsimp only); (try k_lift B'); (try k_fold))
  k_with "M enterC0" => (refine' enterMC ?k1z9 ?k2z9 ?k3z9 ?k4z9 ?k5z9 ?kAz9 ?kFz9 ?kKz9 ?k6z9 ?k7z9 ?k8z9 ?k9z9 ?kBz9 ?kDz9 ?_ ?c2z9 ?c3z9 ?c4z9; (case kAz9 => exact rfl); (case kFz9 => exact rfl); (case kKz9 => assumption); (case k1z9 => k_asm); (case k2z9 => k_asm); (case k3z9 => k_asm); (case k4z9 => k_asm); (case k5z9 => k_asm); (case k6z9 => k_is); (case k7z9 => k_is); (case k8z9 => ktr_room); (case k9z9 => first | exact BindsTo.of_eq rfl | exact binds_K (by k_in) rfl (by k_is) rfl rfl rfl); (case kBz9 => exact rfl); (case kDz9 => decide +kernel); (case c2z9 => exact rfl); (case c3z9 => exact rfl); (case c4z9 => exact rfl); k_whole)
  k_with "exec Raise some none" => (k_here; k_dflt (refine raise_own (by exact rfl) ?_); (try k_fold))
  k_with "M raise" => (k_dflt (refine' tf_use ?Bz9 ?Fz9 ?Xz9 ?Tz9 ?hAz9 ?hfz9 ?hkez9 ?hroomz9 ?huz9 ?hhz9 ?hSz9 ?_; (case hAz9 => exact rfl); (case hfz9 => exact rfl); (case hkez9 => first | exact rfl | assumption); (case Bz9 => k_asm); (case Fz9 => k_asm); (case Xz9 => k_asm); (case Tz9 => k_asm); (case hroomz9 => ktr_room); (case huz9 => ktr_units); (case hhz9 => exact rfl); (case hSz9 => first | decide | decide +kernel | walk_at "M ar")); intro e9 dx9 t9 k1 k2 h9 tk9 kp9 ne9 he9 hdx9 nd9 ht9 nt9; (try k_unfold); show RaisableM _ _ _ _; refine ⟨_, _, _, rfl, he9, Frag.In.keeps (Frag.In.keeps (by k_asm) (Fr.keep (by k_asm))) kp9, ?_⟩; (repeat k_unfold); (try dsimp only); (k_dflt (refine' leaveM_first ?Kz9 ?Fz9 ?hsz9 ?hLz9 kp9 ne9 he9 hdx9 nd9 ?_ ?hkz9; (case Kz9 => k_asm); (case Fz9 => k_asm); (case hsz9 => exact Kept.out (by assumption) (by assumption)); (case hLz9 => assumption); (case hkz9 => exact rfl))); intro h8 R8)
  k_with "M next" => ((repeat k_unfold); (try dsimp only); (rename RaisedM _ _ _ _ _ _ _ => R7); (k_dflt (refine' leaveM_next ?Kz9 ?Fz9 R7 ?hsz9 ?hLz9 ?hysz9 ?_ ?hkz9; (case Kz9 => k_asm); (case Fz9 => k_asm); (case hsz9 => exact Kept.out (by assumption) (by assumption)); (case hLz9 => assumption); (case hysz9 => first | exact (fun _ hb => absurd hb List.not_mem_nil) | (walk_at "M ys")); (case hkz9 => exact rfl))); clear R7; intro h8 R8)
  k_with "M ys" => (intro b9 hb9; (simp only [List.mem_cons, List.not_mem_nil, or_false] at hb9); rcases hb9 with hb9 | hb9 <;> (subst hb9; first | (refine Or.inl ?_; simp only [List.map_cons, List.map_nil, List.mem_cons, List.not_mem_nil, or_false, true_or, or_true]; done) | (refine Or.inr ?_; walk_at "M new")))
  k_with "call ref" => (k_here; (first | (with_reducible show wpAny _ _ (call (Value.ref 120) [Value.ref _]) _ _ _) | ((with_reducible show wpAny _ _ (call (Value.ref 120) ([Value.ref _] ++ [])) _ _ _); dsimp only [List.cons_append, List.nil_append])); (k_dflt (refine' ou16_use ?Bz9 ?Fz9 ?Xz9 ?Tz9 ?hkz9 ?Nz9 ?hxz9 ?Uz9 ?hnez9 ?hdz9 ?huz9 ?hbz9 ?hfitz9 ?h0z9 ?_ ?_)); (case Bz9 => k_asm); (case Fz9 => k_asm); (case Xz9 => k_asm); (case Tz9 => k_asm); (case hkz9 => first | exact rfl | assumption); (case Nz9 => k_asm); (case hxz9 => k_mem); (case Uz9 => k_updF); (case hnez9 => k_ne); (case hdz9 => ktr_room); (case huz9 => ktr_units); (case hbz9 => k_asm); (case hfitz9 => walk_at "M ar"); (case h0z9 => walk_at "M ar"); (all_goals (first | (intro p1 e' h' tk' R7; (with_reducible rename RaisedM _ _ _ _ _ _ _ => R7); (first | (exfalso; omega) | walk_at "M next")) | (intro p1 tt kk1 kk2 tt2 h' tk' F' N'; (try dsimp only at N'); (try dsimp only); (try k_sweep); (try k_fold)))))
  k_with "call ref" => (k_here; (with_reducible show wpAny _ _ (call (Value.ref 153) [Value.ref _, Value.int _ _]) _ _ _); (k_dflt (refine' rows_use ?Bz9 ?Fz9 ?Xz9 ?Tz9 ?hkz9 ?Nz9 ?hxz9 ?Uz9 ?hnez9 ?hdz9 ?huz9 ?hbz9 ?hfitz9 ?h0z9 ?hcz9 ?h1z9 ?_)); (case Bz9 => k_asm); (case Fz9 => k_asm); (case Xz9 => k_asm); (case Tz9 => k_asm); (case hkz9 => first | exact rfl | assumption); (case Nz9 => k_asm); (case hxz9 => k_mem); (case Uz9 => k_updF); (case hnez9 => k_ne); (case hdz9 => ktr_room); (case huz9 => ktr_units); (case hbz9 => k_asm); (case hfitz9 => walk_at "M ar"); (case h0z9 => walk_at "M ar"); (case hcz9 => walk_at "M ar"); (case h1z9 => walk_at "M ar"); (intro ys' D' kk1 kk2 tt2 h' tk' hy' F' N' o1'; (try dsimp only at N'); (try dsimp only); (try k_sweep); (try k_fold)))
  k_with "call ref" => (k_here; (with_reducible show wpAny _ _ (call (Value.ref 174) [Value.ref _, Value.int _ _]) _ _ _); (k_dflt (refine' form_use ?Bz9 ?Fz9 ?Xz9 ?Tz9 ?hkz9 ?Nz9 ?hxz9 ?Uz9 ?hnez9 ?hdz9 ?huz9 ?hbz9 ?hfitz9 ?h0z9 ?_ ?_)); (case Bz9 => k_asm); (case Fz9 => k_asm); (case Xz9 => k_asm); (case Tz9 => k_asm); (case hkz9 => first | exact rfl | assumption); (case Nz9 => k_asm); (case hxz9 => k_mem); (case Uz9 => k_updF); (case hnez9 => k_ne); (case hdz9 => ktr_room); (case huz9 => ktr_units); (case hbz9 => k_asm); (case hfitz9 => walk_at "M ar"); (case h0z9 => walk_at "M ar"); (all_goals (first | (intro p1 e' h' tk' R7; (with_reducible rename RaisedM _ _ _ _ _ _ _ => R7); (first | (exfalso; omega) | walk_at "M next")) | (intro p1 p2 kk1 kk2 tt2 h' tk' F' N'; (try dsimp only at N'); (try dsimp only); (try k_sweep); (try k_fold)))))
  k_with "call ref" => (k_here; (with_reducible show wpAny _ _ (call (Value.ref 188) [Value.ref _, Value.ref _, Value.int _ _, Value.int _ _]) _ _ _); (k_dflt (refine' segs_use ?Bz9 ?Fz9 ?Xz9 ?Tz9 ?hkz9 ?Nz9 ?h1z9 ?h2z9 ?hnez9 ?hdz9 ?huz9 ?hvz9 ?hwz9 ?hlz9 ?hfitz9 ?_ ?_)); (case Bz9 => k_asm); (case Fz9 => k_asm); (case Xz9 => k_asm); (case Tz9 => k_asm); (case hkz9 => first | exact rfl | assumption); (case Nz9 => k_asm); (case h1z9 => k_mem); (case h2z9 => k_mem); (case hnez9 => k_ne); (case hdz9 => ktr_room); (case huz9 => ktr_units); (case hvz9 => assumption); (case hwz9 => assumption); (case hlz9 => walk_at "M len"); (case hfitz9 => walk_at "M len"); (all_goals (first | (intro n9 p1 e' h' tk' R7; (with_reducible rename RaisedM _ _ _ _ _ _ _ => R7); walk_at "M next") | (intro z1 z2 h' tk' K7; walk_at "M keep"))))
  k_with "call ref" => (k_here; (with_reducible show wpAny _ _ (call (Value.ref 163) [Value.bytes _ _, Value.int _ _]) _ _ _); (k_dflt (refine' make_use ?Bz9 ?Fz9 ?Xz9 ?Tz9 ?hkz9 ?Nz9 ?hdz9 ?huz9 ?_)); (case Bz9 => k_asm); (case Fz9 => k_asm); (case Xz9 => k_asm); (case Tz9 => k_asm); (case hkz9 => first | exact rfl | assumption); (case Nz9 => k_asm); (case hdz9 => ktr_room); (case huz9 => ktr_units); (intro x' dx' kk1 kk2 h' tk' F' N' e1' e2' e3'; (try dsimp only at N'); (have e4' := neN e1'); (try dsimp only); (try k_sweep); (try k_fold)))
  k_with "call ref" => (k_here; (with_reducible show wpAny _ _ (call (Value.ref 195) [Value.bytes _ _, Value.int _ _, Value.int _ _, Value.int _ _]) _ _ _); (k_dflt (refine' arr_spec ?Bz9 ?Fz9 ?Xz9 ?Tz9 ?hkz9 ?hdz9 ?huz9 ?hbz9 ?hfitz9 ?h0z9 ?h1z9 ?_)); (case Bz9 => k_asm); (case Fz9 => k_asm); (case Xz9 => k_asm); (case Tz9 => k_asm); (case hkz9 => first | exact rfl | assumption); (case hdz9 => ktr_room); (case huz9 => ktr_units); (case hbz9 => k_asm); (case hfitz9 => walk_at "M ar"); (case h0z9 => walk_at "M ar"); (case h1z9 => walk_at "M ar"); (intro tt' h' tk' K7; walk_at "M keep"))
  k_with "call ref" => (k_here; (with_reducible show wpAny _ _ (call (Value.ref 181) [Value.ref _, Value.int _ _, Value.int _ _]) _ _ _); (k_dflt (refine' put_use ?Bz9 ?Fz9 ?Xz9 ?Tz9 ?hkz9 ?Nz9 ?Uz9 ?hDz9 ?hfz9 ?hcz9 ?hdz9 ?huz9 ?_)); (case Bz9 => k_asm); (case Fz9 => k_asm); (case Xz9 => k_asm); (case Tz9 => k_asm); (case hkz9 => first | exact rfl | assumption); (case Nz9 => k_asm); (case Uz9 => k_updF); (case hDz9 => assumption); (case hfz9 => assumption); (case hcz9 => walk_at "M ar"); (case hdz9 => ktr_room); (case huz9 => ktr_units); (intro o' kvs' h' tk' F' N' hd' hf'; (try dsimp only at N'); (try dsimp only); (try k_sweep); (try k_fold)))
  exact trivial
/-- the places of the table's parts, as the reader counts them -/
def segC (ks : List Int) (a : Int) : Int := (n2 ks (a + 2 + 2 + 2)).fdiv 2
def endsAt (a : Int) : Int := a + 2 + 2 + 2 + 2 + 2 * 3
def startsAt (ks : List Int) (a : Int) : Int := endsAt a + 2 * segC ks a + 2
def deltasAt (ks : List Int) (a : Int) : Int := startsAt ks a + 2 * segC ks a
def offsAt (ks : List Int) (a : Int) : Int := deltasAt ks a + 2 * segC ks a
def esOf (ks : List Int) (a : Int) : List Int := nums ks (endsAt a) (segC ks a).toNat
def ssOf (ks : List Int) (a : Int) : List Int := nums ks (startsAt ks a) (segC ks a).toNat
def dsOf (ks : List Int) (a : Int) : List Int := nums ks (deltasAt ks a) (segC ks a).toNat
def osOf (ks : List Int) (a : Int) : List Int := nums ks (offsAt ks a) (segC ks a).toNat
/-- the codes that the reader finds -/
def codesOf (ks : List Int) (a : Int) : List (Int × Int) := fillAll ks (esOf ks a) (ssOf ks a) (dsOf ks a) (osOf ks a) (offsAt ks a) (a + n2 ks (a + 2)) (rangeKs 0 (segC ks a).toNat)
/-- what the table asks ahead of its segments -/
def CountOk (ks : List Int) (a : Int) : Prop := n2 ks (a + 2 + 2 + 2) ≠ 0 ∧ (n2 ks (a + 2 + 2 + 2)).fmod 2 ≠ 1 ∧ a + 16 + 4 * n2 ks (a + 2 + 2 + 2) ≤ a + n2 ks (a + 2) ∧ a + n2 ks (a + 2) ≤ ks.length
def HeadOk (ks : List Int) (a : Int) : Prop := a + 8 ≤ ks.length ∧ n2 ks a = 4 ∧ CountOk ks a
def HeadFault (ks : List Int) (a n : Int) : Prop :=
  (¬ (a + 2 ≤ ks.length ∧ n2 ks a = 4) ∧ n = a) ∨ ((a + 2 ≤ ks.length ∧ n2 ks a = 4) ∧ ¬ a + 4 ≤ ks.length ∧ n = a + 2) ∨ (a + 4 ≤ ks.length ∧ n2 ks a = 4 ∧ ¬ a + 6 ≤ ks.length ∧ n = a + 4) ∨
  (a + 6 ≤ ks.length ∧ n2 ks a = 4 ∧ ¬ a + 8 ≤ ks.length ∧ n = a + 6) ∨ (a + 8 ≤ ks.length ∧ n2 ks a = 4 ∧ ¬ CountOk ks a ∧ n = a + 6)
def ReadFault (ks : List Int) (a n : Int) : Prop := HeadFault ks a n ∨ (HeadOk ks a ∧ SegFault (esOf ks a) (ssOf ks a) (endsAt a) (startsAt ks a) n)
section
variable {ks : List Int} {a : Int}
theorem rf_1 (p1 : a + 2 + 2 + 2 + 2 ≤ (ks.length : Int)) (p2 : n2 ks a = 4) (h : n2 ks (a + 2 + 2 + 2) = 0) : ReadFault ks a (a + 6) := .inl (.inr (.inr (.inr (.inr ⟨by omega, p2, fun q => q.1 h, rfl⟩))))
theorem rf_2 (p1 : a + 2 + 2 + 2 + 2 ≤ (ks.length : Int)) (p2 : n2 ks a = 4) (h : (n2 ks (a + 2 + 2 + 2)).fmod 2 = 1) : ReadFault ks a (a + 6) := .inl (.inr (.inr (.inr (.inr ⟨by omega, p2, fun q => q.2.1 h, rfl⟩))))
theorem rf_3 (p1 : a + 2 + 2 + 2 + 2 ≤ (ks.length : Int)) (p2 : n2 ks a = 4) (h : a + n2 ks (a + 2) < a + 16 + 4 * n2 ks (a + 2 + 2 + 2)) : ReadFault ks a (a + 6) := .inl (.inr (.inr (.inr (.inr ⟨by omega, p2, fun q => absurd h (Int.not_lt.mpr q.2.2.1), rfl⟩))))
theorem rf_4 (p1 : a + 2 + 2 + 2 + 2 ≤ (ks.length : Int)) (p2 : n2 ks a = 4) (h : (ks.length : Int) < a + n2 ks (a + 2)) : ReadFault ks a (a + 6) := .inl (.inr (.inr (.inr (.inr ⟨by omega, p2, fun q => absurd h (Int.not_lt.mpr q.2.2.2), rfl⟩))))
theorem rf_ok (p1 : a + 2 + 2 + 2 + 2 ≤ (ks.length : Int)) (p2 : n2 ks a = 4) (h1 : n2 ks (a + 2 + 2 + 2) ≠ 0) (h2 : (n2 ks (a + 2 + 2 + 2)).fmod 2 ≠ 1) (h3 : ¬ a + n2 ks (a + 2) < a + 16 + 4 * n2 ks (a + 2 + 2 + 2)) (h4 : ¬ (ks.length : Int) < a + n2 ks (a + 2)) : HeadOk ks a :=
  ⟨by omega, p2, h1, h2, Int.not_lt.mp h3, Int.not_lt.mp h4⟩
theorem rf_5 (p1 : a + 2 + 2 + 2 ≤ (ks.length : Int)) (p2 : n2 ks a = 4) (h : ¬ a + 2 + 2 + 2 + 2 ≤ (ks.length : Int)) : ReadFault ks a (a + 2 + 2 + 2) := .inl (.inr (.inr (.inr (.inl ⟨by omega, p2, by omega, by omega⟩))))
theorem rf_6 (p1 : a + 2 + 2 ≤ (ks.length : Int)) (p2 : n2 ks a = 4) (h : ¬ a + 2 + 2 + 2 ≤ (ks.length : Int)) : ReadFault ks a (a + 2 + 2) := .inl (.inr (.inr (.inl ⟨by omega, p2, by omega, by omega⟩)))
theorem rf_7 (p1 : a + 2 ≤ (ks.length : Int)) (p2 : n2 ks a = 4) (h : ¬ a + 2 + 2 ≤ (ks.length : Int)) : ReadFault ks a (a + 2) := .inl (.inr (.inl ⟨⟨p1, p2⟩, by omega, rfl⟩))
theorem rf_8 (h : ¬ (a + 2 ≤ (ks.length : Int) ∧ n2 ks a = 4)) : ReadFault ks a a := .inl (.inl ⟨h, rfl⟩)
theorem offs_pos (h0 : 0 ≤ a) (q : 0 ≤ (n2 ks (a + 2 + 2 + 2)).fdiv 2) : 0 ≤ offsAt ks a := by unfold offsAt deltasAt startsAt endsAt segC; omega
end
theorem fdiv_pos {c : Int} (h : 0 ≤ c) : 0 ≤ c.fdiv 2 := by have := fd_bd c; omega
theorem fresh_of {s₀ g h : Heap} {L a : Addr} {o : Obj} {news : List (Addr × Obj)} {xs : List Addr} (K : Kept s₀ g xs) (N : News g L h news) (hm : (a, o) ∈ news) (n : a ∉ xs) : s₀.get? a = none := Kept.fresh K (N _ hm).2.2 n
section
variable {w : World} {mean : ExcName → Option Value} {mg mb : Str → Option Value} {dp un : Nat} {gd : Option (List Code)} {cn : Str} {cs : Scope} {a : Addr} {ccd : Value} {cl : List (Str × Addr)} {outer : List Env} {A₀ : Around} {base h₀ : Heap} {L : Addr} {m : Str → Option Value} {s : Shared} {Q E : Value → Shared → Prop}
   (B : Below A₀ base outer h₀) (F : Fr h₀ L s.heap m) (X : (heapK w.params).In h₀) (T : Top prgV (looseW prgV [Str.ofString "ShapeError"]) mean mg mb h₀) (hk : cs.kind = .function)
theorem rT27_1 : True := by
  k_with "M len" => (simp only [nums_len]; first | done | omega)
  k_with "M new" => (refine fresh_of (by assumption) (by k_asm) (by k_mem) (by simp only [List.map_nil, List.not_mem_nil, not_false_eq_true]))
  exact trivial
include B F X T hk
theorem rT27_2 : True := by
  k_with "pyIter ref" => (refine stopped ?_)
  k_with "execs cons" => (k_here; (with_reducible show wpAny _ _ (execs [_, _] _) _ _ _); refine stopped ?_)
  exact trivial
set_option maxRecDepth 100000 in
set_option maxHeartbeats 8000000 in
theorem read_spec {b : Array UInt8} {ks : List Int} {t1 t2 : Tok} {at' : Int}
   (hd : dp + 60 < recursionLimit) (hu : un + 600 < cLine)
   (hb : KBw.bInts b = ks) (hby : ∀ k ∈ ks, 0 ≤ k ∧ k < 256) (hfit : ks.length ≤ 100000) (h0 : 0 ≤ at')
   (hret : HeadOk ks at' → SegOk (esOf ks at') (ssOf ks at') (esOf ks at').length → prevE (esOf ks at') (esOf ks at').length = 65535 → ∀ D o kvs h' tk', Kept s.heap h' [] → h'.get? D = some o → s.heap.get? D = none → (D == sysModules) = false → o.IsDictOf (PySem.intKind Challenge.rw_nu0154_01.row.prog w) kvs → PyProof.V.FlatPairs PyData.int kvs (kdfD (codesOf ks at')) → Q (.ref D) { s with heap := h', toks := tk' })
   (hexc : ∀ n, ReadFault ks at' n → ∀ e h' tk', RaisedM w.params s.heap [] (envX cn cs L a ccd cl :: outer) e n h' → E (.ref e) { s with heap := h', toks := tk' }) :
   wpAny (model Challenge.rw_nu0154_01.row.prog w) (ktrTop dp un gd cn cs L a ccd cl outer) (call (.ref 202) [.bytes b t1, .int at' t2]) Q E s := by
  have N : News h₀ L s.heap [] := News.nil
  revert X; k_fill; intro X
  refine wpAny_call ?_
  k_dflt (walk_at "M enter0")
  intro g1 L1 hh1 tk1 K1 G1 FG1 F1 N1 B1 X1 T1 l1 l2
  replace F1 : Fr g1 L1 hh1 (fun y => List.lookup y [(Str.ofString "at", .int at' t2), (Str.ofString "data", .bytes b t1)]) := F1
  clear l1
  dsimp only
  k_lift B1
  try k_fold
  have q2 := n2_bd hby (at' + 2)
  have q6 := n2_bd hby (at' + 2 + 2 + 2)
  have q7 := fd_bd (n2 ks (at' + 2 + 2 + 2))
  k_steps
  · walk_at "M raise"
    refine hexc _ ?_ _ _ _ (by assumption)
    exact rf_1 (by assumption) (by assumption) (by assumption)
  · walk_at "M raise"
    refine hexc _ ?_ _ _ _ (by assumption)
    exact rf_2 (by assumption) (by assumption) (by assumption)
  · walk_at "M raise"
    refine hexc _ ?_ _ _ _ (by assumption)
    exact rf_3 (by assumption) (by assumption) (by assumption)
  · walk_at "M raise"
    refine hexc _ ?_ _ _ _ (by assumption)
    exact rf_4 (by assumption) (by assumption) (by assumption)
  · refine Stop.go ?_
    have hk0 : HeadOk ks at' := rf_ok (by assumption) (by assumption) (by assumption) (by assumption) (by assumption) (by assumption)
    have z1 : SegOk (esOf ks at') (ssOf ks at') (esOf ks at').length := by assumption
    have z2 : prevE (esOf ks at') (esOf ks at').length = 65535 := by assumption
    have hoa : 0 ≤ offsAt ks at' := offs_pos h0 (fdiv_pos q6.1)
    have hr := hret hk0 z1 z2
    refine wpAny_mono (loops_spec (ks := ks) (es := esOf ks at') (ss := ssOf ks at') (ds := dsOf ks at') (os := osOf ks at') (oa := offsAt ks at') (en := at' + n2 ks (at' + 2)) (cnt := n2 ks (at' + 2 + 2 + 2)) B1 X1 T1 (by assumption) (by assumption) (by assumption) (by assumption) (by assumption) hd hu hb hby hfit (Int.not_lt.mp (by assumption)) hoa (by assumption) (by assumption) (by assumption) (by assumption) (nums_len _ _ _) (nums_len _ _ _) (nums_len _ _ _) (nums_len _ _ _) (nums_bd hby _ _) (nums_bd hby _ _) (nums_bd hby _ _) (nums_bd hby _ _) q6 z1 ?_) (fun _ _ h => h) (fun _ _ h => h.elim)
    intro o' kvs h' tk' m' F7 e7 a7 b7
    refine leaveK_ F7 News.nil fun _ _ => ?_
    exact hr _ _ _ _ _ (Kept.out K1 F7) e7 (by walk_at "M new") (by assumption) a7 b7
  · refine hexc _ ?_ _ _ _ (by assumption)
    exact .inr ⟨rf_ok (by assumption) (by assumption) (by assumption) (by assumption) (by assumption) (by assumption), by assumption⟩
  · refine hexc _ ?_ _ _ _ (by assumption)
    exact rf_5 (by assumption) (by assumption) (by assumption)
  · refine hexc _ ?_ _ _ _ (by assumption)
    exact rf_6 (by assumption) (by assumption) (by assumption)
  · refine hexc _ ?_ _ _ _ (by assumption)
    exact rf_7 (by assumption) (by assumption) (by assumption)
  · refine hexc _ ?_ _ _ _ (by assumption)
    exact rf_8 (by assumption)
end
end
section
theorem rT38_0 : True := by
  k_with_none
  k_with "ne" => (refine neN ?_; (try dsimp only); first | with_reducible assumption | exact Ne.symm (by with_reducible assumption) | exact off_ne (by with_reducible assumption) (by k_mem) | exact Ne.symm (off_ne (by with_reducible assumption) (by k_mem)) | exact off_i (by with_reducible assumption) (by k_mem) | exact off_c (by with_reducible assumption) (by k_mem) | exact off_d (by with_reducible assumption) (by k_mem) | exact Ne.symm (off_i (by with_reducible assumption) (by k_mem)) | exact Ne.symm (off_c (by with_reducible assumption) (by k_mem)) | exact Ne.symm (off_d (by with_reducible assumption) (by k_mem)) | exact Ne3.a (by with_reducible assumption) | exact Ne3.b (by with_reducible assumption) | exact Ne3.c (by with_reducible assumption) | exact Ne.symm (Ne3.a (by with_reducible assumption)) | exact Ne.symm (Ne3.b (by with_reducible assumption)) | exact Ne.symm (Ne3.c (by with_reducible assumption)) | exact NeA.ne (by with_reducible assumption) | exact Ne.symm (NeA.ne (by with_reducible assumption)) | exact Nat.ne_of_lt (by with_reducible assumption) | exact Nat.ne_of_gt (by with_reducible assumption) | exact Nat.ne_of_lt (And.left (by with_reducible assumption)) | exact Nat.ne_of_gt (And.left (by with_reducible assumption)) | exact Nat.ne_of_lt (And.left (And.right (by with_reducible assumption))) | exact Nat.ne_of_gt (And.left (And.right (by with_reducible assumption))) | exact Nat.ne_of_lt (And.right (by with_reducible assumption)) | exact Nat.ne_of_gt (And.right (by with_reducible assumption)) | exact Nat.ne_of_lt (And.right (And.right (by with_reducible assumption))) | exact Nat.ne_of_gt (And.right (And.right (by with_reducible assumption))) | exact Nat.ne_of_lt (And.left (And.right (And.right (by with_reducible assumption)))) | exact Nat.ne_of_gt (And.left (And.right (And.right (by with_reducible assumption)))))
  k_with "M enter" => (refine' enterM ?k1z9 ?k2z9 ?k3z9 ?k4z9 ?k5z9 ?kAz9 ?kFz9 ?kKz9 ?k6z9 ?k7z9 ?k8z9 ?k9z9 ?kBz9 ?_ ?c2z9 ?c3z9 ?c4z9 ?c5z9; (case kAz9 => exact rfl); (case kFz9 => exact rfl); (case kKz9 => assumption); (case k1z9 => k_asm); (case k2z9 => k_asm); (case k3z9 => k_asm); (case k4z9 => k_asm); (case k5z9 => k_asm); (case k6z9 => k_is); (case k7z9 => k_is); (case k8z9 => ktr_room); (case k9z9 => first | exact BindsTo.of_eq rfl | exact binds_K (by k_in) rfl (by k_is) rfl rfl rfl); (case c5z9 => decide); (case kBz9 => exact locs rfl); (case c2z9 => exact rfl); (case c3z9 => exact rfl); (case c4z9 => exact rfl); k_whole; intro g' L' h' tk' K' G' FG' F' N' B' X' T' l1 l2; (try k_lt l1); (try dsimp only); (try k_lift B'); (try k_fold))
  k_with "M enter0" => (refine' enterM ?k1z9 ?k2z9 ?k3z9 ?k4z9 ?k5z9 ?kAz9 ?kFz9 ?kKz9 ?k6z9 ?k7z9 ?k8z9 ?k9z9 ?kBz9 ?_ ?c2z9 ?c3z9 ?c4z9 ?c5z9; (case kAz9 => exact rfl); (case kFz9 => exact rfl); (case kKz9 => assumption); (case k1z9 => k_asm); (case k2z9 => k_asm); (case k3z9 => k_asm); (case k4z9 => k_asm); (case k5z9 => k_asm); (case k6z9 => k_is); (case k7z9 => k_is); (case k8z9 => ktr_room); (case k9z9 => first | exact BindsTo.of_eq rfl | exact binds_K (by k_in) rfl (by k_is) rfl rfl rfl); (case c5z9 => decide); (case kBz9 => exact locs rfl); (case c2z9 => exact rfl); (case c3z9 => exact rfl); (case c4z9 => exact rfl); k_whole)
  k_with "M ar" => (first | with_reducible assumption | decide | omega | (simp [List.getD]; done) | (simp [List.getD]; omega))
  k_with "M keep" => (rename Kept _ _ [] => K7; (have F' := Kept.fr (by k_asm) K7); (have N' := Kept.news (by k_asm) K7); clear K7; (try dsimp only); (try k_sweep))
  k_with "M enterC" => (refine' enterMC ?k1z9 ?k2z9 ?k3z9 ?k4z9 ?k5z9 ?kAz9 ?kFz9 ?kKz9 ?k6z9 ?k7z9 ?k8z9 ?k9z9 ?kBz9 ?kDz9 ?_ ?c2z9 ?c3z9 ?c4z9; (case kAz9 => exact rfl); (case kFz9 => exact rfl); (case kKz9 => assumption); (case k1z9 => k_asm); (case k2z9 => k_asm); (case k3z9 => k_asm); (case k4z9 => k_asm); (case k5z9 => k_asm); (case k6z9 => k_is); (case k7z9 => k_is); (case k8z9 => ktr_room); (case k9z9 => first | exact BindsTo.of_eq rfl | exact binds_K (by k_in) rfl (by k_is) rfl rfl rfl); (case kBz9 => exact rfl); (case kDz9 => decide +kernel); (case c2z9 => exact rfl); (case c3z9 => exact rfl); (case c4z9 => exact rfl); k_whole; intro g' L' h' tk' cells' K' G' FG' F' N' Y' B' X' T' l1 l2; (try k_lt l1); k_cells Y'; (try simp only [List.cons_append, List.nil_append] at N'); (try dsimp only); (try k_lift B'); (try k_fold))
  k_with "M enterC0" => (refine' enterMC ?k1z9 ?k2z9 ?k3z9 ?k4z9 ?k5z9 ?kAz9 ?kFz9 ?kKz9 ?k6z9 ?k7z9 ?k8z9 ?k9z9 ?kBz9 ?kDz9 ?_ ?c2z9 ?c3z9 ?c4z9; (case kAz9 => exact rfl); (case kFz9 => exact rfl); (case kKz9 => assumption); (case k1z9 => k_asm); (case k2z9 => k_asm); (case k3z9 => k_asm); (case k4z9 => k_asm); (case k5z9 => k_asm); (case k6z9 => k_is); (case k7z9 => k_is); (case k8z9 => ktr_room); (case k9z9 => first | exact BindsTo.of_eq rfl | exact binds_K (by k_in) rfl (by k_is) rfl rfl rfl); (case kBz9 => exact rfl); (case kDz9 => decide +kernel); (case c2z9 => exact rfl); (case c3z9 => exact rfl); (case c4z9 => exact rfl); k_whole)
  k_with "exec Raise some none" => (k_here; k_dflt (refine raise_own (by exact rfl) ?_); (try k_fold))
  k_with "M raise" => (k_dflt (refine' tf_use ?Bz9 ?Fz9 ?Xz9 ?Tz9 ?hAz9 ?hfz9 ?hkez9 ?hroomz9 ?huz9 ?hhz9 ?hSz9 ?_; (case hAz9 => exact rfl); (case hfz9 => exact rfl); (case hkez9 => first | exact rfl | assumption); (case Bz9 => k_asm); (case Fz9 => k_asm); (case Xz9 => k_asm); (case Tz9 => k_asm); (case hroomz9 => ktr_room); (case huz9 => ktr_units); (case hhz9 => exact rfl); (case hSz9 => first | decide | decide +kernel | walk_at "M ar")); intro e9 dx9 t9 k1 k2 h9 tk9 kp9 ne9 he9 hdx9 nd9 ht9 nt9; (try k_unfold); show RaisableM _ _ _ _; refine ⟨_, _, _, rfl, he9, Frag.In.keeps (Frag.In.keeps (by k_asm) (Fr.keep (by k_asm))) kp9, ?_⟩; (repeat k_unfold); (try dsimp only); (k_dflt (refine' leaveM_first ?Kz9 ?Fz9 ?hsz9 ?hLz9 kp9 ne9 he9 hdx9 nd9 ?_ ?hkz9; (case Kz9 => k_asm); (case Fz9 => k_asm); (case hsz9 => exact Kept.out (by assumption) (by assumption)); (case hLz9 => assumption); (case hkz9 => exact rfl))); intro h8 R8)
  k_with "M next" => ((repeat k_unfold); (try dsimp only); (rename RaisedM _ _ _ _ _ _ _ => R7); (k_dflt (refine' leaveM_next ?Kz9 ?Fz9 R7 ?hsz9 ?hLz9 ?hysz9 ?_ ?hkz9; (case Kz9 => k_asm); (case Fz9 => k_asm); (case hsz9 => exact Kept.out (by assumption) (by assumption)); (case hLz9 => assumption); (case hysz9 => first | exact (fun _ hb => absurd hb List.not_mem_nil) | (walk_at "M ys")); (case hkz9 => exact rfl))); clear R7; intro h8 R8)
  exact trivial
open PyProof.Rows
section
variable {prog : Program} {w : World} {A₀ : Around} {E : Value → Shared → Prop} {s' : Shared} {base g G : Heap} {outer : List Env} {L a e : Addr} {m : Str → Option Value} {name : Str} {scope : Scope} {cd : Value}
  {nm : Str} {b₀ : Stmt} {suite : List Stmt} {pos np : Pos} {rest : List ExceptHandler} {Q : Flow → Shared → Prop} {KF : Frag}
  {p : Program} {loose : List Str} {mean : ExcName → Option Value} {mg mb : Str → Option Value} {x : Str} {P : Params} {n : Int}
set_option maxHeartbeats 2000000 in
theorem caught_M (R : RaisedM P G [] (envOf name scope L a cd :: outer) e n s'.heap) (F : Fr g L G m) (K : Below A₀ base outer g) (XB : KF.In base) (TB : Top p loose mean mg mb base)
    (ex : nsIn KF mainGlobals x = some (some (.ref 61))) (q : ktsIn KF 61 "BaseException" = true)
    (k : ∀ h' g' dx oe k1 k2 S ts ti tk, KtsTurn (outer.filterMap (·.frame)) g g' → Fr g' L h' (fun y => if y = nm then some (.ref e) else m y) → News g' L h' [(e, oe)] → oe.cls = .ref 61 → oe.dict = some dx → (∃ vs, oe.data = .fields vs) →
      h'.get? dx = some (dictOf [⟨PyData.keyHash P "what", .str "what" k1, .str S ts⟩, ⟨PyData.keyHash P "at", .str "at" k2, .int n ti⟩] 2) → Below A₀ base outer g' → KF.In g' → Top p loose mean mg mb g' →
      wpAny (model prog w) ((A₀.deeper (envOf name scope L a cd)).mark (some (.ref e))) (execs (b₀ :: suite) (envOf name scope L a cd))
        (fun f s₄ => wpAny (model prog w) (A₀.deeper (envOf name scope L a cd)) (do bindName (envOf name scope L a cd) nm .none; unbindBehindTheSuite (envOf name scope L a cd) nm pos) (fun _ s₅ => Q f s₅) E s₄)
        (AsSuiteRaised (model prog w) ((A₀.deeper (envOf name scope L a cd)).mark (some (.ref e))) (envOf name scope L a cd) nm pos (notedBy (model prog w) ((A₀.deeper (envOf name scope L a cd)).mark (some (.ref e))) (envOf name scope L a cd) (cameBackBy (model prog w) (A₀.deeper (envOf name scope L a cd)) (envOf name scope L a cd) E)))
        { s' with heap := h', toks := tk })
    (hk : scope.kind = .function) (hlo : (envOf name scope L a cd).kindOf nm = some .local) (hx : (envOf name scope L a cd).kindOf x = some .globalImplicit) (hd : (x == ("__debug__" : Str)) = false) :
    wpAny (model prog w) (A₀.deeper (envOf name scope L a cd)) (noteFrame (.ref e) (envOf name scope L a cd))
      (fun _ s₂ => wpAny (model prog w) (A₀.deeper (envOf name scope L a cd)) (setFlight (.ref e) none) (fun _ s₃ =>
        wpAny (model prog w) (A₀.deeper (envOf name scope L a cd)) (handleBy (.ref e) (envOf name scope L a cd) (.ExceptHandler (some (.Name x np)) (some nm) (b₀ :: suite) pos :: rest)) Q E s₃) E s₂) E s' := by
  obtain ⟨B, dx, t, k1, k2, S, ts, ti, r1, hfl, r3, ⟨oe0, he0, hed0⟩, r5⟩ := R
  have hBG : ∀ b o, G.get? b = some o → b ∉ (envOf name scope L a cd :: outer).filterMap (·.frame) → B.get? b = some o := fun b o e n1 => r1 b o e List.not_mem_nil n1
  have hsm : G.UpToSlots s'.heap := fun b o e n1 => r5 b o e List.not_mem_nil n1
  have hL : B.get? L = none := by
    obtain ⟨_, ⟨L', _, hf, hn', _⟩, _⟩ := hfl.2.2.1
    obtain rfl : L = L' := Option.some.inj hf
    exact hn'
  refine wpAny_mono (KD.any KD.noteFrame (E := fun _ _ => False) (Q := fun _ s₂ => ∃ h₄, s₂ = { s' with heap := h₄ } ∧ Heap.HeldW B (envOf name scope L a cd :: outer) e (.ref 61) (.ref t) L h₄ ∧ s'.heap.UpToSlots h₄) (wpAny_looks_onW (Around.frames_deeper K.stack) rfl hfl fun h₄ hheld₄ hsm₄ => ⟨h₄, rfl, hheld₄, hsm₄⟩)) (fun _ s₂ z => ?_) fun _ _ z => z.1.elim
  obtain ⟨⟨h₄, rfl, hheld₄, hsm₄⟩, dk₄⟩ := z
  refine wpAny_mono (KD.any KD.setFlight (E := fun _ _ => False) (Q := fun _ s₂ => ∃ h₅, s₂ = { s' with heap := h₅ } ∧ Heap.FlyingW B (envOf name scope L a cd :: outer) e (.ref 61) (.ref t) h₅ ∧ h₄.UpToSlots h₅) (wpAny_landsW hheld₄ fun h₅ hheld hsm₅' => ⟨h₅, rfl, hheld, hsm₅'⟩)) (fun _ s₂ z => ?_) fun _ _ z => z.1.elim
  obtain ⟨⟨h₅, rfl, hheld, hsm₅'⟩, dk₅⟩ := z
  have hsm₅ := hsm₄.trans hsm₅'
  obtain ⟨g₅, T₅, F₅, K₅⟩ := kts_ground K F hBG hheld.1 (hsm.trans hsm₅)
  have X₅ : KF.In g₅ := XB.keeps K₅.stays
  have P₅ : TopRead p loose mg mb g₅ := topRead_of (TB.keeps K₅.stays)
  obtain ⟨ob, hob, hobc⟩ := hheld.there
  obtain ⟨_, q', _, _, bm, _, _, _, _, _, _, _, _, _, _, _, _, hC, hbase, hbT⟩ := kts_cls X₅ q
  have hC₅ := F₅.keep _ _ hC
  refine wpAny_handleBy_cons (codeAny_handlers_test (name_K F₅ X₅ P₅ ex ?_ hk hx hd)) (by intro q; cases q)
  refine wpAny_excMatches_sub_self hC₅ hob hobc hbase (codeAny_handlers_suite_as ?_)
  refine wpAny_mono (KD.any KD.setFlight (E := fun _ _ => False) (Q := fun _ s₂ => ∃ h₆, s₂ = { s' with heap := h₆ } ∧ Heap.FlyingW B (envOf name scope L a cd :: outer) e (.ref 61) (.ref t) h₆ ∧ h₅.UpToSlots h₆) (lands_againW hheld fun h₆ hfl₆ hsm₆ => ⟨h₆, rfl, hfl₆, hsm₆⟩)) (fun _ s₂ z => ?_) fun _ _ z => z.1.elim
  obtain ⟨⟨h₆, rfl, hfl₆, hsm₆⟩, dk₆⟩ := z
  obtain ⟨g₆, T₆, F₆, K₆⟩ := kts_ground K F hBG hfl₆.1 ((hsm.trans hsm₅).trans hsm₆)
  obtain ⟨oe, ws, hoe, hoec, hoed, hoe0⟩ := hfl₆.first
  have dke : oe.dict = some dx := by
    obtain ⟨o1, e1, d1⟩ := ((dk₄.trans dk₅).trans dk₆) e oe0 he0
    have e1' : h₆.get? e = some o1 := e1
    rw [hoe] at e1'
    cases e1'
    rw [d1, hed0]
  have ne₆ : g₆.get? e = none := T₆.none_ _ (kts_fresh F hBG hfl₆.2.1 fun o ho m => by
    obtain ⟨_, o', ho', hd⟩ := K.frames.mem m
    rw [ho] at ho'
    cases ho'
    obtain ⟨sl, hs⟩ := ((hsm.trans hsm₅).trans hsm₆) _ _ (F.keep _ _ ho) hd
    rw [hoe] at hs
    cases hs
    exact hd _ hoed)
  have N₆ := News.more F₆ News.nil hoe (fun es n q => by rw [hoed] at q; cases q) ne₆
  have X₆ : KF.In g₆ := XB.keeps K₆.stays
  have P₆ : Top p loose mean mg mb g₆ := TB.keeps K₆.stays
  have hdx₆ := hfl₆.1 _ _ r3
  have hdL : dx ≠ L := fun z => by rw [z, hL] at r3; cases r3
  refine stNK F₆ N₆ (fun h₇ F₇ N₇ sb _ => ?_) hk hlo
  exact k h₇ g₆ dx oe k1 k2 S ts ti _ T₆ F₇ N₇ hoec dke ⟨ws, hoed⟩ ((sb.2 dx hdL).trans hdx₆) K₆ X₆ P₆
end
/-- the at of a caught TableFault -/
theorem get_at {prog : Program} {w : World} {A : Around} {E Q : Value → Shared → Prop} {s : Shared} {h₀ : Heap} {L e dx : Addr} {m : Str → Option Value} {oe : Obj} {k1 k2 ts ti : Tok} {S : Str} {n : Int} {b : Bool} (F : Fr h₀ L s.heap m) (X₀ : (heapK w.params).In h₀)
    (he : s.heap.get? e = some oe) (hc : oe.cls = .ref 61) (hod : oe.dict = some dx) (hv : ∃ vs, oe.data = .fields vs) (hx : s.heap.get? dx = some (dictOf [⟨PyData.keyHash w.params "what", .str "what" k1, .str S ts⟩, ⟨PyData.keyHash w.params "at", .str "at" k2, .int n ti⟩] 2))
    (h : Q (.int n ti) { s with toks := s.toks + 1 }) : wpAny (model prog w) A (getAttr (.ref e) "at" b) Q E s := by
  obtain ⟨vs, hv⟩ := hv
  obtain ⟨hh9, g9, d9, t9, os9⟩ := s
  have X : (heapK w.params).In hh9 := X₀.keeps F.keep
  have I : InstAt hh9 e oe 61 (some (dictOf [⟨PyData.keyHash w.params "what", .str "what" k1, .str S ts⟩, ⟨PyData.keyHash w.params "at", .str "at" k2, .int n ti⟩] 2)) := ⟨he, hc, by unfold notCls; rw [hv], by rw [hod]; exact hx⟩
  have hf : findObj (heapK w.params) 61 (some (dictOf [⟨PyData.keyHash w.params "what", .str "what" k1, .str S ts⟩, ⟨PyData.keyHash w.params "at", .str "at" k2, .int n ti⟩] 2)) (Str.ofString "at") = some (.value (.int n ti)) :=
    findObj_own (by kernel_rfl) (attr := none) (by kernel_rfl) rfl rfl
  have L1 : Looks (model prog w) hh9 (typeLookup (.ref 61) "__getattribute__") (some (.builtin "BaseException.__getattribute__")) := looks_findIn X (by kernel_rfl)
  have L2 : Looks (model prog w) hh9 (typeLookup (.ref 61) "__getattr__") none := looks_findIn X (by kernel_rfl)
  have LF := looks_find (M := model prog w) X I hf
  have sub : Looks (model prog w) hh9 (isInstance (.ref e) (.type "BaseException")) true := I.type.andThen (looks_mroIn X (by kernel_rfl))
  have FB := PySem.F.attrBase_Exception
  unfold getAttr getAttrBy
  refine wpAny_bind (wpAny_mkText (wpAny_holding (wpAny_bind (I.type.at (wpAny_bind (L1.at ?_))))))
  show wpAny _ _ (getAttrByItsOwn _ _ _ _ _ _) _ _ _
  unfold getAttrByItsOwn hookBefore
  show wpAny _ _ (typeLookup (.ref 61) "__getattr__" >>= _) _ _ _
  refine wpAny_bind (L2.at (wpAny_bind (wpAny_attempt (wpAny_holding ?_))))
  have e0 : ∀ tk, callGetattribute (.ref e) (.str "at" tk) (.builtin "BaseException.__getattribute__") b = boundAndCalled (.builtin "BaseException.__getattribute__") (.ref e) (.str "at" tk) := fun tk => by cases b <;> rfl
  rw [e0]
  unfold boundAndCalled
  rw [FB.ga.bind (.ref e)]
  refine wpAny_bind (wpAny_pure ?_)
  show wpAny _ _ (call (.builtin "BaseException.__getattribute__") [.ref e, .str "at" _]) _ _ _
  refine wpAny_call (codeAny_call_builtin FB.ga.plain PySem.F.entry_bexc_ga (@check_slot (model prog w) _ _ _ "BaseException.__getattribute__" "BaseException" "__getattribute__" (.ref e) [.str "at" _] [] _ (by decide +kernel) (by decide +kernel) sub (PySem.F.args_bexc_ga (.ref e) _) ?_))
  unfold Builtin.«object.__getattribute__»
  refine wpAny_bind (wpAny_pure (wpAny_bind (wpAny_pure (wpAny_bind (I.type.at (wpAny_bind (LF.at ?_)))))))
  refine wpAny_pure ?_
  show wpAny _ _ (Pure.pure (Value.int n ti)) _ _ _
  exact wpAny_pure h
section
variable {prog : Program} {w : World} {A A₀ : Around} {s : Shared} {K : Frag} {L : Addr} {h₀ base : Heap} {m mg mb : Str → Option Value} {news : List (Addr × Obj)} {p : Program} {loose : List Str} {mean : ExcName → Option Value}
/-- enterM whose answer is bound to no ground -/
theorem enterR {env : Env} {outer : List Env} {R : Result → Shared → Prop} {name qual : Str} {params : Arguments} {body : List Stmt} {scope : Scope} {dV kV doc pm cdv ct oc : Value} {an od : Option Addr} {osl : Array (Option Value)} {f : Addr} {args : Args} {binds : List (Str × Value)}
    (B : Below A₀ base outer h₀) (F : Fr h₀ L s.heap m) (X₀ : K.In h₀) (N : News h₀ L s.heap news) (T : Top p loose mean mg mb h₀) (hA : A.frames = some (env :: outer)) (hf : env.frame = some L) (hke : env.scope.kind = .function)
    (ho : K.lookup f = some ⟨oc, od, .func (fnOf name qual params body scope dV kV doc pm an cdv ct), osl⟩) (hcd : codeIn K cdv qual = true) (hroom : A.depth < recursionLimit)
    (hbind : BindsTo s (fnOf name qual params body scope dV kV doc pm an cdv ct) args binds) (hloc : ∀ y ∈ binds, scope.names.lookup y.1 = some .local)
    (h : ∀ g L' h₁ tk, Kept s.heap g (news.map (·.1)) → (∀ b o, g.get? b = some o → s.heap.get? b = some o) → Fr h₀ L g m → Fr g L' h₁ (fun y => binds.reverse.lookup y) → News g L' h₁ news → Below A base (env :: outer) g → K.In g → Top p loose mean mg mb g → (∀ p ∈ news, p.1 < L') → s.heap.objs.size ≤ L' →
      wpAny (model prog w) (A.deeper (envOf qual scope L' f cdv)) (execs body (envOf qual scope L' f cdv))
        (fun fl s' => R (.ok (.ret (match fl with | .ret v => v | _ => .none))) s')
        (fun e s' => wpAny (model prog w) (A.deeper (envOf qual scope L' f cdv)) (leaving (envOf qual scope L' f cdv) e) (fun _ s'' => R (.error e) s'') (fun e' s'' => R (.error e') s'') s')
        { s with heap := h₁, toks := tk })
    (hco : scope.isCoroutine = false) (hgen : scope.isGenerator = false) (hk : scope.kind = .function)
    (hcell : ∀ x ∈ scope.names, x.2 ≠ .cell) : codeAny (model prog w) A (.call (.ref f) args) R s := by
  obtain ⟨FG, BG, st, _⟩ := groundX (R := R) B F N hA hf hke
  refine codeAny_call_def (fd := fnOf name qual params body scope dV kV doc pm an cdv ct) (body := body) (binds := binds) hroom ((X₀.keeps F.keep) _ _ ho) rfl (T.nolimit.keeps F.keep) (codeRec_of (X₀.keeps F.keep) hcd) rfl hbind hcell hloc (fun h₁ hns hk₁ => ?_) hco hgen hk
  exact wpAny_mono (h _ s.heap.objs.size h₁ _ (fun b o e n => hideAll_get _ e n) (fun b o e => of_hideAll _ e) FG ⟨hns, fun b o e => hk₁ b o (of_hideAll _ e), Nat.le_of_eq (hideAll_size _ _)⟩
    (fun p hp => ⟨hk₁ _ _ (N p hp).1, Nat.ne_of_lt (Heap.lt_size (N p hp).1), hideAll_none _ (List.mem_map_of_mem hp)⟩) BG (X₀.keeps st) (T.keeps st) (fun p hp => Heap.lt_size (N p hp).1) (Nat.le_refl _)) (fun fl s' hl => hl) fun _ _ y => y
end
end
section
theorem rT37_0 : True := by
  k_with_none
  k_with "ne" => (refine neN ?_; (try dsimp only); first | with_reducible assumption | exact Ne.symm (by with_reducible assumption) | exact off_ne (by with_reducible assumption) (by k_mem) | exact Ne.symm (off_ne (by with_reducible assumption) (by k_mem)) | exact off_i (by with_reducible assumption) (by k_mem) | exact off_c (by with_reducible assumption) (by k_mem) | exact off_d (by with_reducible assumption) (by k_mem) | exact Ne.symm (off_i (by with_reducible assumption) (by k_mem)) | exact Ne.symm (off_c (by with_reducible assumption) (by k_mem)) | exact Ne.symm (off_d (by with_reducible assumption) (by k_mem)) | exact Ne3.a (by with_reducible assumption) | exact Ne3.b (by with_reducible assumption) | exact Ne3.c (by with_reducible assumption) | exact Ne.symm (Ne3.a (by with_reducible assumption)) | exact Ne.symm (Ne3.b (by with_reducible assumption)) | exact Ne.symm (Ne3.c (by with_reducible assumption)) | exact NeA.ne (by with_reducible assumption) | exact Ne.symm (NeA.ne (by with_reducible assumption)) | exact Nat.ne_of_lt (by with_reducible assumption) | exact Nat.ne_of_gt (by with_reducible assumption) | exact Nat.ne_of_lt (And.left (by with_reducible assumption)) | exact Nat.ne_of_gt (And.left (by with_reducible assumption)) | exact Nat.ne_of_lt (And.left (And.right (by with_reducible assumption))) | exact Nat.ne_of_gt (And.left (And.right (by with_reducible assumption))) | exact Nat.ne_of_lt (And.right (by with_reducible assumption)) | exact Nat.ne_of_gt (And.right (by with_reducible assumption)) | exact Nat.ne_of_lt (And.right (And.right (by with_reducible assumption))) | exact Nat.ne_of_gt (And.right (And.right (by with_reducible assumption))) | exact Nat.ne_of_lt (And.left (And.right (And.right (by with_reducible assumption)))) | exact Nat.ne_of_gt (And.left (And.right (And.right (by with_reducible assumption)))))
  k_with "M enter" => (refine' enterM ?k1z9 ?k2z9 ?k3z9 ?k4z9 ?k5z9 ?kAz9 ?kFz9 ?kKz9 ?k6z9 ?k7z9 ?k8z9 ?k9z9 ?kBz9 ?_ ?c2z9 ?c3z9 ?c4z9 ?c5z9; (case kAz9 => exact rfl); (case kFz9 => exact rfl); (case kKz9 => assumption); (case k1z9 => k_asm); (case k2z9 => k_asm); (case k3z9 => k_asm); (case k4z9 => k_asm); (case k5z9 => k_asm); (case k6z9 => k_is); (case k7z9 => k_is); (case k8z9 => ktr_room); (case k9z9 => first | exact BindsTo.of_eq rfl | exact binds_K (by k_in) rfl (by k_is) rfl rfl rfl); (case c5z9 => decide); (case kBz9 => exact locs rfl); (case c2z9 => exact rfl); (case c3z9 => exact rfl); (case c4z9 => exact rfl); k_whole; intro g' L' h' tk' K' G' FG' F' N' B' X' T' l1 l2; (try k_lt l1); (try dsimp only); (try k_lift B'); (try k_fold))
  k_with "M enter0" => (refine' enterM ?k1z9 ?k2z9 ?k3z9 ?k4z9 ?k5z9 ?kAz9 ?kFz9 ?kKz9 ?k6z9 ?k7z9 ?k8z9 ?k9z9 ?kBz9 ?_ ?c2z9 ?c3z9 ?c4z9 ?c5z9; (case kAz9 => exact rfl); (case kFz9 => exact rfl); (case kKz9 => assumption); (case k1z9 => k_asm); (case k2z9 => k_asm); (case k3z9 => k_asm); (case k4z9 => k_asm); (case k5z9 => k_asm); (case k6z9 => k_is); (case k7z9 => k_is); (case k8z9 => ktr_room); (case k9z9 => first | exact BindsTo.of_eq rfl | exact binds_K (by k_in) rfl (by k_is) rfl rfl rfl); (case c5z9 => decide); (case kBz9 => exact locs rfl); (case c2z9 => exact rfl); (case c3z9 => exact rfl); (case c4z9 => exact rfl); k_whole)
  k_with "M ar" => (first | with_reducible assumption | decide | omega | (simp [List.getD]; done) | (simp [List.getD]; omega))
  k_with "M keep" => (rename Kept _ _ [] => K7; (have F' := Kept.fr (by k_asm) K7); (have N' := Kept.news (by k_asm) K7); clear K7; (try dsimp only); (try k_sweep))
  k_with "M enterC" => (refine' enterMC ?k1z9 ?k2z9 ?k3z9 ?k4z9 ?k5z9 ?kAz9 ?kFz9 ?kKz9 ?k6z9 ?k7z9 ?k8z9 ?k9z9 ?kBz9 ?kDz9 ?_ ?c2z9 ?c3z9 ?c4z9; (case kAz9 => exact rfl); (case kFz9 => exact rfl); (case kKz9 => assumption); (case k1z9 => k_asm); (case k2z9 => k_asm); (case k3z9 => k_asm); (case k4z9 => k_asm); (case k5z9 => k_asm); (case k6z9 => k_is); (case k7z9 => k_is); (case k8z9 => ktr_room); (case k9z9 => first | exact BindsTo.of_eq rfl | exact binds_K (by k_in) rfl (by k_is) rfl rfl rfl); (case kBz9 => exact rfl); (case kDz9 => decide +kernel); (case c2z9 => exact rfl); (case c3z9 => exact rfl); (case c4z9 => exact rfl); k_whole; intro g' L' h' tk' cells' K' G' FG' F' N' Y' B' X' T' l1 l2; (try k_lt l1); k_cells Y'; (try simp only [List.cons_append, List.nil_append] at N'); (try dsimp only); (try k_lift B'); (try k_fold))
  k_with "M enterC0" => (refine' enterMC ?k1z9 ?k2z9 ?k3z9 ?k4z9 ?k5z9 ?kAz9 ?kFz9 ?kKz9 ?k6z9 ?k7z9 ?k8z9 ?k9z9 ?kBz9 ?kDz9 ?_ ?c2z9 ?c3z9 ?c4z9; (case kAz9 => exact rfl); (case kFz9 => exact rfl); (case kKz9 => assumption); (case k1z9 => k_asm); (case k2z9 => k_asm); (case k3z9 => k_asm); (case k4z9 => k_asm); (case k5z9 => k_asm); (case k6z9 => k_is); (case k7z9 => k_is); (case k8z9 => ktr_room); (case k9z9 => first | exact BindsTo.of_eq rfl | exact binds_K (by k_in) rfl (by k_is) rfl rfl rfl); (case kBz9 => exact rfl); (case kDz9 => decide +kernel); (case c2z9 => exact rfl); (case c3z9 => exact rfl); (case c4z9 => exact rfl); k_whole)
  k_with "exec Raise some none" => (k_here; k_dflt (refine raise_own (by exact rfl) ?_); (try k_fold))
  k_with "M raise" => (k_dflt (refine' tf_use ?Bz9 ?Fz9 ?Xz9 ?Tz9 ?hAz9 ?hfz9 ?hkez9 ?hroomz9 ?huz9 ?hhz9 ?hSz9 ?_; (case hAz9 => exact rfl); (case hfz9 => exact rfl); (case hkez9 => first | exact rfl | assumption); (case Bz9 => k_asm); (case Fz9 => k_asm); (case Xz9 => k_asm); (case Tz9 => k_asm); (case hroomz9 => ktr_room); (case huz9 => ktr_units); (case hhz9 => exact rfl); (case hSz9 => first | decide | decide +kernel | walk_at "M ar")); intro e9 dx9 t9 k1 k2 h9 tk9 kp9 ne9 he9 hdx9 nd9 ht9 nt9; (try k_unfold); show RaisableM _ _ _ _; refine ⟨_, _, _, rfl, he9, Frag.In.keeps (Frag.In.keeps (by k_asm) (Fr.keep (by k_asm))) kp9, ?_⟩; (repeat k_unfold); (try dsimp only); (k_dflt (refine' leaveM_first ?Kz9 ?Fz9 ?hsz9 ?hLz9 kp9 ne9 he9 hdx9 nd9 ?_ ?hkz9; (case Kz9 => k_asm); (case Fz9 => k_asm); (case hsz9 => exact Kept.out (by assumption) (by assumption)); (case hLz9 => assumption); (case hkz9 => exact rfl))); intro h8 R8)
  k_with "M next" => ((repeat k_unfold); (try dsimp only); (rename RaisedM _ _ _ _ _ _ _ => R7); (k_dflt (refine' leaveM_next ?Kz9 ?Fz9 R7 ?hsz9 ?hLz9 ?hysz9 ?_ ?hkz9; (case Kz9 => k_asm); (case Fz9 => k_asm); (case hsz9 => exact Kept.out (by assumption) (by assumption)); (case hLz9 => assumption); (case hysz9 => first | exact (fun _ hb => absurd hb List.not_mem_nil) | (walk_at "M ys")); (case hkz9 => exact rfl))); clear R7; intro h8 R8)
  exact trivial
section
variable {w : World} {mean : ExcName → Option Value} {mg mb : Str → Option Value} {dp un : Nat} {gd : Option (List Code)} {cn : Str} {cs : Scope} {a : Addr} {ccd : Value} {cl : List (Str × Addr)} {A₀ : Around} {h₀ : Heap} {L : Addr} {m : Str → Option Value} {s : Shared} {Q E : Value → Shared → Prop}
   (B : Below A₀ h₀ [] h₀) (F : Fr h₀ L s.heap m) (X : (heapK w.params).In h₀) (T : Top prgV (looseW prgV [Str.ofString "ShapeError"]) mean mg mb h₀) (hk : cs.kind = .function)
include B F X T hk
theorem rT37_1 : True := by
  k_with "M enterR" => (refine' enterR ?k1z9 ?k2z9 ?k3z9 ?k4z9 ?k5z9 ?kAz9 ?kFz9 ?kKz9 ?k6z9 ?k7z9 ?k8z9 ?k9z9 ?kBz9 ?_ ?c2z9 ?c3z9 ?c4z9 ?c5z9; (case kAz9 => exact rfl); (case kFz9 => exact rfl); (case kKz9 => assumption); (case k1z9 => k_asm); (case k2z9 => k_asm); (case k3z9 => k_asm); (case k4z9 => k_asm); (case k5z9 => k_asm); (case k6z9 => k_is); (case k7z9 => k_is); (case k8z9 => ktr_room); (case k9z9 => first | exact BindsTo.of_eq rfl | exact binds_K (by k_in) rfl (by k_is) rfl rfl rfl); (case c5z9 => decide); (case kBz9 => exact locs rfl); (case c2z9 => exact rfl); (case c3z9 => exact rfl); (case c4z9 => exact rfl); k_whole)
  exact trivial
set_option maxRecDepth 100000 in
set_option maxHeartbeats 8000000 in
theorem heard_spec {b : Array UInt8} {ks : List Int} {t1 t2 : Tok} {at' : Int}
   (hd : dp + 70 < recursionLimit) (hu : un + 700 < cLine)
   (hb : KBw.bInts b = ks) (hby : ∀ k ∈ ks, 0 ≤ k ∧ k < 256) (hfit : ks.length ≤ 100000) (h0 : 0 ≤ at')
   (hret1 : ∀ n, ReadFault ks at' n → ∀ t h' tk', (∀ b o, s.heap.get? b = some o → b ≠ L → h'.get? b = some o) → (∀ o, s.heap.get? L = some o → ∃ sl, h'.get? L = some { o with slots := sl }) → Q (.int (n - at') t) { s with heap := h', toks := tk' })
   (hret2 : HeadOk ks at' → SegOk (esOf ks at') (ssOf ks at') (esOf ks at').length → prevE (esOf ks at') (esOf ks at').length = 65535 → ∀ D o kvs h' tk', Kept s.heap h' [] → h'.get? D = some o → s.heap.get? D = none → (D == sysModules) = false → o.IsDictOf (PySem.intKind Challenge.rw_nu0154_01.row.prog w) kvs → PyProof.V.FlatPairs PyData.int kvs (kdfD (codesOf ks at')) → Q (.ref D) { s with heap := h', toks := tk' }) :
   wpAny (model Challenge.rw_nu0154_01.row.prog w) (ktrTop dp un gd cn cs L a ccd cl []) (call (.ref 266) [.bytes b t1, .int at' t2]) Q E s := by
  have N : News h₀ L s.heap [] := News.nil
  revert X; k_fill; intro X
  refine wpAny_call ?_
  k_dflt (walk_at "M enterR")
  intro g1 L1 hh1 tk1 K1 G1 FG1 F1 N1 B1 X1 T1 l1 l2
  replace F1 : Fr g1 L1 hh1 (fun y => List.lookup y [(Str.ofString "at", .int at' t2), (Str.ofString "data", .bytes b t1)]) := F1
  clear l1
  dsimp only
  k_lift B1
  try k_fold
  k_steps
  k_dflt (refine' read_spec ?B F1 X1 T1 ?hk ?hd ?hu hb hby hfit h0 ?_ ?_)
  case B => k_asm
  case hk => exact rfl
  case hd => ktr_room
  case hu => ktr_units
  · intro hk0 z1 z2 D o kvs h' tk' K7 e7 n7 sy7 a7 b7
    refine hret2 hk0 z1 z2 _ _ _ _ _ (Kept.out K1 (Kept.fr F1 K7)) e7 ?_ sy7 a7 b7
    cases q : s.heap.get? D with
    | none => rfl
    | some ob => rw [F1.keep _ _ (K1 _ _ q List.not_mem_nil)] at n7; cases n7
  · intro n hn e h' tk' R7
    refine caught_M (nm := Str.ofString "fault") (x := Str.ofString "TableFault") R7 F1 B1 X T (by kernel_rfl) (by kernel_rfl) ?_ rfl rfl rfl (by decide)
    intro h2 g' dx oe k1 k2 S ts ti tk T6 F6 N6 hc hod hv hdx K6 X6 P6
    k_lift K6
    try k_fold
    k_steps
    k_dflt (refine get_at F6 X6 (N6 _ (.head _)).1 hc hod hv hdx ?_)
    k_steps
    rename Fr g' L1 _ _ => F9
    refine hret1 n hn _ _ _ (fun b o eb nb => F9.keep _ _ (T6.other b o (K1 b o eb List.not_mem_nil) (fun hm => nb (List.mem_singleton.mp hm)))) (fun o eo => ?_)
    obtain ⟨sl, hsl⟩ := T6.up (K1 _ _ eo List.not_mem_nil)
    exact ⟨sl, F9.keep _ _ hsl⟩
theorem heard_use {b : Array UInt8} {ks : List Int} {t1 t2 : Tok} {at' : Int} {news : List (Addr × Obj)}
   (N : News h₀ L s.heap news)
   (hd : dp + 70 < recursionLimit) (hu : un + 700 < cLine)
   (hb : KBw.bInts b = ks) (hby : ∀ k ∈ ks, 0 ≤ k ∧ k < 256) (hfit : ks.length ≤ 100000) (h0 : 0 ≤ at')
   (hret1 : ∀ n, ReadFault ks at' n → ∀ t h' tk', Fr h₀ L h' m → News h₀ L h' news → Q (.int (n - at') t) { s with heap := h', toks := tk' })
   (hret2 : HeadOk ks at' → SegOk (esOf ks at') (ssOf ks at') (esOf ks at').length → prevE (esOf ks at') (esOf ks at').length = 65535 → ∀ D o kvs h' tk', Fr h₀ L h' m → News h₀ L h' ((D, o) :: news) → LCg.Off1 D news → (D == sysModules) = false → o.IsDictOf (PySem.intKind Challenge.rw_nu0154_01.row.prog w) kvs → PyProof.V.FlatPairs PyData.int kvs (kdfD (codesOf ks at')) → Q (.ref D) { s with heap := h', toks := tk' }) :
   wpAny (model Challenge.rw_nu0154_01.row.prog w) (ktrTop dp un gd cn cs L a ccd cl []) (call (.ref 266) [.bytes b t1, .int at' t2]) Q E s := by
  refine heard_spec B F X T hk hd hu hb hby hfit h0 (fun n hn t h' tk' kp kl => ?_) (fun hk0 z1 z2 D o kvs h' tk' kp eD nD sy7 a7 b7 => ?_)
  · obtain ⟨oL, es, ep, hL, hdt, hr⟩ := F.ns
    obtain ⟨sl, hsl⟩ := kl oL hL
    have nL := kts_self F
    exact hret1 n hn t h' tk' ⟨⟨_, es, ep, hsl, hdt, hr⟩, fun b o e => kp b o (F.keep b o e) (fun q => by rw [q, nL] at e; cases e), F.above⟩ (fun p hp => ⟨kp _ _ (N p hp).1 (N p hp).2.1, (N p hp).2⟩)
  · exact hret2 hk0 z1 z2 D o kvs h' tk' (Kept.fr F kp) (News.cons_new F (Kept.news N kp) eD nD) (News.all_ne N nD) sy7 a7 b7
end
end
section
theorem rT31_0 : True := by
  k_with_none
  k_with "ne" => (refine neN ?_; (try dsimp only); first | with_reducible assumption | exact Ne.symm (by with_reducible assumption) | exact off_ne (by with_reducible assumption) (by k_mem) | exact Ne.symm (off_ne (by with_reducible assumption) (by k_mem)) | exact off_i (by with_reducible assumption) (by k_mem) | exact off_c (by with_reducible assumption) (by k_mem) | exact off_d (by with_reducible assumption) (by k_mem) | exact Ne.symm (off_i (by with_reducible assumption) (by k_mem)) | exact Ne.symm (off_c (by with_reducible assumption) (by k_mem)) | exact Ne.symm (off_d (by with_reducible assumption) (by k_mem)) | exact Ne3.a (by with_reducible assumption) | exact Ne3.b (by with_reducible assumption) | exact Ne3.c (by with_reducible assumption) | exact Ne.symm (Ne3.a (by with_reducible assumption)) | exact Ne.symm (Ne3.b (by with_reducible assumption)) | exact Ne.symm (Ne3.c (by with_reducible assumption)) | exact NeA.ne (by with_reducible assumption) | exact Ne.symm (NeA.ne (by with_reducible assumption)) | exact Nat.ne_of_lt (by with_reducible assumption) | exact Nat.ne_of_gt (by with_reducible assumption) | exact Nat.ne_of_lt (And.left (by with_reducible assumption)) | exact Nat.ne_of_gt (And.left (by with_reducible assumption)) | exact Nat.ne_of_lt (And.left (And.right (by with_reducible assumption))) | exact Nat.ne_of_gt (And.left (And.right (by with_reducible assumption))) | exact Nat.ne_of_lt (And.right (by with_reducible assumption)) | exact Nat.ne_of_gt (And.right (by with_reducible assumption)) | exact Nat.ne_of_lt (And.right (And.right (by with_reducible assumption))) | exact Nat.ne_of_gt (And.right (And.right (by with_reducible assumption))) | exact Nat.ne_of_lt (And.left (And.right (And.right (by with_reducible assumption)))) | exact Nat.ne_of_gt (And.left (And.right (And.right (by with_reducible assumption)))))
  k_with "M enter" => (refine' enterM ?k1z9 ?k2z9 ?k3z9 ?k4z9 ?k5z9 ?kAz9 ?kFz9 ?kKz9 ?k6z9 ?k7z9 ?k8z9 ?k9z9 ?kBz9 ?_ ?c2z9 ?c3z9 ?c4z9 ?c5z9; (case kAz9 => exact rfl); (case kFz9 => exact rfl); (case kKz9 => assumption); (case k1z9 => k_asm); (case k2z9 => k_asm); (case k3z9 => k_asm); (case k4z9 => k_asm); (case k5z9 => k_asm); (case k6z9 => k_is); (case k7z9 => k_is); (case k8z9 => ktr_room); (case k9z9 => first | exact BindsTo.of_eq rfl | exact binds_K (by k_in) rfl (by k_is) rfl rfl rfl); (case c5z9 => decide); (case kBz9 => exact locs rfl); (case c2z9 => exact rfl); (case c3z9 => exact rfl); (case c4z9 => exact rfl); k_whole; intro g' L' h' tk' K' G' FG' F' N' B' X' T' l1 l2; (try k_lt l1); (try dsimp only); (try k_lift B'); (try k_fold))
  k_with "M enter0" => (refine' enterM ?k1z9 ?k2z9 ?k3z9 ?k4z9 ?k5z9 ?kAz9 ?kFz9 ?kKz9 ?k6z9 ?k7z9 ?k8z9 ?k9z9 ?kBz9 ?_ ?c2z9 ?c3z9 ?c4z9 ?c5z9; (case kAz9 => exact rfl); (case kFz9 => exact rfl); (case kKz9 => assumption); (case k1z9 => k_asm); (case k2z9 => k_asm); (case k3z9 => k_asm); (case k4z9 => k_asm); (case k5z9 => k_asm); (case k6z9 => k_is); (case k7z9 => k_is); (case k8z9 => ktr_room); (case k9z9 => first | exact BindsTo.of_eq rfl | exact binds_K (by k_in) rfl (by k_is) rfl rfl rfl); (case c5z9 => decide); (case kBz9 => exact locs rfl); (case c2z9 => exact rfl); (case c3z9 => exact rfl); (case c4z9 => exact rfl); k_whole)
  k_with "M ar" => (first | with_reducible assumption | decide | omega | (simp [List.getD]; done) | (simp [List.getD]; omega))
  k_with "M keep" => (rename Kept _ _ [] => K7; (have F' := Kept.fr (by k_asm) K7); (have N' := Kept.news (by k_asm) K7); clear K7; (try dsimp only); (try k_sweep))
  k_with "M enterC" => (refine' enterMC ?k1z9 ?k2z9 ?k3z9 ?k4z9 ?k5z9 ?kAz9 ?kFz9 ?kKz9 ?k6z9 ?k7z9 ?k8z9 ?k9z9 ?kBz9 ?kDz9 ?_ ?c2z9 ?c3z9 ?c4z9; (case kAz9 => exact rfl); (case kFz9 => exact rfl); (case kKz9 => assumption); (case k1z9 => k_asm); (case k2z9 => k_asm); (case k3z9 => k_asm); (case k4z9 => k_asm); (case k5z9 => k_asm); (case k6z9 => k_is); (case k7z9 => k_is); (case k8z9 => ktr_room); (case k9z9 => first | exact BindsTo.of_eq rfl | exact binds_K (by k_in) rfl (by k_is) rfl rfl rfl); (case kBz9 => exact rfl); (case kDz9 => decide +kernel); (case c2z9 => exact rfl); (case c3z9 => exact rfl); (case c4z9 => exact rfl); k_whole; intro g' L' h' tk' cells' K' G' FG' F' N' Y' B' X' T' l1 l2; (try k_lt l1); k_cells Y'; (try simp only [List.cons_append, List.nil_append] at N'); (try dsimp only); (try k_lift B'); (try k_fold))
  k_with "M enterC0" => (refine' enterMC ?k1z9 ?k2z9 ?k3z9 ?k4z9 ?k5z9 ?kAz9 ?kFz9 ?kKz9 ?k6z9 ?k7z9 ?k8z9 ?k9z9 ?kBz9 ?kDz9 ?_ ?c2z9 ?c3z9 ?c4z9; (case kAz9 => exact rfl); (case kFz9 => exact rfl); (case kKz9 => assumption); (case k1z9 => k_asm); (case k2z9 => k_asm); (case k3z9 => k_asm); (case k4z9 => k_asm); (case k5z9 => k_asm); (case k6z9 => k_is); (case k7z9 => k_is); (case k8z9 => ktr_room); (case k9z9 => first | exact BindsTo.of_eq rfl | exact binds_K (by k_in) rfl (by k_is) rfl rfl rfl); (case kBz9 => exact rfl); (case kDz9 => decide +kernel); (case c2z9 => exact rfl); (case c3z9 => exact rfl); (case c4z9 => exact rfl); k_whole)
  exact trivial
/-- the law's own filling of its dict: G i code is the glyph -/
def gSeg (G : Int → Int → Int) (i : Int) (c : List (Int × Int)) (codes : List Int) : List (Int × Int) := codes.foldl (fun c code => kdfPut c code (G i code)) c
def gAll (G : Int → Int → Int) (es ss : List Int) (is : List Int) : List (Int × Int) := is.foldl (fun c i => gSeg G i c (segCodes es ss i)) []
def GOut (G : Int → Int → Int) (es ss : List Int) (pre : List Int) (c : List (Int × Int)) : Prop := c = gAll G es ss pre ∧ (c.length : Int) ≤ prevE es pre.length + 1
def GIn (G : Int → Int → Int) (es ss : List Int) (prei : List Int) (i : Int) (pre : List Int) (c : List (Int × Int)) : Prop := c = gSeg G i (gAll G es ss prei) pre ∧ (c.length : Int) ≤ ss.getD i.toNat 0 + pre.length
section
variable {G : Int → Int → Int} {es ss : List Int}
theorem gOut_nil : GOut G es ss [] [] := ⟨rfl, by simp [prevE]⟩
theorem gIn_nil {i : Int} {pre : List Int} {c : List (Int × Int)} (h : GOut G es ss pre c) (e : i = 0 + (pre.length : Int)) (hs : SegOk es ss es.length) (hl : pre.length < es.length) : GIn G es ss pre i [] c := by
  have en : i.toNat = pre.length := by omega
  have := (hs pre.length hl).1
  refine ⟨h.1, ?_⟩
  have h2 := h.2
  rw [en]
  simp only [List.length_nil]
  omega
theorem gIn_snoc {i k g : Int} {prei pre : List Int} {c : List (Int × Int)} (h : GIn G es ss prei i pre c) (hg : g = G i k) : GIn G es ss prei i (pre ++ [k]) (kdfPut c k g) := by
  subst hg
  refine ⟨?_, ?_⟩
  · rw [h.1]; unfold gSeg; rw [List.foldl_append]; rfl
  · have h2 := h.2
    have := kdfPut_len c k (G i k)
    rw [List.length_append, List.length_singleton]
    omega
theorem gOut_snoc {i : Int} {pre : List Int} {c : List (Int × Int)} (h : GIn G es ss pre i (segCodes es ss i) c) (e : i = 0 + (pre.length : Int)) (hs : SegOk es ss es.length) (hl : pre.length < es.length) : GOut G es ss (pre ++ [i]) c := by
  have en : i.toNat = pre.length := by omega
  have := (hs pre.length hl).2
  refine ⟨?_, ?_⟩
  · rw [h.1]; unfold gAll; rw [List.foldl_append]; rfl
  · have h2 := h.2
    rw [List.length_append, List.length_singleton, prevE_succ]
    unfold segCodes at h2
    rw [rangeKs_length, en] at h2
    omega
theorem gIn_room {i : Int} {prei pre : List Int} {c : List (Int × Int)} (h : GIn G es ss prei i pre c) (h1 : ss.getD i.toNat 0 < 65536) (h2 : pre.length < (es.getD i.toNat 0 + 1 - ss.getD i.toNat 0).toNat) (h3 : es.getD i.toNat 0 < 65536) : c.length ≤ 8000000 := by
  have := h.2
  omega
end
theorem gOut_room {G : Int → Int → Int} {es ss pre : List Int} {c : List (Int × Int)} (h : GOut G es ss pre c) (hes : ∀ i, 0 ≤ es.getD i 0 ∧ es.getD i 0 < 65536) : c.length ≤ 70000 := by
  have h2 := h.2
  unfold prevE at h2
  have := hes (pre.length - 1)
  split at h2 <;> omega
/-- the glyph as the law reads it -/
def lawG (ks : List Int) (ss : List Int) (cnt i code : Int) : Int :=
  if n2 ks (16 + 6 * cnt + 2 * i) ≠ 0 then
    (if (if 16 + 6 * cnt + 2 * i + n2 ks (16 + 6 * cnt + 2 * i) + 2 * (code - ss.getD i.toNat 0) + 2 ≤ n2 ks 2 then n2 ks (16 + 6 * cnt + 2 * i + n2 ks (16 + 6 * cnt + 2 * i) + 2 * (code - ss.getD i.toNat 0)) else 0) = 0 then 0
     else ((if 16 + 6 * cnt + 2 * i + n2 ks (16 + 6 * cnt + 2 * i) + 2 * (code - ss.getD i.toNat 0) + 2 ≤ n2 ks 2 then n2 ks (16 + 6 * cnt + 2 * i + n2 ks (16 + 6 * cnt + 2 * i) + 2 * (code - ss.getD i.toNat 0)) else 0) + n2 ks (16 + 4 * cnt + 2 * i)).fmod 65536)
  else (code + n2 ks (16 + 4 * cnt + 2 * i)).fmod 65536
section
variable {ks ss : List Int} {cnt i k : Int}
theorem lawG_a (h : n2 ks (16 + 6 * cnt + 2 * i) = 0) : (k + n2 ks (16 + 4 * cnt + 2 * i)).fmod 65536 = lawG ks ss cnt i k := by unfold lawG; rw [if_neg (by omega)]
theorem lawG_b (h : n2 ks (16 + 6 * cnt + 2 * i) ≠ 0) (h1 : ¬ 16 + 6 * cnt + 2 * i + n2 ks (16 + 6 * cnt + 2 * i) + 2 * (k - ss.getD i.toNat 0) + 2 ≤ n2 ks 2) : 0 = lawG ks ss cnt i k := by unfold lawG; rw [if_pos h, if_neg h1, if_pos rfl]
theorem lawG_c (h : n2 ks (16 + 6 * cnt + 2 * i) ≠ 0) (h1 : 16 + 6 * cnt + 2 * i + n2 ks (16 + 6 * cnt + 2 * i) + 2 * (k - ss.getD i.toNat 0) + 2 ≤ n2 ks 2) (h2 : n2 ks (16 + 6 * cnt + 2 * i + n2 ks (16 + 6 * cnt + 2 * i) + 2 * (k - ss.getD i.toNat 0)) = 0) : 0 = lawG ks ss cnt i k := by
  unfold lawG; rw [if_pos h, if_pos h1, if_pos h2]
theorem lawG_d (h : n2 ks (16 + 6 * cnt + 2 * i) ≠ 0) (h1 : 16 + 6 * cnt + 2 * i + n2 ks (16 + 6 * cnt + 2 * i) + 2 * (k - ss.getD i.toNat 0) + 2 ≤ n2 ks 2) (h2 : ¬ n2 ks (16 + 6 * cnt + 2 * i + n2 ks (16 + 6 * cnt + 2 * i) + 2 * (k - ss.getD i.toNat 0)) = 0) : (n2 ks (16 + 6 * cnt + 2 * i + n2 ks (16 + 6 * cnt + 2 * i) + 2 * (k - ss.getD i.toNat 0)) + n2 ks (16 + 4 * cnt + 2 * i)).fmod 65536 = lawG ks ss cnt i k := by
  unfold lawG; rw [if_pos h, if_pos h1, if_neg h2]
end
end
section
theorem rT32_0 : True := by
  k_with_none
  k_with "ne" => (refine neN ?_; (try dsimp only); first | with_reducible assumption | exact Ne.symm (by with_reducible assumption) | exact off_ne (by with_reducible assumption) (by k_mem) | exact Ne.symm (off_ne (by with_reducible assumption) (by k_mem)) | exact off_i (by with_reducible assumption) (by k_mem) | exact off_c (by with_reducible assumption) (by k_mem) | exact off_d (by with_reducible assumption) (by k_mem) | exact Ne.symm (off_i (by with_reducible assumption) (by k_mem)) | exact Ne.symm (off_c (by with_reducible assumption) (by k_mem)) | exact Ne.symm (off_d (by with_reducible assumption) (by k_mem)) | exact Ne3.a (by with_reducible assumption) | exact Ne3.b (by with_reducible assumption) | exact Ne3.c (by with_reducible assumption) | exact Ne.symm (Ne3.a (by with_reducible assumption)) | exact Ne.symm (Ne3.b (by with_reducible assumption)) | exact Ne.symm (Ne3.c (by with_reducible assumption)) | exact NeA.ne (by with_reducible assumption) | exact Ne.symm (NeA.ne (by with_reducible assumption)) | exact Nat.ne_of_lt (by with_reducible assumption) | exact Nat.ne_of_gt (by with_reducible assumption) | exact Nat.ne_of_lt (And.left (by with_reducible assumption)) | exact Nat.ne_of_gt (And.left (by with_reducible assumption)) | exact Nat.ne_of_lt (And.left (And.right (by with_reducible assumption))) | exact Nat.ne_of_gt (And.left (And.right (by with_reducible assumption))) | exact Nat.ne_of_lt (And.right (by with_reducible assumption)) | exact Nat.ne_of_gt (And.right (by with_reducible assumption)) | exact Nat.ne_of_lt (And.right (And.right (by with_reducible assumption))) | exact Nat.ne_of_gt (And.right (And.right (by with_reducible assumption))) | exact Nat.ne_of_lt (And.left (And.right (And.right (by with_reducible assumption)))) | exact Nat.ne_of_gt (And.left (And.right (And.right (by with_reducible assumption)))))
  k_with "M enter" => (refine' enterM ?k1z9 ?k2z9 ?k3z9 ?k4z9 ?k5z9 ?kAz9 ?kFz9 ?kKz9 ?k6z9 ?k7z9 ?k8z9 ?k9z9 ?kBz9 ?_ ?c2z9 ?c3z9 ?c4z9 ?c5z9; (case kAz9 => exact rfl); (case kFz9 => exact rfl); (case kKz9 => assumption); (case k1z9 => k_asm); (case k2z9 => k_asm); (case k3z9 => k_asm); (case k4z9 => k_asm); (case k5z9 => k_asm); (case k6z9 => k_is); (case k7z9 => k_is); (case k8z9 => ktr_room); (case k9z9 => first | exact BindsTo.of_eq rfl | exact binds_K (by k_in) rfl (by k_is) rfl rfl rfl); (case c5z9 => decide); (case kBz9 => exact locs rfl); (case c2z9 => exact rfl); (case c3z9 => exact rfl); (case c4z9 => exact rfl); k_whole; intro g' L' h' tk' K' G' FG' F' N' B' X' T' l1 l2; (try k_lt l1); (try dsimp only); (try k_lift B'); (try k_fold))
  k_with "M enter0" => (refine' enterM ?k1z9 ?k2z9 ?k3z9 ?k4z9 ?k5z9 ?kAz9 ?kFz9 ?kKz9 ?k6z9 ?k7z9 ?k8z9 ?k9z9 ?kBz9 ?_ ?c2z9 ?c3z9 ?c4z9 ?c5z9; (case kAz9 => exact rfl); (case kFz9 => exact rfl); (case kKz9 => assumption); (case k1z9 => k_asm); (case k2z9 => k_asm); (case k3z9 => k_asm); (case k4z9 => k_asm); (case k5z9 => k_asm); (case k6z9 => k_is); (case k7z9 => k_is); (case k8z9 => ktr_room); (case k9z9 => first | exact BindsTo.of_eq rfl | exact binds_K (by k_in) rfl (by k_is) rfl rfl rfl); (case c5z9 => decide); (case kBz9 => exact locs rfl); (case c2z9 => exact rfl); (case c3z9 => exact rfl); (case c4z9 => exact rfl); k_whole)
  k_with "M ar" => (first | with_reducible assumption | decide | omega | (simp [List.getD]; done) | (simp [List.getD]; omega))
  k_with "M keep" => (rename Kept _ _ [] => K7; (have F' := Kept.fr (by k_asm) K7); (have N' := Kept.news (by k_asm) K7); clear K7; (try dsimp only); (try k_sweep))
  k_with "M enterC" => (refine' enterMC ?k1z9 ?k2z9 ?k3z9 ?k4z9 ?k5z9 ?kAz9 ?kFz9 ?kKz9 ?k6z9 ?k7z9 ?k8z9 ?k9z9 ?kBz9 ?kDz9 ?_ ?c2z9 ?c3z9 ?c4z9; (case kAz9 => exact rfl); (case kFz9 => exact rfl); (case kKz9 => assumption); (case k1z9 => k_asm); (case k2z9 => k_asm); (case k3z9 => k_asm); (case k4z9 => k_asm); (case k5z9 => k_asm); (case k6z9 => k_is); (case k7z9 => k_is); (case k8z9 => ktr_room); (case k9z9 => first | exact BindsTo.of_eq rfl | exact binds_K (by k_in) rfl (by k_is) rfl rfl rfl); (case kBz9 => exact rfl); (case kDz9 => decide +kernel); (case c2z9 => exact rfl); (case c3z9 => exact rfl); (case c4z9 => exact rfl); k_whole; intro g' L' h' tk' cells' K' G' FG' F' N' Y' B' X' T' l1 l2; (try k_lt l1); k_cells Y'; (try simp only [List.cons_append, List.nil_append] at N'); (try dsimp only); (try k_lift B'); (try k_fold))
  k_with "M enterC0" => (refine' enterMC ?k1z9 ?k2z9 ?k3z9 ?k4z9 ?k5z9 ?kAz9 ?kFz9 ?kKz9 ?k6z9 ?k7z9 ?k8z9 ?k9z9 ?kBz9 ?kDz9 ?_ ?c2z9 ?c3z9 ?c4z9; (case kAz9 => exact rfl); (case kFz9 => exact rfl); (case kKz9 => assumption); (case k1z9 => k_asm); (case k2z9 => k_asm); (case k3z9 => k_asm); (case k4z9 => k_asm); (case k5z9 => k_asm); (case k6z9 => k_is); (case k7z9 => k_is); (case k8z9 => ktr_room); (case k9z9 => first | exact BindsTo.of_eq rfl | exact binds_K (by k_in) rfl (by k_is) rfl rfl rfl); (case kBz9 => exact rfl); (case kDz9 => decide +kernel); (case c2z9 => exact rfl); (case c3z9 => exact rfl); (case c4z9 => exact rfl); k_whole)
  exact trivial
section
variable {prog : Program} {w : World} {A : Around} {E : Value → Shared → Prop} {s : Shared}
set_option maxRecDepth 20000 in
/-- a list has no attribute keys -/
theorem keysQ_list {a : Addr} {ys : List Value} {Q : Option Value → Shared → Prop} (hx : s.heap.get? a = some (LCg.lst ys)) (hA : A.handled = none)
    (h : ∀ h' tk, (∀ b o, s.heap.get? b = some o → h'.get? b = some o) → Q none { s with heap := h', toks := tk }) :
    wpAny (model prog w) A (getAttr? (.ref a) "keys") Q E s := by
  obtain ⟨hp, g, d, tk, os⟩ := s
  have hT : ∀ tk', (⟨hp, g, d, tk', os⟩ : Shared).TypeIs (.ref a) "list" := fun _ => ⟨_, hx, rfl⟩
  have f1 := sub_AttributeError
  have f3 := F.slot_list_getattribute.lookup
  have f4 := F.slot_list_getattribute.bind (.ref a)
  have f5 := am_list_getattr_none
  have hmiss : typeLookup (.type "list") "keys" = pure none := am_miss_of_fast (by decide +kernel)
  unfold getAttr? getAttrBy? getAttrBy
  repeat (any_goals (first | assumption | exact hT _ | ((with_reducible show wpAny _ _ (call (Value.builtin "list.__getattribute__") _ _) _ _ _); refine call_meets F.slot_list_getattribute (hT _) am_entry_list_getattribute (F.args_list_getattribute_2 _ _) (meets_getattribute_miss_list a _ _ _ "keys" _ hmiss (by decide +kernel)) ⟨hx, hA, fun h' tk' e hx' => ?_⟩) | wp_step))
  obtain ⟨t', u', he⟩ := hx'.there
  show wpAny _ _ (getattributeRaised _ _ _ _ _ _ _) _ _ _
  unfold getattributeRaised
  repeat (any_goals (first | assumption | wp_step))
  exact h _ _ hx'.keeps
end
/-- a pair of ints as an object of the heap -/
def TupAt (h : Heap) (bad : List Addr) (v : Value) (p : Int × Int) : Prop := ∃ T tk tv, v = .ref T ∧ T ∉ bad ∧ h.IsTuple T #[.int p.1 tk, .int p.2 tv]
def putAll (c ps : List (Int × Int)) : List (Int × Int) := ps.foldl (fun c p => kdfPut c p.1 p.2) c
theorem entry_dict_update_loop : entryFor table "dict.update.loop" = some Builtin.«dict.update.loop» := entryFor_of_tree (by kernel_rfl)
theorem plain_dict_update_loop : plainId "dict.update.loop" = true := by decide +kernel
section
variable {prog : Program} {w : World} {A : Around} {R : Result → Shared → Prop} {I : Addr} {fp : List Addr} {n : Nat} {P : Nat → Value → Prop} {St : Nat → Heap → Prop}
theorem dict_loop (W : Walks prog w A.in1 I fp [I] n P St) (S : Addr) (hSf : S ∉ fp) {vs : List Value} {ps : List (Int × Int)} (hP : ∀ i v, P i v → vs[i]? = some v) (hn : ps.length = n) (hSI : S ≠ I) :
    ∀ (k i : Nat) (s : Shared) (r0 : Int) (rt : Tok) (c : List (Int × Int)) (kvs : List (Int × Value)), n - i = k → i ≤ n → St i s.heap → c.length + k ≤ 16777216 →
      (∀ (j : Nat) v p, vs[j]? = some v → ps[j]? = some p → TupAt s.heap [S, I] v p) →
      s.heap.DictOf (PySem.intKind prog w) S kvs → PyProof.V.FlatPairs PyData.int kvs (kdfD c) →
      (∀ h' tk kvs', (∀ b o, b ∉ [S, I] → s.heap.get? b = some o → h'.get? b = some o) → h'.DictOf (PySem.intKind prog w) S kvs' → PyProof.V.FlatPairs PyData.int kvs' (kdfD (putAll c (ps.drop i))) → R (.ok (.ret .none)) { s with heap := h', toks := tk }) →
      codeAny (model prog w) A (.builtin "dict.update.loop" ⟨[.ref S, .ref I, .int r0 rt, .none], []⟩) R s := by
  intro k
  induction k with
  | zero =>
    intro i s r0 rt c kvs hk hi hst hc hT hS hf hR
    have hin : i = n := by omega
    subst hin
    refine codeAny_builtin entry_dict_update_loop ?_
    rw [Around.under_plainId plain_dict_update_loop _]
    show wpAny _ A.in1 (pyNext (.ref I) >>= _) _ _ s
    refine wpAny_bind (W.done s _ _ hst fun h' tk hm => ?_)
    show wpAny _ A.in1 (pure () >>= fun _ => ret Value.none) _ _ _
    refine wpAny_bind (wpAny_pure (wpAny_pure (hR h' tk kvs (fun b o hb e => hm b o (fun q => hb (List.mem_cons_of_mem _ q)) e) ?_ ?_)))
    · obtain ⟨o, es, ep, ho, rest⟩ := hS
      exact ⟨o, es, ep, hm S _ (by simpa using hSI) ho, rest⟩
    · rw [List.drop_eq_nil_of_le (by omega)]; exact hf
  | succ k ih =>
    intro i s r0 rt c kvs hk hi hst hc hT hS hf hR
    have hlt : i < n := by omega
    refine codeAny_builtin entry_dict_update_loop ?_
    rw [Around.under_plainId plain_dict_update_loop _]
    show wpAny _ A.in1 (pyNext (.ref I) >>= _) _ _ s
    refine wpAny_bind (W.item i s _ _ hlt hst fun v h' tk hPv hst' hm => ?_)
    obtain ⟨p, hp⟩ : ∃ p, ps[i]? = some p := ⟨ps[i]'(by omega), by simp⟩
    obtain ⟨T, tk1, tv1, rfl, hTb, oT, hoT, hcT, nT, hdT⟩ := hT i v p (hP i v hPv) hp
    have hTI : T ∉ [I] := fun q => hTb (List.mem_cons_of_mem _ q)
    have hoT' := hm T oT hTI hoT
    have hS' : h'.DictOf (PySem.intKind prog w) S kvs := by
      obtain ⟨o, es, ep, ho, rest⟩ := hS
      exact ⟨o, es, ep, hm S _ (by simpa using hSI) ho, rest⟩
    have hTy : ({ s with heap := h', toks := tk } : Shared).TypeIs (.ref T) "tuple" := ⟨oT, hoT', hcT⟩
    show wpAny _ A.in1 (holding [Value.ref T] _ >>= _) _ _ _
    refine wpAny_bind (wpAny_holding (wpAny_bind (wpAny_tryCatch ?_)))
    unfold Builtin.Dict.pairItems
    refine wpAny_bind (wpAny_typeOf hTy ?_)
    show wpAny _ A.in1 (seqItems? (.ref T) >>= _) _ _ _
    refine wpAny_bind ?_
    unfold seqItems?
    refine wpAny_bind (wpAny_load hoT' ?_)
    rw [hdT]
    refine wpAny_pure (wpAny_pure ?_)
    show wpAny _ A.in1 (holding [Value.int p.1 tk1, Value.int p.2 tv1] (dictSet S (.int p.1 tk1) (.int p.2 tv1))) _ _ _
    refine wpAny_holding (wpAny_dictSet_pairs (knd := PySem.intKind prog w) (k := p.1) (intKind_is _ _ _ _) hS' (fun h2 hd2 hsb => ?_) (by rw [← hf.length, kdfD_length, sizeLine_eq]; omega))
    refine wpAny_pure ⟨plainId_quiet plain_dict_update_loop _, ?_⟩
    have keep2 : ∀ b o, b ∉ [S, I] → s.heap.get? b = some o → h2.get? b = some o := fun b o hb e => by
      rw [hsb.2 b (fun q => hb (by rw [q]; exact .head _))]
      exact hm b o (fun q => hb (List.mem_cons_of_mem _ q)) e
    refine ih (i + 1) _ _ _ (kdfPut c p.1 p.2) _ (by omega) hlt (W.frame _ h' _ hst' fun b hb o e => ?_) (by have := kdfPut_len c p.1 p.2; omega) (fun j v q hv hq => ?_) hd2 (by rw [← kdfD_put]; exact hf.stored PyProof.V.same_int _ (PyProof.V.Flat.int _ _)) fun h3 tk3 kvs3 k3 d3 f3 => ?_
    · rw [hsb.2 b (fun q => hSf (by rw [← q]; exact hb))]; exact e
    · obtain ⟨T', a1, a2, rfl, hb', o', ho', r'⟩ := hT j v q hv hq
      exact ⟨T', a1, a2, rfl, hb', o', keep2 _ _ hb' ho', r'⟩
    · refine hR h3 tk3 kvs3 (fun b o hb e => k3 b o hb (keep2 b o hb e)) d3 ?_
      have e : ps.drop i = p :: ps.drop (i + 1) := by
        obtain ⟨hl, e⟩ := List.getElem?_eq_some_iff.mp hp
        rw [List.drop_eq_getElem_cons hl, e]
      rw [e]
      exact f3
end
section
variable {prog : Program} {w : World} {A : Around} {E : Value → Shared → Prop} {s : Shared} {h₀ : Heap} {L D : Addr} {m : Str → Option Value} {news : List (Addr × Obj)}
/-- dict(a list of pairs of ints) -/
theorem call_dict_pairs {ys : List Value} {ps : List (Int × Int)} {Q : Value → Shared → Prop} (F₀ : Fr h₀ L s.heap m) (N : News h₀ L s.heap news) (hD : (D, LCg.lst ys) ∈ news)
    (hT : ∀ (j : Nat) v p, ys[j]? = some v → ps[j]? = some p → TupAt s.heap [] v p) (hlen : ps.length = ys.length) (hsz : ps.length ≤ 16777216) (hA : A.handled = none)
    (h : ∀ d h' tk o kvs, Fr h₀ L h' m → News h₀ L h' ((d, o) :: news) → (∀ p ∈ news, p.1 < d) → o.IsDictOf (PySem.intKind prog w) kvs → PyProof.V.FlatPairs PyData.int kvs (kdfD (putAll [] ps)) → Q (.ref d) { s with heap := h', toks := tk }) :
    wpAny (model prog w) A (call (.type "dict") [.ref D]) Q E s := by
  refine callType_codes (Q₁ := fun obj s₁ => obj = .ref s.heap.objs.size ∧ s₁ = { s with heap := s.heap.push { cls := .type "dict", data := .dict #[] } }) F.kt_called_dict (F.kt_typeCall_dict_1 _) F.entry_dict_init (kt_code_dict_new _ ⟨rfl, rfl⟩) ?_
  rintro obj s₁ ⟨rfl, rfl⟩
  have hnew : (s.heap.push { cls := .type "dict", data := .dict #[] }).DictOf (PySem.intKind prog w) s.heap.objs.size [] := Heap.DictOf.new s.heap
  have hDl : s.heap.get? D = some (LCg.lst ys) := (N _ hD).1
  have hDlt : D < s.heap.objs.size := Heap.lt_size hDl
  have hDp : (s.heap.push { cls := .type "dict", data := .dict #[] }).get? D = some (LCg.lst ys) := Heap.get?_push_of_some _ hDl
  refine ⟨hnew.typeIs, F.args_dict_init_2 _ _, ?_⟩
  unfold Builtin.«dict.__init__»
  refine wpAny_bind ?_
  unfold Builtin.Dict.selfAndRest
  refine wpAny_bind (wpAny_notOrdered_dict hnew.typeIs ?_)
  show wpAny _ _ (pure (s.heap.objs.size, [Value.ref D])) _ _ _
  refine wpAny_pure ?_
  show wpAny _ _ (Builtin.Dict.updateFrom "dict.__init__" s.heap.objs.size (.ref D) [] .none) _ _ _
  unfold Builtin.Dict.updateFrom
  refine wpAny_bind (wpAny_typeOf (T := "list") ⟨_, hDp, rfl⟩ ?_)
  rw [if_pos (by decide)]
  refine wpAny_bind (keysQ_list hDp (by simpa using hA) fun h1 tk1 k1 => ?_)
  show wpAny _ _ (pyIter (.ref D) >>= _) _ _ _
  have hl1 : h1.IsList D ys.toArray := ⟨_, k1 _ _ hDp, rfl, _, rfl⟩
  refine wpAny_bind (wpAny_pyIter_list (s := { s with heap := h1, toks := tk1 }) hl1 ?_)
  have hS1 : h1.DictOf (PySem.intKind prog w) s.heap.objs.size [] := by
    obtain ⟨o, es, ep, ho, rest⟩ := hnew
    exact ⟨o, es, ep, k1 _ _ ho, rest⟩
  have hSlt : s.heap.objs.size < h1.objs.size := by obtain ⟨o, es, ep, ho, rest⟩ := hS1; exact Heap.lt_size ho
  have hDlt1 : D < h1.objs.size := Heap.lt_size (k1 _ _ hDp)
  have up : ∀ b o, s.heap.get? b = some o → (h1.push { cls := .type "list_iterator", data := .fields #[.ref D, .int 0 0] }).get? b = some o := fun b o e => Heap.get?_push_of_some _ (k1 _ _ (Heap.get?_push_of_some _ e))
  have hh : A.in1.handled = none := by simpa using hA
  refine wpAny_pure ⟨plainId_quiet plain_dict_update_loop _, ?_⟩
  refine dict_loop (vs := ys) (ps := ps) (St := fun i h => h.IsListIter h1.objs.size D i ∧ h.IsList D ys.toArray) (Walks.list (by simpa using hA) h1.objs.size D (Nat.ne_of_lt hDlt1) ys.toArray) s.heap.objs.size ?_ (fun i v hv => by rw [← List.getElem?_toArray]; exact hv) (by rw [List.size_toArray]; exact hlen) (Nat.ne_of_lt hSlt)
    (ys.toArray.size - 0) 0 _ 0 0 [] [] rfl (Nat.zero_le _) ⟨⟨_, Heap.get?_push_size _ rfl, rfl, rfl⟩, hl1.push _⟩ ?_ ?_ ?_ .nil ?_
  · simp only [List.mem_cons, List.not_mem_nil, or_false, not_or]
    exact ⟨Nat.ne_of_lt hSlt, Nat.ne_of_gt hDlt⟩
  · rw [List.size_toArray, ← hlen]; simpa using hsz
  · intro j v p hv hp
    obtain ⟨T, a1, a2, rfl, _, o', ho', r'⟩ := hT j v p hv hp
    have lt := Heap.lt_size ho'
    refine ⟨T, a1, a2, rfl, ?_, o', up _ _ ho', r'⟩
    simp only [List.mem_cons, List.not_mem_nil, or_false, not_or]
    exact ⟨Nat.ne_of_lt lt, Nat.ne_of_lt (Nat.lt_trans lt hSlt)⟩
  · exact hS1.push _
  · intro h' tk kvs' k2 d2 f2
    refine ⟨rfl, ?_⟩
    obtain ⟨o2, ho2, hd2⟩ := Heap.dictOf_iff.mp d2
    have new : ∀ a, s.heap.objs.size ≤ a → ∀ p ∈ news, p.1 ≠ a := fun a ha p hp => Nat.ne_of_lt (Nat.lt_of_lt_of_le (Heap.lt_size (N p hp).1) ha)
    have k3 : ∀ b o, s.heap.get? b = some o → h'.get? b = some o := fun b o e => k2 b o (by
      have lt := Heap.lt_size e
      simp only [List.mem_cons, List.not_mem_nil, or_false, not_or]
      exact ⟨Nat.ne_of_lt lt, Nat.ne_of_lt (Nat.lt_trans lt hSlt)⟩) (up b o e)
    refine h s.heap.objs.size h' tk o2 kvs' (F₀.keeps k3) (fun p hp => ?_) (fun p hp => Heap.lt_size (N p hp).1) hd2 f2
    rcases List.mem_cons.mp hp with rfl | hp
    · exact ⟨ho2, Ne.symm (Nat.ne_of_lt F₀.ns.lt), next_is_new F₀⟩
    · exact ⟨k3 _ _ (N p hp).1, (N p hp).2⟩
end
end
section
theorem rT34_0 : True := by
  k_with_none
  k_with "ne" => (refine neN ?_; (try dsimp only); first | with_reducible assumption | exact Ne.symm (by with_reducible assumption) | exact off_ne (by with_reducible assumption) (by k_mem) | exact Ne.symm (off_ne (by with_reducible assumption) (by k_mem)) | exact off_i (by with_reducible assumption) (by k_mem) | exact off_c (by with_reducible assumption) (by k_mem) | exact off_d (by with_reducible assumption) (by k_mem) | exact Ne.symm (off_i (by with_reducible assumption) (by k_mem)) | exact Ne.symm (off_c (by with_reducible assumption) (by k_mem)) | exact Ne.symm (off_d (by with_reducible assumption) (by k_mem)) | exact Ne3.a (by with_reducible assumption) | exact Ne3.b (by with_reducible assumption) | exact Ne3.c (by with_reducible assumption) | exact Ne.symm (Ne3.a (by with_reducible assumption)) | exact Ne.symm (Ne3.b (by with_reducible assumption)) | exact Ne.symm (Ne3.c (by with_reducible assumption)) | exact NeA.ne (by with_reducible assumption) | exact Ne.symm (NeA.ne (by with_reducible assumption)) | exact Nat.ne_of_lt (by with_reducible assumption) | exact Nat.ne_of_gt (by with_reducible assumption) | exact Nat.ne_of_lt (And.left (by with_reducible assumption)) | exact Nat.ne_of_gt (And.left (by with_reducible assumption)) | exact Nat.ne_of_lt (And.left (And.right (by with_reducible assumption))) | exact Nat.ne_of_gt (And.left (And.right (by with_reducible assumption))) | exact Nat.ne_of_lt (And.right (by with_reducible assumption)) | exact Nat.ne_of_gt (And.right (by with_reducible assumption)) | exact Nat.ne_of_lt (And.right (And.right (by with_reducible assumption))) | exact Nat.ne_of_gt (And.right (And.right (by with_reducible assumption))) | exact Nat.ne_of_lt (And.left (And.right (And.right (by with_reducible assumption)))) | exact Nat.ne_of_gt (And.left (And.right (And.right (by with_reducible assumption)))))
  k_with "M enter" => (refine' enterM ?k1z9 ?k2z9 ?k3z9 ?k4z9 ?k5z9 ?kAz9 ?kFz9 ?kKz9 ?k6z9 ?k7z9 ?k8z9 ?k9z9 ?kBz9 ?_ ?c2z9 ?c3z9 ?c4z9 ?c5z9; (case kAz9 => exact rfl); (case kFz9 => exact rfl); (case kKz9 => assumption); (case k1z9 => k_asm); (case k2z9 => k_asm); (case k3z9 => k_asm); (case k4z9 => k_asm); (case k5z9 => k_asm); (case k6z9 => k_is); (case k7z9 => k_is); (case k8z9 => ktr_room); (case k9z9 => first | exact BindsTo.of_eq rfl | exact binds_K (by k_in) rfl (by k_is) rfl rfl rfl); (case c5z9 => decide); (case kBz9 => exact locs rfl); (case c2z9 => exact rfl); (case c3z9 => exact rfl); (case c4z9 => exact rfl); k_whole; intro g' L' h' tk' K' G' FG' F' N' B' X' T' l1 l2; (try k_lt l1); (try dsimp only); (try k_lift B'); (try k_fold))
  k_with "M enter0" => (refine' enterM ?k1z9 ?k2z9 ?k3z9 ?k4z9 ?k5z9 ?kAz9 ?kFz9 ?kKz9 ?k6z9 ?k7z9 ?k8z9 ?k9z9 ?kBz9 ?_ ?c2z9 ?c3z9 ?c4z9 ?c5z9; (case kAz9 => exact rfl); (case kFz9 => exact rfl); (case kKz9 => assumption); (case k1z9 => k_asm); (case k2z9 => k_asm); (case k3z9 => k_asm); (case k4z9 => k_asm); (case k5z9 => k_asm); (case k6z9 => k_is); (case k7z9 => k_is); (case k8z9 => ktr_room); (case k9z9 => first | exact BindsTo.of_eq rfl | exact binds_K (by k_in) rfl (by k_is) rfl rfl rfl); (case c5z9 => decide); (case kBz9 => exact locs rfl); (case c2z9 => exact rfl); (case c3z9 => exact rfl); (case c4z9 => exact rfl); k_whole)
  k_with "M ar" => (first | with_reducible assumption | decide | omega | (simp [List.getD]; done) | (simp [List.getD]; omega))
  k_with "M keep" => (rename Kept _ _ [] => K7; (have F' := Kept.fr (by k_asm) K7); (have N' := Kept.news (by k_asm) K7); clear K7; (try dsimp only); (try k_sweep))
  k_with "M enterC" => (refine' enterMC ?k1z9 ?k2z9 ?k3z9 ?k4z9 ?k5z9 ?kAz9 ?kFz9 ?kKz9 ?k6z9 ?k7z9 ?k8z9 ?k9z9 ?kBz9 ?kDz9 ?_ ?c2z9 ?c3z9 ?c4z9; (case kAz9 => exact rfl); (case kFz9 => exact rfl); (case kKz9 => assumption); (case k1z9 => k_asm); (case k2z9 => k_asm); (case k3z9 => k_asm); (case k4z9 => k_asm); (case k5z9 => k_asm); (case k6z9 => k_is); (case k7z9 => k_is); (case k8z9 => ktr_room); (case k9z9 => first | exact BindsTo.of_eq rfl | exact binds_K (by k_in) rfl (by k_is) rfl rfl rfl); (case kBz9 => exact rfl); (case kDz9 => decide +kernel); (case c2z9 => exact rfl); (case c3z9 => exact rfl); (case c4z9 => exact rfl); k_whole; intro g' L' h' tk' cells' K' G' FG' F' N' Y' B' X' T' l1 l2; (try k_lt l1); k_cells Y'; (try simp only [List.cons_append, List.nil_append] at N'); (try dsimp only); (try k_lift B'); (try k_fold))
  k_with "M enterC0" => (refine' enterMC ?k1z9 ?k2z9 ?k3z9 ?k4z9 ?k5z9 ?kAz9 ?kFz9 ?kKz9 ?k6z9 ?k7z9 ?k8z9 ?k9z9 ?kBz9 ?kDz9 ?_ ?c2z9 ?c3z9 ?c4z9; (case kAz9 => exact rfl); (case kFz9 => exact rfl); (case kKz9 => assumption); (case k1z9 => k_asm); (case k2z9 => k_asm); (case k3z9 => k_asm); (case k4z9 => k_asm); (case k5z9 => k_asm); (case k6z9 => k_is); (case k7z9 => k_is); (case k8z9 => ktr_room); (case k9z9 => first | exact BindsTo.of_eq rfl | exact binds_K (by k_in) rfl (by k_is) rfl rfl rfl); (case kBz9 => exact rfl); (case kDz9 => decide +kernel); (case c2z9 => exact rfl); (case c3z9 => exact rfl); (case c4z9 => exact rfl); k_whole)
  exact trivial
theorem sys_ne {a d : Addr} (h : @LT.lt Nat _ (a + 1) d) : (d == sysModules) = false := beq_eq_false_iff_ne.mpr (Nat.ne_of_gt (Nat.lt_of_le_of_lt (Nat.le_add_left 1 a) h))
section
variable {w : World} {mean : ExcName → Option Value} {mg mb : Str → Option Value} {dp un : Nat} {gd : Option (List Code)} {cn : Str} {cs : Scope} {a : Addr} {ccd : Value} {cl : List (Str × Addr)} {outer : List Env} {A₀ : Around} {base h₀ : Heap} {L : Addr} {m : Str → Option Value} {s : Shared} {Q E : Value → Shared → Prop}
   (B : Below A₀ base outer h₀) (F : Fr h₀ L s.heap m) (X : (heapK w.params).In h₀) (T : Top prgV (looseW prgV [Str.ofString "ShapeError"]) mean mg mb h₀) (hk : cs.kind = .function)
theorem rT34_1 : True := by
  k_with "eval ListComp" => (refine stopped ?_)
  exact trivial
set_option maxRecDepth 100000 in
set_option maxHeartbeats 8000000 in
theorem codes_tail {g : Heap} {L1 D le ls : Addr} {c : List (Int × Int)} {kvs : List (Int × Value)} {oD oc o3 o4 : Obj} {m1 : Str → Option Value} {Qf : Flow → Shared → Prop}
   (B : Below (ktrTop dp un gd cn cs L a ccd cl outer) base (envX cn cs L a ccd cl :: outer) g) (X : (heapK w.params).In g) (T : Top prgV (looseW prgV [Str.ofString "ShapeError"]) mean mg mb g)
   (F : Fr g L1 s.heap m1) (N : News g L1 s.heap [(D, oD), (L1 + 1, oc), (le, o3), (ls, o4)])
   (hc : oc.data = .cell (some (.ref D))) (hD : oD.IsDictOf (PySem.intKind Challenge.rw_nu0154_01.row.prog w) kvs) (hf : PyProof.V.FlatPairs PyData.int kvs (kdfD c)) (lo : (D == sysModules) = false) (hlen : c.length ≤ 70000)
   (hd : dp + 20 < recursionLimit) (hu : un + 200 < cLine)
   (hret : ∀ d h' tk o kvs' m', Fr g L1 h' m' → h'.get? d = some o → g.get? d = none → (d == sysModules) = false → d ∉ [le, ls] → h'.get? le = some o3 → h'.get? ls = some o4 → o.IsDictOf (PySem.intKind Challenge.rw_nu0154_01.row.prog w) kvs' → PyProof.V.FlatPairs PyData.int kvs' (kdfD (putAll [] (c.filter nz))) → Qf (.ret (.ref d)) { s with heap := h', toks := tk }) :
   wpAny (model Challenge.rw_nu0154_01.row.prog w) ((ktrTop dp un gd cn cs L a ccd cl outer).deeper (envOfC (Str.ofString "_law_codes") (scopeAt w.params 254) L1 254 (Value.ref 253))) (execs (sufAt w.params 254 2) (envOfC (Str.ofString "_law_codes") (scopeAt w.params 254) L1 254 (Value.ref 253))) Qf (fun _ _ => False) s := by
  revert X; k_fill; intro X
  conv in (occs := *) scopeAt _ _ => all_goals whnf
  conv in sufAt _ _ _ => whnf
  k_steps
  refine Stop.go ?_
  k_here
  k_dflt (refine listComp_dict (h₀ := g) (L := L1) (m := m1) (knd := PySem.intKind _ _) (by rfl) (by decide) (by rfl) (by decide) (by rfl) ?_)
  k_steps
  have hnd : (c.map (·.1)).Nodup := by
    rw [← flat_keys hf]
    obtain ⟨_, _, _, _, _, _, hn⟩ := hD
    exact hn
  refine ⟨D, oD, kvs, _, rfl, rfl, F, N, .head _, hD, lo, by rw [flat_len hf, sizeLine_eq]; omega, fun g' => ?_⟩
  refine comp_restT (fun i ys nw => ∃ tl, nw = (D, oD) :: (L1 + 1, oc) :: (le, o3) :: (ls, o4) :: tl ∧ TupRel tl ys ((c.take i).filter nz)) ?_ ?_ ?_
  · exact ⟨[], rfl, TupRel.nil⟩
  · intro i v I oI C oC D' m₂ ys nw h tk E' hi hv hJ hC hx F3 N3 off ne
    obtain ⟨k, y, hk, hkv⟩ := hv
    obtain ⟨t9, rfl⟩ := PySem.Value.isInt_shape hkv
    obtain ⟨tl, rfl, hts⟩ := hJ
    have off3 := off
    obtain ⟨v0, hc0⟩ := flat_at hf hk
    have hmem := List.mem_of_getElem? hc0
    have hhas := kdfHas_mem hmem
    have hlook := kdfLook_mem (d := 0) hnd hmem
    clear F N
    k_steps
    · rename_i tA hA tB T9 h9 F9 N9 l9
      generalize ho9 : ({ cls := .type "tuple", data := .seq #[.int k t9, .int (kdfLook c k 0) tB] } : Obj) = o9 at N9
      refine LCg.CompEnd.intro F9 N9 ((D, oD) :: (L1 + 1, oc) :: (le, o3) :: (ls, o4) :: (T9, o9) :: tl) (fun p hp => ?_) ⟨off3.1, off3.2.1, off3.2.2.1, off3.2.2.2.1, ⟨Ne.symm (Nat.ne_of_lt l9.1), Ne.symm (Nat.ne_of_lt l9.2.1), Ne.symm (Nat.ne_of_lt l9.2.2.1)⟩, off3.2.2.2.2⟩ (.head _) ⟨_, rfl, ?_⟩
      · simp only [List.mem_cons] at hp ⊢
        rcases hp with h | h | h | h | h | h | h | h | h <;> simp [h]
      · rw [nz_yes hc0 (by rw [← hlook]; assumption), ← hlook]
        refine TupRel.snoc (tk := t9) (tv := tB) (n := 0) hts ?_ ?_ <;> rw [← ho9]
    · refine LCg.CompEnd.intro F3 N3 ((D, oD) :: (L1 + 1, oc) :: (le, o3) :: (ls, o4) :: tl) (fun p hp => hp) off3 (.head _) ⟨_, rfl, ?_⟩
      rw [nz_no hc0 (by rw [← hlook]; assumption)]
      exact hts
  · intro ys nw hJ
    obtain ⟨tl, rfl, hts⟩ := hJ
    rw [List.take_of_length_le (by rw [flat_len hf]; exact Nat.le_refl _)] at hts
    k_steps
    rename_i D9 h9 tk9 F9 N9 o9
    refine call_dict_pairs F9 N9 (.head _) (ps := c.filter nz) (fun j v p hv hp => ?_) hts.1.symm (by have := List.length_filter_le nz c; omega) rfl fun d h' tk o kvs' F' N' lt9 a b => ?_
    · obtain ⟨T, a, b, o, n, e, hm, ho, hd'⟩ := hts.2 j v p hv hp
      exact ⟨T, a, b, e, List.not_mem_nil, o, (N9 _ (.tail _ (.tail _ (.tail _ (.tail _ (.tail _ hm)))))).1, ho, n, hd'⟩
    · have lte := Nat.ne_of_lt (lt9 (le, o3) (.tail _ (.tail _ (.tail _ (.head _)))))
      have lts := Nat.ne_of_lt (lt9 (ls, o4) (.tail _ (.tail _ (.tail _ (.tail _ (.head _))))))
      exact hret _ _ _ _ _ _ F' (N' _ (.head _)).1 (N' _ (.head _)).2.2 (sys_ne (lt9 (L1 + 1, oc) (.tail _ (.tail _ (.head _))))) (by simp only [List.mem_cons, List.not_mem_nil, or_false, not_or]; exact ⟨Ne.symm lte, Ne.symm lts⟩) (N' (le, o3) (.tail _ (.tail _ (.tail _ (.tail _ (.head _)))))).1 (N' (ls, o4) (.tail _ (.tail _ (.tail _ (.tail _ (.tail _ (.head _))))))).1 a b
end
end
section
theorem rT30_0 : True := by
  k_with_none
  k_with "ne" => (refine neN ?_; (try dsimp only); first | with_reducible assumption | exact Ne.symm (by with_reducible assumption) | exact off_ne (by with_reducible assumption) (by k_mem) | exact Ne.symm (off_ne (by with_reducible assumption) (by k_mem)) | exact off_i (by with_reducible assumption) (by k_mem) | exact off_c (by with_reducible assumption) (by k_mem) | exact off_d (by with_reducible assumption) (by k_mem) | exact Ne.symm (off_i (by with_reducible assumption) (by k_mem)) | exact Ne.symm (off_c (by with_reducible assumption) (by k_mem)) | exact Ne.symm (off_d (by with_reducible assumption) (by k_mem)) | exact Ne3.a (by with_reducible assumption) | exact Ne3.b (by with_reducible assumption) | exact Ne3.c (by with_reducible assumption) | exact Ne.symm (Ne3.a (by with_reducible assumption)) | exact Ne.symm (Ne3.b (by with_reducible assumption)) | exact Ne.symm (Ne3.c (by with_reducible assumption)) | exact NeA.ne (by with_reducible assumption) | exact Ne.symm (NeA.ne (by with_reducible assumption)) | exact Nat.ne_of_lt (by with_reducible assumption) | exact Nat.ne_of_gt (by with_reducible assumption) | exact Nat.ne_of_lt (And.left (by with_reducible assumption)) | exact Nat.ne_of_gt (And.left (by with_reducible assumption)) | exact Nat.ne_of_lt (And.left (And.right (by with_reducible assumption))) | exact Nat.ne_of_gt (And.left (And.right (by with_reducible assumption))) | exact Nat.ne_of_lt (And.right (by with_reducible assumption)) | exact Nat.ne_of_gt (And.right (by with_reducible assumption)) | exact Nat.ne_of_lt (And.right (And.right (by with_reducible assumption))) | exact Nat.ne_of_gt (And.right (And.right (by with_reducible assumption))) | exact Nat.ne_of_lt (And.left (And.right (And.right (by with_reducible assumption)))) | exact Nat.ne_of_gt (And.left (And.right (And.right (by with_reducible assumption)))))
  k_with "M enter" => (refine' enterM ?k1z9 ?k2z9 ?k3z9 ?k4z9 ?k5z9 ?kAz9 ?kFz9 ?kKz9 ?k6z9 ?k7z9 ?k8z9 ?k9z9 ?kBz9 ?_ ?c2z9 ?c3z9 ?c4z9 ?c5z9; (case kAz9 => exact rfl); (case kFz9 => exact rfl); (case kKz9 => assumption); (case k1z9 => k_asm); (case k2z9 => k_asm); (case k3z9 => k_asm); (case k4z9 => k_asm); (case k5z9 => k_asm); (case k6z9 => k_is); (case k7z9 => k_is); (case k8z9 => ktr_room); (case k9z9 => first | exact BindsTo.of_eq rfl | exact binds_K (by k_in) rfl (by k_is) rfl rfl rfl); (case c5z9 => decide); (case kBz9 => exact locs rfl); (case c2z9 => exact rfl); (case c3z9 => exact rfl); (case c4z9 => exact rfl); k_whole; intro g' L' h' tk' K' G' FG' F' N' B' X' T' l1 l2; (try k_lt l1); (try dsimp only); (try k_lift B'); (try k_fold))
  k_with "M enter0" => (refine' enterM ?k1z9 ?k2z9 ?k3z9 ?k4z9 ?k5z9 ?kAz9 ?kFz9 ?kKz9 ?k6z9 ?k7z9 ?k8z9 ?k9z9 ?kBz9 ?_ ?c2z9 ?c3z9 ?c4z9 ?c5z9; (case kAz9 => exact rfl); (case kFz9 => exact rfl); (case kKz9 => assumption); (case k1z9 => k_asm); (case k2z9 => k_asm); (case k3z9 => k_asm); (case k4z9 => k_asm); (case k5z9 => k_asm); (case k6z9 => k_is); (case k7z9 => k_is); (case k8z9 => ktr_room); (case k9z9 => first | exact BindsTo.of_eq rfl | exact binds_K (by k_in) rfl (by k_is) rfl rfl rfl); (case c5z9 => decide); (case kBz9 => exact locs rfl); (case c2z9 => exact rfl); (case c3z9 => exact rfl); (case c4z9 => exact rfl); k_whole)
  k_with "M ar" => (first | with_reducible assumption | decide | omega | (simp [List.getD]; done) | (simp [List.getD]; omega))
  k_with "M keep" => (rename Kept _ _ [] => K7; (have F' := Kept.fr (by k_asm) K7); (have N' := Kept.news (by k_asm) K7); clear K7; (try dsimp only); (try k_sweep))
  k_with "M enterC" => (refine' enterMC ?k1z9 ?k2z9 ?k3z9 ?k4z9 ?k5z9 ?kAz9 ?kFz9 ?kKz9 ?k6z9 ?k7z9 ?k8z9 ?k9z9 ?kBz9 ?kDz9 ?_ ?c2z9 ?c3z9 ?c4z9; (case kAz9 => exact rfl); (case kFz9 => exact rfl); (case kKz9 => assumption); (case k1z9 => k_asm); (case k2z9 => k_asm); (case k3z9 => k_asm); (case k4z9 => k_asm); (case k5z9 => k_asm); (case k6z9 => k_is); (case k7z9 => k_is); (case k8z9 => ktr_room); (case k9z9 => first | exact BindsTo.of_eq rfl | exact binds_K (by k_in) rfl (by k_is) rfl rfl rfl); (case kBz9 => exact rfl); (case kDz9 => decide +kernel); (case c2z9 => exact rfl); (case c3z9 => exact rfl); (case c4z9 => exact rfl); k_whole; intro g' L' h' tk' cells' K' G' FG' F' N' Y' B' X' T' l1 l2; (try k_lt l1); k_cells Y'; (try simp only [List.cons_append, List.nil_append] at N'); (try dsimp only); (try k_lift B'); (try k_fold))
  k_with "M enterC0" => (refine' enterMC ?k1z9 ?k2z9 ?k3z9 ?k4z9 ?k5z9 ?kAz9 ?kFz9 ?kKz9 ?k6z9 ?k7z9 ?k8z9 ?k9z9 ?kBz9 ?kDz9 ?_ ?c2z9 ?c3z9 ?c4z9; (case kAz9 => exact rfl); (case kFz9 => exact rfl); (case kKz9 => assumption); (case k1z9 => k_asm); (case k2z9 => k_asm); (case k3z9 => k_asm); (case k4z9 => k_asm); (case k5z9 => k_asm); (case k6z9 => k_is); (case k7z9 => k_is); (case k8z9 => ktr_room); (case k9z9 => first | exact BindsTo.of_eq rfl | exact binds_K (by k_in) rfl (by k_is) rfl rfl rfl); (case kBz9 => exact rfl); (case kDz9 => decide +kernel); (case c2z9 => exact rfl); (case c3z9 => exact rfl); (case c4z9 => exact rfl); k_whole)
  k_with "call ref" => (k_here; (with_reducible show wpAny _ _ (call (Value.ref 249) [Value.bytes _ _, Value.int _ _]) _ _ _); (k_dflt (refine' u16_spec ?Bz9 ?Fz9 ?Xz9 ?Tz9 ?hkz9 ?hdz9 ?huz9 ?hbz9 ?hfitz9 ?hiz9 ?_ ?_)); (case Bz9 => k_asm); (case Fz9 => k_asm); (case Xz9 => k_asm); (case Tz9 => k_asm); (case hkz9 => first | exact rfl | assumption); (case hdz9 => ktr_room); (case huz9 => ktr_units); (case hbz9 => k_asm); (case hfitz9 => walk_at "M ar"); (case hiz9 => walk_at "M ar"); (all_goals (first | ((with_reducible show _ → ∀ (_ : Heap), _); intro q1 h' tk' K7; (first | (exfalso; omega) | (walk_at "M keep"))) | (intro q1 tt' h' tk' K7; (first | (exfalso; omega) | (walk_at "M keep"))))))
  k_with "exec Raise some none" => (k_here; k_dflt (refine raise_own (by exact rfl) ?_); (try k_fold))
  k_with "M raise" => (k_dflt (refine' tf_use ?Bz9 ?Fz9 ?Xz9 ?Tz9 ?hAz9 ?hfz9 ?hkez9 ?hroomz9 ?huz9 ?hhz9 ?hSz9 ?_; (case hAz9 => exact rfl); (case hfz9 => exact rfl); (case hkez9 => first | exact rfl | assumption); (case Bz9 => k_asm); (case Fz9 => k_asm); (case Xz9 => k_asm); (case Tz9 => k_asm); (case hroomz9 => ktr_room); (case huz9 => ktr_units); (case hhz9 => exact rfl); (case hSz9 => first | decide | decide +kernel | walk_at "M ar")); intro e9 dx9 t9 k1 k2 h9 tk9 kp9 ne9 he9 hdx9 nd9 ht9 nt9; (try k_unfold); show RaisableM _ _ _ _; refine ⟨_, _, _, rfl, he9, Frag.In.keeps (Frag.In.keeps (by k_asm) (Fr.keep (by k_asm))) kp9, ?_⟩; (repeat k_unfold); (try dsimp only); (k_dflt (refine' leaveM_first ?Kz9 ?Fz9 ?hsz9 ?hLz9 kp9 ne9 he9 hdx9 nd9 ?_ ?hkz9; (case Kz9 => k_asm); (case Fz9 => k_asm); (case hsz9 => exact Kept.out (by assumption) (by assumption)); (case hLz9 => assumption); (case hkz9 => exact rfl))); intro h8 R8)
  k_with "M next" => ((repeat k_unfold); (try dsimp only); (rename RaisedM _ _ _ _ _ _ _ => R7); (k_dflt (refine' leaveM_next ?Kz9 ?Fz9 R7 ?hsz9 ?hLz9 ?hysz9 ?_ ?hkz9; (case Kz9 => k_asm); (case Fz9 => k_asm); (case hsz9 => exact Kept.out (by assumption) (by assumption)); (case hLz9 => assumption); (case hysz9 => first | exact (fun _ hb => absurd hb List.not_mem_nil) | (walk_at "M ys")); (case hkz9 => exact rfl))); clear R7; intro h8 R8)
  k_with "call ref" => (k_here; (with_reducible show wpAny _ _ (call (Value.ref 188) [Value.ref _, Value.ref _, Value.int _ _, Value.int _ _]) _ _ _); (k_dflt (refine' segs_use ?Bz9 ?Fz9 ?Xz9 ?Tz9 ?hkz9 ?Nz9 ?h1z9 ?h2z9 ?hnez9 ?hdz9 ?huz9 ?hvz9 ?hwz9 ?hlz9 ?hfitz9 ?_ ?_)); (case Bz9 => k_asm); (case Fz9 => k_asm); (case Xz9 => k_asm); (case Tz9 => k_asm); (case hkz9 => first | exact rfl | assumption); (case Nz9 => k_asm); (case h1z9 => k_mem); (case h2z9 => k_mem); (case hnez9 => k_ne); (case hdz9 => ktr_room); (case huz9 => ktr_units); (case hvz9 => assumption); (case hwz9 => assumption); (case hlz9 => walk_at "M len"); (case hfitz9 => walk_at "M len"); (all_goals (first | (intro n9 p1 e' h' tk' R7; (with_reducible rename RaisedM _ _ _ _ _ _ _ => R7); walk_at "M next") | (intro z1 z2 h' tk' K7; walk_at "M keep"))))
  exact trivial
section
variable {w : World} {mean : ExcName → Option Value} {mg mb : Str → Option Value} {dp un : Nat} {gd : Option (List Code)} {cn : Str} {cs : Scope} {a : Addr} {ccd : Value} {cl : List (Str × Addr)} {outer : List Env} {A₀ : Around} {base h₀ : Heap} {L : Addr} {m : Str → Option Value} {s : Shared} {Q E : Value → Shared → Prop}
   (B : Below A₀ base outer h₀) (F : Fr h₀ L s.heap m) (X : (heapK w.params).In h₀) (T : Top prgV (looseW prgV [Str.ofString "ShapeError"]) mean mg mb h₀) (hk : cs.kind = .function)
include B F X T hk
theorem rT30_1 : True := by
  k_with "pyIter ref" => (refine stopped ?_)
  k_with "eval ListComp" => (refine stopped ?_)
  exact trivial
set_option maxRecDepth 100000 in
set_option maxHeartbeats 8000000 in
theorem codes_spec {b : Array UInt8} {ks es ss : List Int} {t1 t2 : Tok} {le ls : Addr} {ve vs : List Value} {cnt : Int}
   (N : News h₀ L s.heap [(le, LCg.lst ve), (ls, LCg.lst vs)]) (hne : le ≠ ls)
   (hd : dp + 20 < recursionLimit) (hu : un + 200 < cLine)
   (hb : KBw.bInts b = ks) (hby : ∀ k ∈ ks, 0 ≤ k ∧ k < 256) (hfit : ks.length ≤ 100000) (hc : 0 ≤ cnt ∧ 16 + 8 * cnt ≤ ks.length) (hz : n2 ks 2 ≤ ks.length)
   (hve : IntsAre ve es) (hvs : IntsAre vs ss) (ee : es.length = cnt.toNat) (e1 : ss.length = cnt.toNat)
   (hes : ∀ i, 0 ≤ es.getD i 0 ∧ es.getD i 0 < 65536) (hss : ∀ i, 0 ≤ ss.getD i 0 ∧ ss.getD i 0 < 65536)
   (z1 : SegOk es ss es.length)
   (hret : ∀ D o kvs h' tk', Kept s.heap h' [] → h'.get? D = some o → s.heap.get? D = none → (D == sysModules) = false → o.IsDictOf (PySem.intKind Challenge.rw_nu0154_01.row.prog w) kvs → PyProof.V.FlatPairs PyData.int kvs (kdfD (putAll [] ((gAll (lawG ks ss cnt) es ss (rangeKs 0 cnt.toNat)).filter nz))) → Q (.ref D) { s with heap := h', toks := tk' }) :
   wpAny (model Challenge.rw_nu0154_01.row.prog w) (ktrTop dp un gd cn cs L a ccd cl outer) (call (.ref 254) [.bytes b t1, .ref le, .ref ls, .int cnt t2]) Q E s := by
  have hne := neN hne
  revert X; k_fill; intro X
  refine wpAny_call ?_
  k_dflt (walk_at "M enterC0")
  intro g1 L1 hh1 tk1 cells1 K1 G1 FG1 F1 N1 Y1 B1 X1 T1 l1 l2
  k_lt l1
  k_cells Y1
  (try simp only [List.cons_append, List.nil_append] at N1)
  replace F1 : Fr g1 L1 hh1 (fun y => if y = Str.ofString "count" then some (Value.int cnt t2) else if y = Str.ofString "firsts" then some (Value.ref ls) else if y = Str.ofString "ends" then some (Value.ref le) else if y = Str.ofString "data" then some (Value.bytes b t1) else none) := F1
  dsimp only
  k_lift B1
  try k_fold
  k_steps
  refine Stop.go ?_
  rename_i o2 d1 D h2 oD lo hs fs hi fi lD h1 oc F5 N5 dc h0 tk0 tt uu vv rg F6 N6 kp6
  clear d1 hs fs F5 N5
  refine kst_range (n := (cnt - 0).toNat) (σ := Obj × List (Int × Value) × List (Int × Int)) (fun c => [(D, c.1), (L1 + 1, oc), (le, LCg.lst ve), (ls, LCg.lst vs)]) (fun _ => []) (fun c => c.1.IsDictOf (PySem.intKind Challenge.rw_nu0154_01.row.prog w) c.2.1 ∧ PyProof.V.FlatPairs PyData.int c.2.1 (kdfD c.2.2)) [Str.ofString "delta", Str.ofString "spot", Str.ofString "offset", Str.ofString "code", Str.ofString "glyph", Str.ofString "where", Str.ofString "told_glyph"] (fun pre c => GOut (lawG ks ss cnt) es ss pre c.2.2) (oD, [], []) (by rfl) rg ?sm ?sz F6 N6 ⟨hi, fi⟩ (fun _ h => absurd h List.not_mem_nil) gOut_nil ?_ ?_
  case sm => exact small_one (by omega) (by omega) (by omega) (by omega)
  case sz => exact rangeSize_nat _ _
  · intro c oPre oN kT kU kH kTk kOwn oEq oLt kOff kFacts oInv kFr kNews
    obtain ⟨o7, kvs7, c7⟩ := c
    obtain ⟨hd7, hf7⟩ := kFacts
    have kMark := kstMark
    simp only [List.cons_append, List.nil_append] at kNews
    dsimp only [kstB] at kFr hd7 hf7 oInv kNews kOff ⊢
    have hl : oPre.length < es.length := by omega
    have st : ss.getD oN.toNat 0 ≤ es.getD oN.toNat 0 := by
      have e := (z1 oPre.length hl).2
      have en : oN.toNat = oPre.length := by omega
      rw [en]; exact e
    have be := hes oN.toNat
    have bs := hss oN.toNat
    have hN : oN < cnt := by omega
    have hN0 : 0 ≤ oN := by omega
    clear F6 N6
    try k_fold
    k_steps
    refine Stop.go ?_
    rename_i rg2 F7 N7 kp7
    refine kst_range (n := (es.getD oN.toNat 0 + 1 - ss.getD oN.toNat 0).toNat) (σ := Obj × List (Int × Value) × List (Int × Int)) (fun c => (D, c.1) :: (L1 + 1, oc) :: (le, LCg.lst ve) :: (ls, LCg.lst vs) :: kOwn) (fun _ => []) (fun c => c.1.IsDictOf (PySem.intKind Challenge.rw_nu0154_01.row.prog w) c.2.1 ∧ PyProof.V.FlatPairs PyData.int c.2.1 (kdfD c.2.2)) [Str.ofString "glyph", Str.ofString "where", Str.ofString "told_glyph"] (fun pre c => GIn (lawG ks ss cnt) es ss oPre oN pre c.2.2) (o7, kvs7, c7) (by rfl) rg2 ?sm ?sz F7 N7 ⟨hd7, hf7⟩ (fun _ h => absurd h List.not_mem_nil) (gIn_nil oInv oEq z1 hl) ?_ ?_
    case sm => exact small_one (by omega) (by omega) (by omega) (by omega)
    case sz => exact rangeSize_nat _ _
    · intro c iPre iN kT kU kH kTk iOwn iEq iLt iOff kFacts iInv kFr kNews
      obtain ⟨o8, kvs8, c8⟩ := c
      obtain ⟨hd8, hf8⟩ := kFacts
      have kMark := kstMark
      simp only [List.cons_append, List.nil_append] at kNews
      dsimp only [kstB] at kFr hd8 hf8 iInv kNews iOff ⊢
      have bo := n2_bd hby (16 + 6 * cnt + 2 * oN)
      have b2 := n2_bd hby 2
      k_with "state" => exact gIn_snoc (by assumption) (by first | with_reducible exact lawG_a (by assumption) | with_reducible exact lawG_b (by assumption) (by assumption) | with_reducible exact lawG_c (by assumption) (by assumption) (by assumption) | with_reducible exact lawG_d (by assumption) (by assumption) (by assumption) | exact lawG_a (by assumption) | exact lawG_b (by assumption) (by assumption) | exact lawG_c (by assumption) (by assumption) (by assumption) | exact lawG_d (by assumption) (by assumption) (by assumption))
      have rm := gIn_room iInv bs.2 iLt be.2
      clear F7 N7
      try k_fold
      k_steps
    · intro c kU kH kTk kFacts kInv kFr kNews
      obtain ⟨o8, kvs8, c8⟩ := c
      obtain ⟨hd8, hf8⟩ := kFacts
      have kMark := kstMark
      dsimp only [kstB] at kFr hd8 hf8 kInv kNews ⊢
      k_with "state" => exact gOut_snoc (by assumption) (by assumption) (by assumption) (by assumption)
      clear F7 N7
      try k_fold
      k_steps
  · intro c kU kH kTk kFacts kInv kFr kNews
    obtain ⟨o7, kvs7, c7⟩ := c
    obtain ⟨hd7, hf7⟩ := kFacts
    have kMark := kstMark
    dsimp only [kstB] at kFr hd7 hf7 kInv kNews ⊢
    try k_fold
    rw [Int.sub_zero] at kInv
    refine wpAny_mono (codes_tail (c := c7) B1 X1 T1 kFr kNews dc hd7 hf7 lo (gOut_room kInv hes) (by omega) (by omega) ?_) (fun _ _ h => h) (fun _ _ h => h.elim)
    intro d h' tk o kvs' m' F9 e9 n9 sy9 nm9 ee9 es9 a9 b9
    refine leaveK_ F9 News.nil fun _ _ => ?_
    rw [kInv.1] at b9
    exact hret _ _ _ _ _ (Kept.drop (Kept.drop (Kept.out K1 F9) (N _ (.head _)).1 ee9) (N _ (.tail _ (.head _))).1 es9) e9 (Kept.fresh K1 n9 nm9) sy9 a9 b9
end
section
variable {w : World} {mean : ExcName → Option Value} {mg mb : Str → Option Value} {dp un : Nat} {gd : Option (List Code)} {cn : Str} {cs : Scope} {a : Addr} {ccd : Value} {cl : List (Str × Addr)} {outer : List Env} {A₀ : Around} {base h₀ : Heap} {L : Addr} {m : Str → Option Value} {s : Shared} {Q E : Value → Shared → Prop}
   (B : Below A₀ base outer h₀) (F : Fr h₀ L s.heap m) (X : (heapK w.params).In h₀) (T : Top prgV (looseW prgV [Str.ofString "ShapeError"]) mean mg mb h₀) (hk : cs.kind = .function)
include B F X T hk
theorem codes_use {b : Array UInt8} {ks es ss : List Int} {t1 t2 : Tok} {le ls : Addr} {ve vs : List Value} {cnt : Int} {news : List (Addr × Obj)}
   (N : News h₀ L s.heap news) (h1 : (le, LCg.lst ve) ∈ news) (h2 : (ls, LCg.lst vs) ∈ news) (hne : le ≠ ls)
   (hd : dp + 20 < recursionLimit) (hu : un + 200 < cLine)
   (hb : KBw.bInts b = ks) (hve : IntsAre ve es) (hvs : IntsAre vs ss) (hby : ∀ k ∈ ks, 0 ≤ k ∧ k < 256) (hfit : ks.length ≤ 100000) (hc : 0 ≤ cnt ∧ 16 + 8 * cnt ≤ ks.length) (hz : n2 ks 2 ≤ ks.length)
   (ee : es.length = cnt.toNat) (e1 : ss.length = cnt.toNat)
   (hes : ∀ i, 0 ≤ es.getD i 0 ∧ es.getD i 0 < 65536) (hss : ∀ i, 0 ≤ ss.getD i 0 ∧ ss.getD i 0 < 65536)
   (z1 : SegOk es ss es.length)
   (hret : ∀ D o kvs h' tk', Kept s.heap h' [] → h'.get? D = some o → s.heap.get? D = none → (D == sysModules) = false → o.IsDictOf (PySem.intKind Challenge.rw_nu0154_01.row.prog w) kvs → PyProof.V.FlatPairs PyData.int kvs (kdfD (putAll [] ((gAll (lawG ks ss cnt) es ss (rangeKs 0 cnt.toNat)).filter nz))) → Q (.ref D) { s with heap := h', toks := tk' }) :
   wpAny (model Challenge.rw_nu0154_01.row.prog w) (ktrTop dp un gd cn cs L a ccd cl outer) (call (.ref 254) [.bytes b t1, .ref le, .ref ls, .int cnt t2]) Q E s :=
  codes_spec B F X T hk (fun p hp => by
    rcases List.mem_cons.mp hp with rfl | hp
    · exact N _ h1
    · rcases List.mem_singleton.mp hp with rfl; exact N _ h2) hne hd hu hb hby hfit hc hz hve hvs ee e1 hes hss z1 hret
end
end
section
theorem rT36_0 : True := by
  k_with_none
  k_with "ne" => (refine neN ?_; (try dsimp only); first | with_reducible assumption | exact Ne.symm (by with_reducible assumption) | exact off_ne (by with_reducible assumption) (by k_mem) | exact Ne.symm (off_ne (by with_reducible assumption) (by k_mem)) | exact off_i (by with_reducible assumption) (by k_mem) | exact off_c (by with_reducible assumption) (by k_mem) | exact off_d (by with_reducible assumption) (by k_mem) | exact Ne.symm (off_i (by with_reducible assumption) (by k_mem)) | exact Ne.symm (off_c (by with_reducible assumption) (by k_mem)) | exact Ne.symm (off_d (by with_reducible assumption) (by k_mem)) | exact Ne3.a (by with_reducible assumption) | exact Ne3.b (by with_reducible assumption) | exact Ne3.c (by with_reducible assumption) | exact Ne.symm (Ne3.a (by with_reducible assumption)) | exact Ne.symm (Ne3.b (by with_reducible assumption)) | exact Ne.symm (Ne3.c (by with_reducible assumption)) | exact NeA.ne (by with_reducible assumption) | exact Ne.symm (NeA.ne (by with_reducible assumption)) | exact Nat.ne_of_lt (by with_reducible assumption) | exact Nat.ne_of_gt (by with_reducible assumption) | exact Nat.ne_of_lt (And.left (by with_reducible assumption)) | exact Nat.ne_of_gt (And.left (by with_reducible assumption)) | exact Nat.ne_of_lt (And.left (And.right (by with_reducible assumption))) | exact Nat.ne_of_gt (And.left (And.right (by with_reducible assumption))) | exact Nat.ne_of_lt (And.right (by with_reducible assumption)) | exact Nat.ne_of_gt (And.right (by with_reducible assumption)) | exact Nat.ne_of_lt (And.right (And.right (by with_reducible assumption))) | exact Nat.ne_of_gt (And.right (And.right (by with_reducible assumption))) | exact Nat.ne_of_lt (And.left (And.right (And.right (by with_reducible assumption)))) | exact Nat.ne_of_gt (And.left (And.right (And.right (by with_reducible assumption)))))
  k_with "M enter" => (refine' enterM ?k1z9 ?k2z9 ?k3z9 ?k4z9 ?k5z9 ?kAz9 ?kFz9 ?kKz9 ?k6z9 ?k7z9 ?k8z9 ?k9z9 ?kBz9 ?_ ?c2z9 ?c3z9 ?c4z9 ?c5z9; (case kAz9 => exact rfl); (case kFz9 => exact rfl); (case kKz9 => assumption); (case k1z9 => k_asm); (case k2z9 => k_asm); (case k3z9 => k_asm); (case k4z9 => k_asm); (case k5z9 => k_asm); (case k6z9 => k_is); (case k7z9 => k_is); (case k8z9 => ktr_room); (case k9z9 => first | exact BindsTo.of_eq rfl | exact binds_K (by k_in) rfl (by k_is) rfl rfl rfl); (case c5z9 => decide); (case kBz9 => exact locs rfl); (case c2z9 => exact rfl); (case c3z9 => exact rfl); (case c4z9 => exact rfl); k_whole; intro g' L' h' tk' K' G' FG' F' N' B' X' T' l1 l2; (try k_lt l1); (try dsimp only); (try k_lift B'); (try k_fold))
  k_with "M enter0" => (refine' enterM ?k1z9 ?k2z9 ?k3z9 ?k4z9 ?k5z9 ?kAz9 ?kFz9 ?kKz9 ?k6z9 ?k7z9 ?k8z9 ?k9z9 ?kBz9 ?_ ?c2z9 ?c3z9 ?c4z9 ?c5z9; (case kAz9 => exact rfl); (case kFz9 => exact rfl); (case kKz9 => assumption); (case k1z9 => k_asm); (case k2z9 => k_asm); (case k3z9 => k_asm); (case k4z9 => k_asm); (case k5z9 => k_asm); (case k6z9 => k_is); (case k7z9 => k_is); (case k8z9 => ktr_room); (case k9z9 => first | exact BindsTo.of_eq rfl | exact binds_K (by k_in) rfl (by k_is) rfl rfl rfl); (case c5z9 => decide); (case kBz9 => exact locs rfl); (case c2z9 => exact rfl); (case c3z9 => exact rfl); (case c4z9 => exact rfl); k_whole)
  k_with "M ar" => (first | with_reducible assumption | decide | omega | (simp [List.getD]; done) | (simp [List.getD]; omega))
  k_with "M keep" => (rename Kept _ _ [] => K7; (have F' := Kept.fr (by k_asm) K7); (have N' := Kept.news (by k_asm) K7); clear K7; (try dsimp only); (try k_sweep))
  k_with "M enterC" => (refine' enterMC ?k1z9 ?k2z9 ?k3z9 ?k4z9 ?k5z9 ?kAz9 ?kFz9 ?kKz9 ?k6z9 ?k7z9 ?k8z9 ?k9z9 ?kBz9 ?kDz9 ?_ ?c2z9 ?c3z9 ?c4z9; (case kAz9 => exact rfl); (case kFz9 => exact rfl); (case kKz9 => assumption); (case k1z9 => k_asm); (case k2z9 => k_asm); (case k3z9 => k_asm); (case k4z9 => k_asm); (case k5z9 => k_asm); (case k6z9 => k_is); (case k7z9 => k_is); (case k8z9 => ktr_room); (case k9z9 => first | exact BindsTo.of_eq rfl | exact binds_K (by k_in) rfl (by k_is) rfl rfl rfl); (case kBz9 => exact rfl); (case kDz9 => decide +kernel); (case c2z9 => exact rfl); (case c3z9 => exact rfl); (case c4z9 => exact rfl); k_whole; intro g' L' h' tk' cells' K' G' FG' F' N' Y' B' X' T' l1 l2; (try k_lt l1); k_cells Y'; (try simp only [List.cons_append, List.nil_append] at N'); (try dsimp only); (try k_lift B'); (try k_fold))
  k_with "M enterC0" => (refine' enterMC ?k1z9 ?k2z9 ?k3z9 ?k4z9 ?k5z9 ?kAz9 ?kFz9 ?kKz9 ?k6z9 ?k7z9 ?k8z9 ?k9z9 ?kBz9 ?kDz9 ?_ ?c2z9 ?c3z9 ?c4z9; (case kAz9 => exact rfl); (case kFz9 => exact rfl); (case kKz9 => assumption); (case k1z9 => k_asm); (case k2z9 => k_asm); (case k3z9 => k_asm); (case k4z9 => k_asm); (case k5z9 => k_asm); (case k6z9 => k_is); (case k7z9 => k_is); (case k8z9 => ktr_room); (case k9z9 => first | exact BindsTo.of_eq rfl | exact binds_K (by k_in) rfl (by k_is) rfl rfl rfl); (case kBz9 => exact rfl); (case kDz9 => decide +kernel); (case c2z9 => exact rfl); (case c3z9 => exact rfl); (case c4z9 => exact rfl); k_whole)
  k_with "call ref" => (k_here; (with_reducible show wpAny _ _ (call (Value.ref 249) [Value.bytes _ _, Value.int _ _]) _ _ _); (k_dflt (refine' u16_spec ?Bz9 ?Fz9 ?Xz9 ?Tz9 ?hkz9 ?hdz9 ?huz9 ?hbz9 ?hfitz9 ?hiz9 ?_ ?_)); (case Bz9 => k_asm); (case Fz9 => k_asm); (case Xz9 => k_asm); (case Tz9 => k_asm); (case hkz9 => first | exact rfl | assumption); (case hdz9 => ktr_room); (case huz9 => ktr_units); (case hbz9 => k_asm); (case hfitz9 => walk_at "M ar"); (case hiz9 => walk_at "M ar"); (all_goals (first | ((with_reducible show _ → ∀ (_ : Heap), _); intro q1 h' tk' K7; (first | (exfalso; omega) | (walk_at "M keep"))) | (intro q1 tt' h' tk' K7; (first | (exfalso; omega) | (walk_at "M keep"))))))
  k_with "exec Raise some none" => (k_here; k_dflt (refine raise_own (by exact rfl) ?_); (try k_fold))
  k_with "M raise" => (k_dflt (refine' tf_use ?Bz9 ?Fz9 ?Xz9 ?Tz9 ?hAz9 ?hfz9 ?hkez9 ?hroomz9 ?huz9 ?hhz9 ?hSz9 ?_; (case hAz9 => exact rfl); (case hfz9 => exact rfl); (case hkez9 => first | exact rfl | assumption); (case Bz9 => k_asm); (case Fz9 => k_asm); (case Xz9 => k_asm); (case Tz9 => k_asm); (case hroomz9 => ktr_room); (case huz9 => ktr_units); (case hhz9 => exact rfl); (case hSz9 => first | decide | decide +kernel | walk_at "M ar")); intro e9 dx9 t9 k1 k2 h9 tk9 kp9 ne9 he9 hdx9 nd9 ht9 nt9; (try k_unfold); show RaisableM _ _ _ _; refine ⟨_, _, _, rfl, he9, Frag.In.keeps (Frag.In.keeps (by k_asm) (Fr.keep (by k_asm))) kp9, ?_⟩; (repeat k_unfold); (try dsimp only); (k_dflt (refine' leaveM_first ?Kz9 ?Fz9 ?hsz9 ?hLz9 kp9 ne9 he9 hdx9 nd9 ?_ ?hkz9; (case Kz9 => k_asm); (case Fz9 => k_asm); (case hsz9 => exact Kept.out (by assumption) (by assumption)); (case hLz9 => assumption); (case hkz9 => exact rfl))); intro h8 R8)
  k_with "M next" => ((repeat k_unfold); (try dsimp only); (rename RaisedM _ _ _ _ _ _ _ => R7); (k_dflt (refine' leaveM_next ?Kz9 ?Fz9 R7 ?hsz9 ?hLz9 ?hysz9 ?_ ?hkz9; (case Kz9 => k_asm); (case Fz9 => k_asm); (case hsz9 => exact Kept.out (by assumption) (by assumption)); (case hLz9 => assumption); (case hysz9 => first | exact (fun _ hb => absurd hb List.not_mem_nil) | (walk_at "M ys")); (case hkz9 => exact rfl))); clear R7; intro h8 R8)
  k_with "call ref" => (k_here; (with_reducible show wpAny _ _ (call (Value.ref 188) [Value.ref _, Value.ref _, Value.int _ _, Value.int _ _]) _ _ _); (k_dflt (refine' segs_use ?Bz9 ?Fz9 ?Xz9 ?Tz9 ?hkz9 ?Nz9 ?h1z9 ?h2z9 ?hnez9 ?hdz9 ?huz9 ?hvz9 ?hwz9 ?hlz9 ?hfitz9 ?_ ?_)); (case Bz9 => k_asm); (case Fz9 => k_asm); (case Xz9 => k_asm); (case Tz9 => k_asm); (case hkz9 => first | exact rfl | assumption); (case Nz9 => k_asm); (case h1z9 => k_mem); (case h2z9 => k_mem); (case hnez9 => k_ne); (case hdz9 => ktr_room); (case huz9 => ktr_units); (case hvz9 => assumption); (case hwz9 => assumption); (case hlz9 => walk_at "M len"); (case hfitz9 => walk_at "M len"); (all_goals (first | (intro n9 p1 e' h' tk' R7; (with_reducible rename RaisedM _ _ _ _ _ _ _ => R7); walk_at "M next") | (intro z1 z2 h' tk' K7; walk_at "M keep"))))
  exact trivial
theorem seg_more {es ss pre : List Int} {n : Int} (h : SegOk es ss pre.length) (e : n = 0 + (pre.length : Int)) (h1 : ¬ es.getD n.toNat 0 < ss.getD n.toNat 0) (h2 : ¬ 0 < n) (hs : 0 ≤ ss.getD n.toNat 0 ∧ ss.getD n.toNat 0 < 65536) : SegOk es ss (pre ++ [n]).length := by
  have z : pre.length = 0 := by omega
  have en : n.toNat = 0 := by omega
  rw [en] at h1 hs
  rw [List.length_append, List.length_singleton, z]
  intro j hj
  have : j = 0 := by omega
  subst this
  exact ⟨by simp only [prevE, if_true]; omega, by omega⟩
theorem seg_more2 {es ss pre : List Int} {n : Int} (h : SegOk es ss pre.length) (e : n = 0 + (pre.length : Int)) (h1 : ¬ es.getD n.toNat 0 < ss.getD n.toNat 0) (h2 : 0 < n) (h3 : ¬ ss.getD n.toNat 0 ≤ es.getD (n - 1).toNat 0) : SegOk es ss (pre ++ [n]).length := by
  have en : n.toNat = pre.length := by omega
  have em : (n - 1).toNat = pre.length - 1 := by omega
  rw [en] at h1 h3
  rw [em] at h3
  rw [List.length_append, List.length_singleton]
  intro j hj
  rcases Nat.lt_or_ge j pre.length with z | z
  · exact h j z
  · have : j = pre.length := by omega
    subst this
    exact ⟨by unfold prevE; rw [if_neg (by omega)]; omega, by omega⟩
theorem seg_bad1 {es ss pre : List Int} {n ea sa : Int} (h : SegOk es ss pre.length) (e : n = 0 + (pre.length : Int)) (hl : pre.length < es.length) (h1 : es.getD n.toNat 0 < ss.getD n.toNat 0) : SegFault es ss ea sa (sa + 2 * n) := by
  have en : n.toNat = pre.length := by omega
  rw [en] at h1
  exact .inl ⟨pre.length, hl, h, fun q => by have := q.2; omega, by omega⟩
theorem seg_bad2 {es ss pre : List Int} {n ea sa : Int} (h : SegOk es ss pre.length) (e : n = 0 + (pre.length : Int)) (hl : pre.length < es.length) (h2 : 0 < n) (h3 : ss.getD n.toNat 0 ≤ es.getD (n - 1).toNat 0) : SegFault es ss ea sa (sa + 2 * n) := by
  have en : n.toNat = pre.length := by omega
  have em : (n - 1).toNat = pre.length - 1 := by omega
  rw [en] at h3
  rw [em] at h3
  refine .inl ⟨pre.length, hl, h, fun q => ?_, by omega⟩
  have := q.1
  unfold prevE at this
  rw [if_neg (by omega)] at this
  omega
theorem seg_last {es : List Int} {x : Int} (hp : 0 < es.length) (h : es.getD (-1 + (es.length : Int)).toNat 0 = x) : prevE es es.length = x := by
  have e : (-1 + (es.length : Int)).toNat = es.length - 1 := by omega
  rw [e] at h
  unfold prevE
  rw [if_neg (by omega)]; exact h
theorem seg_bad3 {es ss : List Int} {cnt : Int} {sa : Int} (hs : SegOk es ss cnt.toNat) (hl : es.length = cnt.toNat) (hc : 1 ≤ cnt) (h : es.getD (-1 + (es.length : Int)).toNat 0 ≠ 65535) : SegFault es ss 14 sa (14 + 2 * cnt - 2) := by
  refine .inr ⟨by rw [hl]; exact hs, fun q => h ?_, by omega⟩
  have e := seg_last (x := es.getD (-1 + (es.length : Int)).toNat 0) (by omega) rfl
  rw [← e]; exact q
section
variable {w : World} {mean : ExcName → Option Value} {mg mb : Str → Option Value} {dp un : Nat} {gd : Option (List Code)} {cn : Str} {cs : Scope} {a : Addr} {ccd : Value} {cl : List (Str × Addr)} {outer : List Env} {A₀ : Around} {base h₀ : Heap} {L : Addr} {m : Str → Option Value} {s : Shared} {Q E : Value → Shared → Prop}
   (B : Below A₀ base outer h₀) (F : Fr h₀ L s.heap m) (X : (heapK w.params).In h₀) (T : Top prgV (looseW prgV [Str.ofString "ShapeError"]) mean mg mb h₀) (hk : cs.kind = .function)
theorem rT36_1 : True := by
  k_with "pyIter ref" => ((with_reducible rename IsRange _ _ _ _ _ _ _ _ => rgX9); refine stopped ?_)
  k_with "CompSrc" => (refine stopped ?_)
  k_with "InvEndN" => (refine stopped ?_)
  exact trivial
set_option maxRecDepth 100000 in
set_option maxHeartbeats 8000000 in
theorem due_tail {g : Heap} {L1 : Addr} {b : Array UInt8} {ks es ss : List Int} {t1 tc : Tok} {cnt : Int} {oC oD : Obj} {m1 : Str → Option Value} {Qf : Flow → Shared → Prop}
   (B : Below (ktrTop dp un gd cn cs L a ccd cl outer) base (envX cn cs L a ccd cl :: outer) g) (X : (heapK w.params).In g) (T : Top prgV (looseW prgV [Str.ofString "ShapeError"]) mean mg mb g)
   (F : Fr g L1 s.heap m1) (N : News g L1 s.heap [(L1 + 1 + 1, oC), (L1 + 1, oD)])
   (hC : oC.data = .cell (some (.int cnt tc))) (hD : oD.data = .cell (some (.bytes b t1)))
   (hd : dp + 30 < recursionLimit) (hu : un + 300 < cLine)
   (hb : KBw.bInts b = ks) (hby : ∀ k ∈ ks, 0 ≤ k ∧ k < 256) (hfit : ks.length ≤ 100000) (hc : 1 ≤ cnt ∧ 16 + 8 * cnt ≤ ks.length) (hz : n2 ks 2 ≤ ks.length)
   (hes : nums ks 14 cnt.toNat = es) (hss : nums ks (16 + 2 * cnt) cnt.toNat = ss)
   (hret1 : ∀ n, SegFault es ss 14 (16 + 2 * cnt) n → ∀ t h' tk' m', Fr g L1 h' m' → Qf (.ret (.int n t)) { s with heap := h', toks := tk' })
   (hret2 : SegOk es ss cnt.toNat → prevE es cnt.toNat = 65535 → ∀ D o kvs h' tk' m', Fr g L1 h' m' → h'.get? D = some o → g.get? D = none → (D == sysModules) = false → o.IsDictOf (PySem.intKind Challenge.rw_nu0154_01.row.prog w) kvs → PyProof.V.FlatPairs PyData.int kvs (kdfD (putAll [] ((gAll (lawG ks ss cnt) es ss (rangeKs 0 cnt.toNat)).filter nz))) → Qf (.ret (.ref D)) { s with heap := h', toks := tk' }) :
   wpAny (model Challenge.rw_nu0154_01.row.prog w) ((ktrTop dp un gd cn cs L a ccd cl outer).deeper (envOfC (Str.ofString "_law_due") (scopeAt w.params 259) L1 259 (Value.ref 258))) (execs (sufAt w.params 259 4) (envOfC (Str.ofString "_law_due") (scopeAt w.params 259) L1 259 (Value.ref 258))) Qf (fun _ _ => False) s := by
  revert X; k_fill; intro X
  conv in (occs := *) scopeAt _ _ => all_goals whnf
  conv in sufAt _ _ _ => whnf
  k_steps
  refine Stop.go ?_
  refine LCg.CompSrc.range (n := cnt.toNat) (by rfl) (by k_asm) (by k_asm) (by assumption) ?sm ?sz (by rw [PySem.sizeLine_eq]; omega) ?_
  case sm => exact small_one (by omega) (by omega) (by omega) (by omega)
  case sz => rw [rangeSize_nat]; simp
  intro g'
  refine comp_rest (fun i ys nw => nw = [(L1 + 1 + 1, oC), (L1 + 1, oD)] ∧ IntsAre ys (nums ks 14 i)) ⟨rfl, .nil⟩ ?_ ?_
  · intro i v I oI C oC' D m₂ ys nw h tk E' hi hv hJ hC' hx F3 N3 off ne
    obtain ⟨rfl, hy⟩ := hJ
    obtain ⟨t9, rfl⟩ := hv
    try k_fold
    k_steps
    rw [nums_snoc, Int.zero_add]
    exact IntsAre.append hy (.cons _ _ .nil)
  · intro ys nw hJ
    obtain ⟨rfl, hy⟩ := hJ
    k_steps
    refine Stop.go ?_
    rename_i rg9 F9 N9 kp9
    refine LCg.CompSrc.range (n := cnt.toNat) (by rfl) F9 N9 rg9 ?sm ?sz (by rw [PySem.sizeLine_eq]; omega) ?_
    case sm => exact small_one (by omega) (by omega) (by omega) (by omega)
    case sz => rw [rangeSize_nat]; simp
    intro g'
    rename_i D1 h2 tk1 F2 N2 o1 h3 tk2 a1 a2 a3
    refine comp_rest (fun i ys2 nw => nw = [(D1, LCg.lst ys), (L1 + 1 + 1, oC), (L1 + 1, oD)] ∧ IntsAre ys2 (nums ks (16 + 2 * cnt) i)) ⟨rfl, .nil⟩ ?_ ?_
    · intro i v I oI C oC' D m₂ ys nw h tk E' hi hv hJ hC' hx F3 N3 off ne
      obtain ⟨rfl, hy⟩ := hJ
      obtain ⟨t9, rfl⟩ := hv
      try k_fold
      k_steps
      rw [nums_snoc, Int.zero_add]
      exact IntsAre.append hy (.cons _ _ .nil)
    · intro ys2 nw hJ
      obtain ⟨rfl, hy2⟩ := hJ
      k_steps
      refine Stop.go ?_
      rename_i D2 h4 tk4 F4 N4 o4 h5 tk5 b1 b2 b3 F5 N5 kp5
      clear F4 N4 rg9 F9 N9 kp9 kp5
      have le1 : es.length = cnt.toNat := by rw [← hes]; exact nums_len _ _ _
      have le2 : ss.length = cnt.toNat := by rw [← hss]; exact nums_len _ _ _
      have bes : ∀ i, 0 ≤ es.getD i 0 ∧ es.getD i 0 < 65536 := by rw [← hes]; exact nums_bd hby _ _
      have bss : ∀ i, 0 ≤ ss.getD i 0 ∧ ss.getD i 0 < 65536 := by rw [← hss]; exact nums_bd hby _ _
      rw [hes] at hy
      rw [hss] at hy2
      refine kst_range (n := (cnt - 0).toNat) (σ := Unit) (fun _ => [(D2, LCg.lst ys2), (D1, LCg.lst ys), (L1 + 1 + 1, oC), (L1 + 1, oD)]) (fun _ => []) (fun _ => True) [] (fun pre _ => SegOk es ss pre.length) () (by rfl) rgX9 ?sm ?sz F5 N5 trivial (fun _ h => absurd h List.not_mem_nil) (fun j h => absurd h (Nat.not_lt_zero _)) ?_ ?_
      case sm => exact small_one (by omega) (by omega) (by omega) (by omega)
      case sz => exact rangeSize_nat _ _
      · intro c kPre kN kT kU kH kTk kOwn kEq kLt kOff kFacts kInv kFr kNews
        have kMark := kstMark
        simp only [List.cons_append, List.nil_append] at kNews
        dsimp only [kstB] at kFr kInv kNews kOff ⊢
        clear F5 N5 rgX9 kFacts
        have x1 := bes kN.toNat
        have x2 := bss kN.toNat
        try k_fold
        k_steps
        · exact hret1 _ (seg_bad1 kInv kEq (by omega) (by assumption)) _ _ _ _ kFr
        · exact hret1 _ (seg_bad2 kInv kEq (by omega) (by assumption) (by assumption)) _ _ _ _ kFr
        all_goals
          refine Stop.go ?_
          refine kst_end () kFr kNews (fun p hp => ?_) (fun p hp => ?_) rfl trivial (fun _ h => absurd h List.not_mem_nil) (fun z h1 _ _ => ?_) ?_
          · simp only [List.mem_cons, List.not_mem_nil, or_false] at hp ⊢
            rcases hp with h | h | h | h <;> simp [h]
          · simp [hp]
          · simp [h1]
          · first | exact seg_more kInv kEq (by assumption) (by assumption) (bss _) | exact seg_more2 kInv kEq (by assumption) (by assumption) (by assumption)
      · intro c kU kH kTk kFacts kInv kFr kNews
        dsimp only [kstB] at kFr kInv kNews ⊢
        clear F5 N5 rgX9 kFacts
        rw [rangeKs_length, Int.sub_zero] at kInv
        try k_fold
        k_steps
        · rename_i t9 h9
          dsimp only
          exact hret1 _ (seg_bad3 kInv le1 (by omega) h9) _ _ _ _ kFr
        · rename_i t9 h9
          have nD : D2 ≠ D1 := Ne.symm o4.1
          k_dflt (refine' codes_use (cnt := cnt) (es := es) (ss := ss) ?B kFr X T ?hk kNews (.tail _ (.head _)) (.head _) o4.1 ?hd ?hu hb hy hy2 hby hfit ?_ hz le1 le2 bes bss ?_ ?_)
          case B => k_asm
          case hk => exact rfl
          case hd => ktr_room
          case hu => ktr_units
          · omega
          · rw [le1]; exact kInv
          · intro D o kvs h' tk' K7 e7 n7 sy7 a7 b7
            dsimp only
            refine hret2 kInv (by rw [← le1]; exact seg_last (by omega) h9) _ _ _ _ _ _ (Kept.fr kFr K7) e7 ?_ sy7 a7 b7
            cases q : g.get? D with
            | none => rfl
            | some ob => have := kFr.keep _ _ q; rw [n7] at this; cases this
end
end
section
theorem rT35_0 : True := by
  k_with_none
  k_with "ne" => (refine neN ?_; (try dsimp only); first | with_reducible assumption | exact Ne.symm (by with_reducible assumption) | exact off_ne (by with_reducible assumption) (by k_mem) | exact Ne.symm (off_ne (by with_reducible assumption) (by k_mem)) | exact off_i (by with_reducible assumption) (by k_mem) | exact off_c (by with_reducible assumption) (by k_mem) | exact off_d (by with_reducible assumption) (by k_mem) | exact Ne.symm (off_i (by with_reducible assumption) (by k_mem)) | exact Ne.symm (off_c (by with_reducible assumption) (by k_mem)) | exact Ne.symm (off_d (by with_reducible assumption) (by k_mem)) | exact Ne3.a (by with_reducible assumption) | exact Ne3.b (by with_reducible assumption) | exact Ne3.c (by with_reducible assumption) | exact Ne.symm (Ne3.a (by with_reducible assumption)) | exact Ne.symm (Ne3.b (by with_reducible assumption)) | exact Ne.symm (Ne3.c (by with_reducible assumption)) | exact NeA.ne (by with_reducible assumption) | exact Ne.symm (NeA.ne (by with_reducible assumption)) | exact Nat.ne_of_lt (by with_reducible assumption) | exact Nat.ne_of_gt (by with_reducible assumption) | exact Nat.ne_of_lt (And.left (by with_reducible assumption)) | exact Nat.ne_of_gt (And.left (by with_reducible assumption)) | exact Nat.ne_of_lt (And.left (And.right (by with_reducible assumption))) | exact Nat.ne_of_gt (And.left (And.right (by with_reducible assumption))) | exact Nat.ne_of_lt (And.right (by with_reducible assumption)) | exact Nat.ne_of_gt (And.right (by with_reducible assumption)) | exact Nat.ne_of_lt (And.right (And.right (by with_reducible assumption))) | exact Nat.ne_of_gt (And.right (And.right (by with_reducible assumption))) | exact Nat.ne_of_lt (And.left (And.right (And.right (by with_reducible assumption)))) | exact Nat.ne_of_gt (And.left (And.right (And.right (by with_reducible assumption)))))
  k_with "M enter" => (refine' enterM ?k1z9 ?k2z9 ?k3z9 ?k4z9 ?k5z9 ?kAz9 ?kFz9 ?kKz9 ?k6z9 ?k7z9 ?k8z9 ?k9z9 ?kBz9 ?_ ?c2z9 ?c3z9 ?c4z9 ?c5z9; (case kAz9 => exact rfl); (case kFz9 => exact rfl); (case kKz9 => assumption); (case k1z9 => k_asm); (case k2z9 => k_asm); (case k3z9 => k_asm); (case k4z9 => k_asm); (case k5z9 => k_asm); (case k6z9 => k_is); (case k7z9 => k_is); (case k8z9 => ktr_room); (case k9z9 => first | exact BindsTo.of_eq rfl | exact binds_K (by k_in) rfl (by k_is) rfl rfl rfl); (case c5z9 => decide); (case kBz9 => exact locs rfl); (case c2z9 => exact rfl); (case c3z9 => exact rfl); (case c4z9 => exact rfl); k_whole; intro g' L' h' tk' K' G' FG' F' N' B' X' T' l1 l2; (try k_lt l1); (try dsimp only); (try k_lift B'); (try k_fold))
  k_with "M enter0" => (refine' enterM ?k1z9 ?k2z9 ?k3z9 ?k4z9 ?k5z9 ?kAz9 ?kFz9 ?kKz9 ?k6z9 ?k7z9 ?k8z9 ?k9z9 ?kBz9 ?_ ?c2z9 ?c3z9 ?c4z9 ?c5z9; (case kAz9 => exact rfl); (case kFz9 => exact rfl); (case kKz9 => assumption); (case k1z9 => k_asm); (case k2z9 => k_asm); (case k3z9 => k_asm); (case k4z9 => k_asm); (case k5z9 => k_asm); (case k6z9 => k_is); (case k7z9 => k_is); (case k8z9 => ktr_room); (case k9z9 => first | exact BindsTo.of_eq rfl | exact binds_K (by k_in) rfl (by k_is) rfl rfl rfl); (case c5z9 => decide); (case kBz9 => exact locs rfl); (case c2z9 => exact rfl); (case c3z9 => exact rfl); (case c4z9 => exact rfl); k_whole)
  k_with "M ar" => (first | with_reducible assumption | decide | omega | (simp [List.getD]; done) | (simp [List.getD]; omega))
  k_with "M keep" => (rename Kept _ _ [] => K7; (have F' := Kept.fr (by k_asm) K7); (have N' := Kept.news (by k_asm) K7); clear K7; (try dsimp only); (try k_sweep))
  k_with "M enterC" => (refine' enterMC ?k1z9 ?k2z9 ?k3z9 ?k4z9 ?k5z9 ?kAz9 ?kFz9 ?kKz9 ?k6z9 ?k7z9 ?k8z9 ?k9z9 ?kBz9 ?kDz9 ?_ ?c2z9 ?c3z9 ?c4z9; (case kAz9 => exact rfl); (case kFz9 => exact rfl); (case kKz9 => assumption); (case k1z9 => k_asm); (case k2z9 => k_asm); (case k3z9 => k_asm); (case k4z9 => k_asm); (case k5z9 => k_asm); (case k6z9 => k_is); (case k7z9 => k_is); (case k8z9 => ktr_room); (case k9z9 => first | exact BindsTo.of_eq rfl | exact binds_K (by k_in) rfl (by k_is) rfl rfl rfl); (case kBz9 => exact rfl); (case kDz9 => decide +kernel); (case c2z9 => exact rfl); (case c3z9 => exact rfl); (case c4z9 => exact rfl); k_whole; intro g' L' h' tk' cells' K' G' FG' F' N' Y' B' X' T' l1 l2; (try k_lt l1); k_cells Y'; (try simp only [List.cons_append, List.nil_append] at N'); (try dsimp only); (try k_lift B'); (try k_fold))
  k_with "M enterC0" => (refine' enterMC ?k1z9 ?k2z9 ?k3z9 ?k4z9 ?k5z9 ?kAz9 ?kFz9 ?kKz9 ?k6z9 ?k7z9 ?k8z9 ?k9z9 ?kBz9 ?kDz9 ?_ ?c2z9 ?c3z9 ?c4z9; (case kAz9 => exact rfl); (case kFz9 => exact rfl); (case kKz9 => assumption); (case k1z9 => k_asm); (case k2z9 => k_asm); (case k3z9 => k_asm); (case k4z9 => k_asm); (case k5z9 => k_asm); (case k6z9 => k_is); (case k7z9 => k_is); (case k8z9 => ktr_room); (case k9z9 => first | exact BindsTo.of_eq rfl | exact binds_K (by k_in) rfl (by k_is) rfl rfl rfl); (case kBz9 => exact rfl); (case kDz9 => decide +kernel); (case c2z9 => exact rfl); (case c3z9 => exact rfl); (case c4z9 => exact rfl); k_whole)
  k_with "call ref" => (k_here; (with_reducible show wpAny _ _ (call (Value.ref 249) [Value.bytes _ _, Value.int _ _]) _ _ _); (k_dflt (refine' u16_spec ?Bz9 ?Fz9 ?Xz9 ?Tz9 ?hkz9 ?hdz9 ?huz9 ?hbz9 ?hfitz9 ?hiz9 ?_ ?_)); (case Bz9 => k_asm); (case Fz9 => k_asm); (case Xz9 => k_asm); (case Tz9 => k_asm); (case hkz9 => first | exact rfl | assumption); (case hdz9 => ktr_room); (case huz9 => ktr_units); (case hbz9 => k_asm); (case hfitz9 => walk_at "M ar"); (case hiz9 => walk_at "M ar"); (all_goals (first | ((with_reducible show _ → ∀ (_ : Heap), _); intro q1 h' tk' K7; (first | (exfalso; omega) | (walk_at "M keep"))) | (intro q1 tt' h' tk' K7; (first | (exfalso; omega) | (walk_at "M keep"))))))
  k_with "exec Raise some none" => (k_here; k_dflt (refine raise_own (by exact rfl) ?_); (try k_fold))
  k_with "M raise" => (k_dflt (refine' tf_use ?Bz9 ?Fz9 ?Xz9 ?Tz9 ?hAz9 ?hfz9 ?hkez9 ?hroomz9 ?huz9 ?hhz9 ?hSz9 ?_; (case hAz9 => exact rfl); (case hfz9 => exact rfl); (case hkez9 => first | exact rfl | assumption); (case Bz9 => k_asm); (case Fz9 => k_asm); (case Xz9 => k_asm); (case Tz9 => k_asm); (case hroomz9 => ktr_room); (case huz9 => ktr_units); (case hhz9 => exact rfl); (case hSz9 => first | decide | decide +kernel | walk_at "M ar")); intro e9 dx9 t9 k1 k2 h9 tk9 kp9 ne9 he9 hdx9 nd9 ht9 nt9; (try k_unfold); show RaisableM _ _ _ _; refine ⟨_, _, _, rfl, he9, Frag.In.keeps (Frag.In.keeps (by k_asm) (Fr.keep (by k_asm))) kp9, ?_⟩; (repeat k_unfold); (try dsimp only); (k_dflt (refine' leaveM_first ?Kz9 ?Fz9 ?hsz9 ?hLz9 kp9 ne9 he9 hdx9 nd9 ?_ ?hkz9; (case Kz9 => k_asm); (case Fz9 => k_asm); (case hsz9 => exact Kept.out (by assumption) (by assumption)); (case hLz9 => assumption); (case hkz9 => exact rfl))); intro h8 R8)
  k_with "M next" => ((repeat k_unfold); (try dsimp only); (rename RaisedM _ _ _ _ _ _ _ => R7); (k_dflt (refine' leaveM_next ?Kz9 ?Fz9 R7 ?hsz9 ?hLz9 ?hysz9 ?_ ?hkz9; (case Kz9 => k_asm); (case Fz9 => k_asm); (case hsz9 => exact Kept.out (by assumption) (by assumption)); (case hLz9 => assumption); (case hysz9 => first | exact (fun _ hb => absurd hb List.not_mem_nil) | (walk_at "M ys")); (case hkz9 => exact rfl))); clear R7; intro h8 R8)
  k_with "call ref" => (k_here; (with_reducible show wpAny _ _ (call (Value.ref 188) [Value.ref _, Value.ref _, Value.int _ _, Value.int _ _]) _ _ _); (k_dflt (refine' segs_use ?Bz9 ?Fz9 ?Xz9 ?Tz9 ?hkz9 ?Nz9 ?h1z9 ?h2z9 ?hnez9 ?hdz9 ?huz9 ?hvz9 ?hwz9 ?hlz9 ?hfitz9 ?_ ?_)); (case Bz9 => k_asm); (case Fz9 => k_asm); (case Xz9 => k_asm); (case Tz9 => k_asm); (case hkz9 => first | exact rfl | assumption); (case Nz9 => k_asm); (case h1z9 => k_mem); (case h2z9 => k_mem); (case hnez9 => k_ne); (case hdz9 => ktr_room); (case huz9 => ktr_units); (case hvz9 => assumption); (case hwz9 => assumption); (case hlz9 => walk_at "M len"); (case hfitz9 => walk_at "M len"); (all_goals (first | (intro n9 p1 e' h' tk' R7; (with_reducible rename RaisedM _ _ _ _ _ _ _ => R7); walk_at "M next") | (intro z1 z2 h' tk' K7; walk_at "M keep"))))
  exact trivial
section
variable {ks : List Int}
theorem es_0 : nums ks 14 ((n2 ks 6).fdiv 2).toNat = esOf ks 0 := rfl
theorem ss_0 : nums ks (16 + 2 * (n2 ks 6).fdiv 2) ((n2 ks 6).fdiv 2).toNat = ssOf ks 0 := by
  have e : startsAt ks 0 = 16 + 2 * (n2 ks 6).fdiv 2 := by
    show (14 : Int) + 2 * (n2 ks 6).fdiv 2 + 2 = _
    omega
  unfold ssOf
  rw [e]; rfl
theorem ss_at0 : startsAt ks 0 = 16 + 2 * (n2 ks 6).fdiv 2 := by
  show (14 : Int) + 2 * (n2 ks 6).fdiv 2 + 2 = _
  omega
theorem esOf_len : (esOf ks 0).length = ((n2 ks 6).fdiv 2).toNat := nums_len _ _ _
theorem seg_0 : segC ks 0 = (n2 ks 6).fdiv 2 := rfl
theorem du_1 (h : n2 ks 6 < 2) (q : 0 ≤ n2 ks 6) (p : 6 + 2 ≤ (ks.length : Int)) (p2 : n2 ks 0 = 4) : ReadFault ks 0 6 := by
  refine .inl (.inr (.inr (.inr (.inr ⟨by omega, p2, fun q => ?_, rfl⟩))))
  have q1 : n2 ks 6 ≠ 0 := q.1
  have q2 : (n2 ks 6).fmod 2 ≠ 1 := q.2.1
  have := fd_bd (n2 ks 6)
  omega
theorem du_2 (h : (n2 ks 6).fmod 2 = 1) (p : 6 + 2 ≤ (ks.length : Int)) (p2 : n2 ks 0 = 4) : ReadFault ks 0 6 :=
  .inl (.inr (.inr (.inr (.inr ⟨by omega, p2, fun q => q.2.1 h, rfl⟩))))
theorem du_3 (h : n2 ks 2 < 16 + 4 * n2 ks 6) (p : 6 + 2 ≤ (ks.length : Int)) (p2 : n2 ks 0 = 4) : ReadFault ks 0 6 :=
  .inl (.inr (.inr (.inr (.inr ⟨by omega, p2, fun q => by
    have q3 : 0 + 16 + 4 * n2 ks 6 ≤ 0 + n2 ks 2 := q.2.2.1
    omega, rfl⟩))))
theorem du_4 (h : (ks.length : Int) < n2 ks 2) (p : 6 + 2 ≤ (ks.length : Int)) (p2 : n2 ks 0 = 4) : ReadFault ks 0 6 :=
  .inl (.inr (.inr (.inr (.inr ⟨by omega, p2, fun q => by
    have q3 : 0 + n2 ks 2 ≤ ks.length := q.2.2.2
    omega, rfl⟩))))
theorem du_ok (h1 : ¬ n2 ks 6 < 2) (h2 : (n2 ks 6).fmod 2 ≠ 1) (h3 : ¬ n2 ks 2 < 16 + 4 * n2 ks 6) (h4 : ¬ (ks.length : Int) < n2 ks 2) (p : 6 + 2 ≤ (ks.length : Int)) (p2 : n2 ks 0 = 4) : HeadOk ks 0 := by
  refine ⟨by omega, p2, ?_, h2, ?_, ?_⟩
  · show n2 ks 6 ≠ 0; omega
  · show 0 + 16 + 4 * n2 ks 6 ≤ 0 + n2 ks 2; omega
  · show 0 + n2 ks 2 ≤ ks.length; omega
theorem du_room (h1 : ¬ n2 ks 6 < 2) (h2 : (n2 ks 6).fmod 2 ≠ 1) (h3 : ¬ n2 ks 2 < 16 + 4 * n2 ks 6) (h4 : ¬ (ks.length : Int) < n2 ks 2) : 1 ≤ (n2 ks 6).fdiv 2 ∧ 16 + 8 * (n2 ks 6).fdiv 2 ≤ ks.length := by
  have := fd_bd (n2 ks 6)
  omega
theorem du_5 (p1 : 4 + 2 ≤ (ks.length : Int)) (p2 : n2 ks 0 = 4) (h : ¬ 6 + 2 ≤ (ks.length : Int)) : ReadFault ks 0 6 := rf_5 (a := 0) (by omega) p2 (by omega)
theorem du_6 (p1 : 2 + 2 ≤ (ks.length : Int)) (p2 : n2 ks 0 = 4) (h : ¬ 4 + 2 ≤ (ks.length : Int)) : ReadFault ks 0 4 := rf_6 (a := 0) (by omega) p2 (by omega)
theorem du_7 (p1 : 0 + 2 ≤ (ks.length : Int)) (p2 : n2 ks 0 = 4) (h : ¬ 2 + 2 ≤ (ks.length : Int)) : ReadFault ks 0 2 := rf_7 (a := 0) (by omega) p2 (by omega)
theorem du_8 (h : ¬ 0 + 2 ≤ (ks.length : Int)) : ReadFault ks 0 0 := rf_8 (a := 0) (by omega)
theorem du_9 (h : n2 ks 0 ≠ 4) : ReadFault ks 0 0 := rf_8 (a := 0) (by omega)
end
section
variable {w : World} {mean : ExcName → Option Value} {mg mb : Str → Option Value} {dp un : Nat} {gd : Option (List Code)} {cn : Str} {cs : Scope} {a : Addr} {ccd : Value} {cl : List (Str × Addr)} {outer : List Env} {A₀ : Around} {base h₀ : Heap} {L : Addr} {m : Str → Option Value} {s : Shared} {Q E : Value → Shared → Prop}
   (B : Below A₀ base outer h₀) (F : Fr h₀ L s.heap m) (X : (heapK w.params).In h₀) (T : Top prgV (looseW prgV [Str.ofString "ShapeError"]) mean mg mb h₀) (hk : cs.kind = .function)
include B F X T hk
theorem rT35_1 : True := by
  k_with "pyIter ref" => ((with_reducible rename IsRange _ _ _ _ _ _ _ _ => rgX9); refine stopped ?_)
  k_with "execs cons" => (k_here; (with_reducible show wpAny _ _ (execs [_, _, _, _, _] _) _ _ _); refine stopped ?_)
  exact trivial
set_option maxRecDepth 100000 in
set_option maxHeartbeats 8000000 in
theorem due_spec {b : Array UInt8} {ks : List Int} {t1 : Tok}
   (hd : dp + 30 < recursionLimit) (hu : un + 300 < cLine)
   (hb : KBw.bInts b = ks) (hby : ∀ k ∈ ks, 0 ≤ k ∧ k < 256) (hfit : ks.length ≤ 100000)
   (hret1 : ∀ n, ReadFault ks 0 n → ∀ t h' tk', Kept s.heap h' [] → Q (.int n t) { s with heap := h', toks := tk' })
   (hret2 : HeadOk ks 0 → SegOk (esOf ks 0) (ssOf ks 0) (esOf ks 0).length → prevE (esOf ks 0) (esOf ks 0).length = 65535 → ∀ D o kvs h' tk', Kept s.heap h' [] → h'.get? D = some o → s.heap.get? D = none → (D == sysModules) = false → o.IsDictOf (PySem.intKind Challenge.rw_nu0154_01.row.prog w) kvs → PyProof.V.FlatPairs PyData.int kvs (kdfD (putAll [] ((gAll (lawG ks (ssOf ks 0) (segC ks 0)) (esOf ks 0) (ssOf ks 0) (rangeKs 0 (segC ks 0).toNat)).filter nz))) → Q (.ref D) { s with heap := h', toks := tk' }) :
   wpAny (model Challenge.rw_nu0154_01.row.prog w) (ktrTop dp un gd cn cs L a ccd cl outer) (call (.ref 259) [.bytes b t1]) Q E s := by
  have N : News h₀ L s.heap [] := News.nil
  revert X; k_fill; intro X
  refine wpAny_call ?_
  k_dflt (walk_at "M enterC0")
  intro g1 L1 hh1 tk1 cells1 K1 G1 FG1 F1 N1 Y1 B1 X1 T1 l1 l2
  k_lt l1
  k_cells Y1
  (try simp only [List.cons_append, List.nil_append] at N1)
  dsimp only
  k_lift B1
  try k_fold
  have q2 := n2_bd hby 2
  have q6 := n2_bd hby 6
  have q7 := fd_bd (n2 ks 6)
  k_steps
  all_goals (first | refine hret1 _ ?_ _ _ _ (Kept.out (by assumption) (by assumption)) | skip)
  · exact du_9 (by assumption)
  · exact du_1 (by assumption) q6.1 (by assumption) (by assumption)
  · exact du_2 (by assumption) (by assumption) (by assumption)
  · exact du_3 (by assumption) (by assumption) (by assumption)
  · exact du_4 (by assumption) (by assumption) (by assumption)
  · refine Stop.go ?_
    rename_i c1 c2 c3 c4 h9 o9 F9 N9 d9
    have hk0 := du_ok c1 c2 c3 c4 (by assumption) (by assumption)
    have dc := du_room c1 c2 c3 c4
    refine wpAny_mono (due_tail (cnt := (n2 ks 6).fdiv 2) B1 X1 T1 F9 (fun p hp => N9 p (.tail _ (.tail _ hp))) d9 (by assumption) hd hu hb hby hfit dc (Int.not_lt.mp c4) es_0 ss_0 ?_ ?_) (fun _ _ h => h) (fun _ _ h => h.elim)
    · intro n hn t h' tk' m' F7
      refine leaveK_ F7 News.nil fun _ _ => ?_
      exact hret1 _ (.inr ⟨hk0, by rw [← ss_at0] at hn; exact hn⟩) _ _ _ (Kept.out K1 F7)
    · intro z1 z2 D o kvs h' tk' m' F7 e7 n7 sy7 a7 b7
      refine leaveK_ F7 News.nil fun _ _ => ?_
      exact hret2 hk0 (by rw [esOf_len]; exact z1) (by rw [esOf_len]; exact z2) _ _ _ _ _ (Kept.out K1 F7) e7 (Kept.fresh K1 n7 List.not_mem_nil) sy7 a7 b7
  · exact du_5 (by assumption) (by assumption) (by assumption)
  · exact du_6 (by assumption) (by assumption) (by assumption)
  · exact du_7 (by assumption) (by assumption) (by assumption)
  · exact du_8 (by assumption)
theorem due_use {b : Array UInt8} {ks : List Int} {t1 : Tok} {news : List (Addr × Obj)}
   (N : News h₀ L s.heap news)
   (hd : dp + 30 < recursionLimit) (hu : un + 300 < cLine)
   (hb : KBw.bInts b = ks) (hby : ∀ k ∈ ks, 0 ≤ k ∧ k < 256) (hfit : ks.length ≤ 100000)
   (hret1 : ∀ n, ReadFault ks 0 n → ∀ t h' tk', Fr h₀ L h' m → News h₀ L h' news → Q (.int n t) { s with heap := h', toks := tk' })
   (hret2 : HeadOk ks 0 → SegOk (esOf ks 0) (ssOf ks 0) (esOf ks 0).length → prevE (esOf ks 0) (esOf ks 0).length = 65535 → ∀ D o kvs h' tk', Fr h₀ L h' m → News h₀ L h' ((D, o) :: news) → LCg.Off1 D news → (D == sysModules) = false → o.IsDictOf (PySem.intKind Challenge.rw_nu0154_01.row.prog w) kvs → PyProof.V.FlatPairs PyData.int kvs (kdfD (putAll [] ((gAll (lawG ks (ssOf ks 0) (segC ks 0)) (esOf ks 0) (ssOf ks 0) (rangeKs 0 (segC ks 0).toNat)).filter nz))) → Q (.ref D) { s with heap := h', toks := tk' }) :
   wpAny (model Challenge.rw_nu0154_01.row.prog w) (ktrTop dp un gd cn cs L a ccd cl outer) (call (.ref 259) [.bytes b t1]) Q E s :=
  due_spec B F X T hk hd hu hb hby hfit (fun n hn t h' tk' kp => hret1 n hn t h' tk' (Kept.fr F kp) (Kept.news N kp)) (fun hk0 z1 z2 D o kvs h' tk' kp eD nD sy7 a7 b7 => hret2 hk0 z1 z2 D o kvs h' tk' (Kept.fr F kp) (News.cons_new F (Kept.news N kp) eD nD) (News.all_ne N nD) sy7 a7 b7)
end
end
section
theorem rT51_0 : True := by
  k_with_none
  k_with "ne" => (refine neN ?_; (try dsimp only); first | with_reducible assumption | exact Ne.symm (by with_reducible assumption) | exact off_ne (by with_reducible assumption) (by k_mem) | exact Ne.symm (off_ne (by with_reducible assumption) (by k_mem)) | exact off_i (by with_reducible assumption) (by k_mem) | exact off_c (by with_reducible assumption) (by k_mem) | exact off_d (by with_reducible assumption) (by k_mem) | exact Ne.symm (off_i (by with_reducible assumption) (by k_mem)) | exact Ne.symm (off_c (by with_reducible assumption) (by k_mem)) | exact Ne.symm (off_d (by with_reducible assumption) (by k_mem)) | exact Ne3.a (by with_reducible assumption) | exact Ne3.b (by with_reducible assumption) | exact Ne3.c (by with_reducible assumption) | exact Ne.symm (Ne3.a (by with_reducible assumption)) | exact Ne.symm (Ne3.b (by with_reducible assumption)) | exact Ne.symm (Ne3.c (by with_reducible assumption)) | exact NeA.ne (by with_reducible assumption) | exact Ne.symm (NeA.ne (by with_reducible assumption)) | exact Nat.ne_of_lt (by with_reducible assumption) | exact Nat.ne_of_gt (by with_reducible assumption) | exact Nat.ne_of_lt (And.left (by with_reducible assumption)) | exact Nat.ne_of_gt (And.left (by with_reducible assumption)) | exact Nat.ne_of_lt (And.left (And.right (by with_reducible assumption))) | exact Nat.ne_of_gt (And.left (And.right (by with_reducible assumption))) | exact Nat.ne_of_lt (And.right (by with_reducible assumption)) | exact Nat.ne_of_gt (And.right (by with_reducible assumption)) | exact Nat.ne_of_lt (And.right (And.right (by with_reducible assumption))) | exact Nat.ne_of_gt (And.right (And.right (by with_reducible assumption))) | exact Nat.ne_of_lt (And.left (And.right (And.right (by with_reducible assumption)))) | exact Nat.ne_of_gt (And.left (And.right (And.right (by with_reducible assumption)))))
  k_with "M enter" => (refine' enterM ?k1z9 ?k2z9 ?k3z9 ?k4z9 ?k5z9 ?kAz9 ?kFz9 ?kKz9 ?k6z9 ?k7z9 ?k8z9 ?k9z9 ?kBz9 ?_ ?c2z9 ?c3z9 ?c4z9 ?c5z9; (case kAz9 => exact rfl); (case kFz9 => exact rfl); (case kKz9 => assumption); (case k1z9 => k_asm); (case k2z9 => k_asm); (case k3z9 => k_asm); (case k4z9 => k_asm); (case k5z9 => k_asm); (case k6z9 => k_is); (case k7z9 => k_is); (case k8z9 => ktr_room); (case k9z9 => first | exact BindsTo.of_eq rfl | exact binds_K (by k_in) rfl (by k_is) rfl rfl rfl); (case c5z9 => decide); (case kBz9 => exact locs rfl); (case c2z9 => exact rfl); (case c3z9 => exact rfl); (case c4z9 => exact rfl); k_whole; intro g' L' h' tk' K' G' FG' F' N' B' X' T' l1 l2; (try k_lt l1); (try dsimp only); (try k_lift B'); (try k_fold))
  k_with "M enter0" => (refine' enterM ?k1z9 ?k2z9 ?k3z9 ?k4z9 ?k5z9 ?kAz9 ?kFz9 ?kKz9 ?k6z9 ?k7z9 ?k8z9 ?k9z9 ?kBz9 ?_ ?c2z9 ?c3z9 ?c4z9 ?c5z9; (case kAz9 => exact rfl); (case kFz9 => exact rfl); (case kKz9 => assumption); (case k1z9 => k_asm); (case k2z9 => k_asm); (case k3z9 => k_asm); (case k4z9 => k_asm); (case k5z9 => k_asm); (case k6z9 => k_is); (case k7z9 => k_is); (case k8z9 => ktr_room); (case k9z9 => first | exact BindsTo.of_eq rfl | exact binds_K (by k_in) rfl (by k_is) rfl rfl rfl); (case c5z9 => decide); (case kBz9 => exact locs rfl); (case c2z9 => exact rfl); (case c3z9 => exact rfl); (case c4z9 => exact rfl); k_whole)
  k_with "M ar" => (first | with_reducible assumption | decide | omega | (simp [List.getD]; done) | (simp [List.getD]; omega))
  k_with "M keep" => (rename Kept _ _ [] => K7; (have F' := Kept.fr (by k_asm) K7); (have N' := Kept.news (by k_asm) K7); clear K7; (try dsimp only); (try k_sweep))
  k_with "M enterC" => (refine' enterMC ?k1z9 ?k2z9 ?k3z9 ?k4z9 ?k5z9 ?kAz9 ?kFz9 ?kKz9 ?k6z9 ?k7z9 ?k8z9 ?k9z9 ?kBz9 ?kDz9 ?_ ?c2z9 ?c3z9 ?c4z9; (case kAz9 => exact rfl); (case kFz9 => exact rfl); (case kKz9 => assumption); (case k1z9 => k_asm); (case k2z9 => k_asm); (case k3z9 => k_asm); (case k4z9 => k_asm); (case k5z9 => k_asm); (case k6z9 => k_is); (case k7z9 => k_is); (case k8z9 => ktr_room); (case k9z9 => first | exact BindsTo.of_eq rfl | exact binds_K (by k_in) rfl (by k_is) rfl rfl rfl); (case kBz9 => exact rfl); (case kDz9 => decide +kernel); (case c2z9 => exact rfl); (case c3z9 => exact rfl); (case c4z9 => exact rfl); k_whole; intro g' L' h' tk' cells' K' G' FG' F' N' Y' B' X' T' l1 l2; (try k_lt l1); k_cells Y'; (try simp only [List.cons_append, List.nil_append] at N'); (try dsimp only); (try k_lift B'); (try k_fold))
  k_with "M enterC0" => (refine' enterMC ?k1z9 ?k2z9 ?k3z9 ?k4z9 ?k5z9 ?kAz9 ?kFz9 ?kKz9 ?k6z9 ?k7z9 ?k8z9 ?k9z9 ?kBz9 ?kDz9 ?_ ?c2z9 ?c3z9 ?c4z9; (case kAz9 => exact rfl); (case kFz9 => exact rfl); (case kKz9 => assumption); (case k1z9 => k_asm); (case k2z9 => k_asm); (case k3z9 => k_asm); (case k4z9 => k_asm); (case k5z9 => k_asm); (case k6z9 => k_is); (case k7z9 => k_is); (case k8z9 => ktr_room); (case k9z9 => first | exact BindsTo.of_eq rfl | exact binds_K (by k_in) rfl (by k_is) rfl rfl rfl); (case kBz9 => exact rfl); (case kDz9 => decide +kernel); (case c2z9 => exact rfl); (case c3z9 => exact rfl); (case c4z9 => exact rfl); k_whole)
  exact trivial
section
open PySem.Builtin
set_option maxRecDepth 100000
theorem slot_bytes_join : Slot "bytes" "join" "bytes.join" :=
  .of (owner := "bytes") (n := "join") (by rw [typeLookup_type, builtinLookup_eq_fast]; kernel_rfl) (by decide +kernel) (by decide +kernel) (by decide +kernel)
    (by first | exact .inl (by decide +kernel) | exact .inr (by decide +kernel)) (by rw [isSubtype_type]; kernel_rfl)
theorem type_bytes_join : typeOf (.builtin "bytes.join") = pure (.type "method_descriptor") := by show builtinType _ = _; rw [builtinType_eq_fast]; kernel_rfl
theorem entry_bytes_join : entryFor table "bytes.join" = some Builtin.«bytes.join» := entryFor_of_tree (by kernel_rfl)
theorem args_bytes_join_2 (a b : Value) : argsOk "bytes.join" ⟨[a, b], []⟩ := by
  unfold argsOk; rw [signature?_of (id := "bytes.join") (n := ['n', 'i', 'o', 'j']) (o := ['s', 'e', 't', 'y', 'b']) (by kernel_rfl) FB.owner_bytes]; kernel_rfl
theorem take_eq {id : String} {b : Array UInt8} {t : Tok} : Bytes.takeBufferQuiet? id (.bytes b t) 0 = pure (some (b, none)) := by
  have e : Bytes.takeBuffer? id (.bytes b t) 0 = pure (some (b, none)) := by
    unfold Bytes.takeBuffer?
    rw [KBy.special_eq KBy.look_buffer]
    simp only [pure_bind]
    rw [KBy.own_buffer]
    have e2 : ((0 : Int) == Bytes.fullReadOnly) = false := by decide
    rw [e2, KBy.buffer_eq]
    rfl
  unfold Bytes.takeBufferQuiet?
  rw [e]
  rfl
/-- a list of bytes -/
inductive BytesAre : List Value → List (Array UInt8) → Prop
  | nil : BytesAre [] []
  | cons (b : Array UInt8) (t : Tok) {vs : List Value} {bs : List (Array UInt8)} : BytesAre vs bs → BytesAre (.bytes b t :: vs) (b :: bs)
theorem BytesAre.length {vs : List Value} {bs : List (Array UInt8)} (h : BytesAre vs bs) : vs.length = bs.length := by
  induction h with
  | nil => rfl
  | cons b t _ ih => simp [ih]
theorem BytesAre.at {vs : List Value} {bs : List (Array UInt8)} (h : BytesAre vs bs) : ∀ {i : Nat} (hi : i < vs.length), ∃ b t, vs[i] = .bytes b t ∧ bs[i]? = some b := by
  induction h with
  | nil => intro i hi; exact absurd hi (Nat.not_lt_zero _)
  | cons b t _ ih =>
    intro i hi
    cases i with
    | zero => exact ⟨b, t, rfl, rfl⟩
    | succ i => simpa using ih (i := i) (by simpa using hi)
theorem BytesAre.snoc {vs : List Value} {bs : List (Array UInt8)} {b : Array UInt8} {t : Tok} (h : BytesAre vs bs) : BytesAre (vs ++ [.bytes b t]) (bs ++ [b]) := by
  induction h with
  | nil => exact .cons b t .nil
  | cons b t _ ih => exact .cons b t ih
def flatB (bs : List (Array UInt8)) : Array UInt8 := bs.foldl (· ++ ·) #[]
theorem flat_from : ∀ (bs : List (Array UInt8)) (a : Array UInt8) (k : Nat), (bs.zipIdx k).foldl (fun out (x : Array UInt8 × Nat) => (if x.2 > 0 then out ++ #[] else out) ++ x.1) a = bs.foldl (· ++ ·) a
  | [], _, _ => rfl
  | b :: r, a, k => by
    have e : (if k > 0 then a ++ #[] else a) = a := by split <;> simp
    simp only [List.zipIdx_cons, List.foldl_cons]
    rw [e]
    exact flat_from r _ _
theorem joined_eq (bs : List (Array UInt8)) : Bytes.joined #[] bs = flatB bs := flat_from bs #[] 0
theorem size_from : ∀ (bs : List (Array UInt8)) (a : Array UInt8), bs.foldl (fun n b => n + b.size) a.size = (bs.foldl (· ++ ·) a).size
  | [], _ => rfl
  | b :: r, a => by
    simp only [List.foldl_cons]
    rw [← Array.size_append]
    exact size_from r _
theorem wpAny_joinLetGo {M : Model} {A : Around} {E : Value → Shared → Prop} {s : Shared} {keep : List Value} {Q : Unit → Shared → Prop} : ∀ {taken : List (Value × Option Value)}, (∀ p ∈ taken, p.2 = none) → Q () s → wpAny M A (Bytes.joinLetGo taken keep) Q E s
  | [], _, h => wpAny_pure h
  | (x, w) :: r, hn, h => by
    have e : w = none := hn (x, w) (.head _)
    subst e
    unfold Bytes.joinLetGo
    dsimp only
    refine wpAny_bind (wpAny_letGo ?_)
    exact wpAny_joinLetGo (fun p hp => hn p (.tail _ hp)) h
theorem meets_join {D : Addr} {vs : List Value} {bs : List (Array UInt8)} {t0 : Tok} (hb : BytesAre vs bs) (hz : (flatB bs).size ≤ 100000) :
    Meets («bytes.join» ⟨[.bytes #[] t0, .ref D], []⟩) (fun _ R s => s.heap.IsList D vs.toArray ∧ ∀ t k, R (.ok (.ret (.bytes (flatB bs) t))) { s with toks := k }) := by
  refine .of_wp fun prog w A R s hS => ?_
  obtain ⟨hl, h⟩ := hS
  have hT : s.TypeIs (.ref D) "list" := hl.typeIs
  obtain ⟨ol, hol, hoc, nl, hod⟩ := id hl
  unfold «bytes.join» Bytes.joinM
  refine wpAny_bind (wpAny_of_eq (a := (Value.bytes #[] t0, Value.ref D)) rfl ?_)
  refine wpAny_bind ?_
  unfold Bytes.joinItems
  refine wpAny_bind (wpAny_typeOf hT ?_)
  refine bm_if_true rfl ?_
  refine wpAny_pure ?_
  refine wpAny_bind (wpAny_seqItems hol hod ?_)
  dsimp only
  refine bm_if_true rfl ?_
  rcases vs with _ | ⟨v, _ | ⟨v2, r⟩⟩
  rotate_left
  · cases hb with
    | cons b t hb =>
      cases hb
      refine wpAny_bind (wpAny_of_eq (a := Value.type "bytes") rfl ?_)
      refine bm_if_true rfl ?_
      refine wpAny_bind (wpAny_rule ?_)
      have e : flatB [b] = b := by simp [flatB]
      rw [e] at h
      exact wpAny_pure ⟨_, rfl, h t s.toks⟩
  all_goals
    refine wpAny_bind ?_
    first | generalize (v :: v2 :: r) = vs at * | generalize ([] : List Value) = vs at *
    have hlen := hb.length
    rw [Std.Legacy.Range.forIn_eq_forIn_range']
    refine wpAny_forIn_list _ (fun rest st s' => s' = s ∧ ∃ i, i ≤ vs.length ∧ rest = List.range' i (vs.length - i) ∧ st.1 = (bs.take i).toArray ∧ ∀ p ∈ st.2, p.1.onHeap = false ∧ p.2 = none) _ ?_ ?_ _ _ ⟨rfl, 0, Nat.zero_le _, ?_, rfl, by simp⟩
    · rintro x rest st s' ⟨rfl, i, hi, hr, h1, h2⟩
      have hlt : i < vs.length := by
        rcases Nat.lt_or_ge i vs.length with q | q
        · exact q
        · have e : vs.length - i = 0 := by omega
          rw [e] at hr; cases hr
      have e : vs.length - i = (vs.length - (i + 1)) + 1 := by omega
      rw [e, List.range'_succ] at hr
      obtain ⟨rfl, rfl⟩ := List.cons.inj hr
      obtain ⟨b, t, hv, hbi⟩ := hb.at hlt
      refine wpAny_bind (wpAny_seqItems hol hod ?_)
      dsimp only
      have hx : vs.toArray.getD x Value.none = .bytes b t := by simp [Array.getD, hlt, hv]
      rw [hx]
      refine bm_if_false ?_ ?_
      · simp only [Bool.or_eq_false_iff, List.any_eq_false]
        exact ⟨by decide, fun p hp => by simp [(h2 p hp).1]⟩
      refine wpAny_bind (wpAny_holding (wpAny_of_eq take_eq ?_))
      dsimp only
      refine wpAny_bind (wpAny_seqItems hol hod ?_)
      dsimp only
      refine bm_if_false (by simp) ?_
      refine wpAny_pure ⟨rfl, x + 1, hlt, rfl, ?_, ?_⟩
      · rw [h1, List.take_add_one, hbi]; simp
      · intro p hp
        rcases List.mem_append.mp hp with q | q
        · exact h2 p q
        · rw [List.mem_singleton.mp q]; exact ⟨rfl, rfl⟩
    · rintro st s' ⟨rfl, i, hi, hr, h1, h2⟩
      have hi2 : i = vs.length := by
        have := congrArg List.length hr
        simp at this
        omega
      subst hi2
      rw [hlen, List.take_length] at h1
      refine wpAny_bind (wpAny_of_eq (a := #[]) rfl ?_)
      rw [h1]
      refine bm_if_false ?_ ?_
      · have e : Array.foldl (fun x1 (x2 : Array UInt8) => x1 + x2.size) ((#[] : Array UInt8).size * (bs.toArray.size - 1)) bs.toArray = (flatB bs).size := by
          have e0 : (#[] : Array UInt8).size * (bs.toArray.size - 1) = (#[] : Array UInt8).size := by simp
          rw [e0, List.foldl_toArray]
          exact size_from bs #[]
        rw [e]
        unfold Bytes.tooLong
        rw [PySem.sizeLine_eq]
        exact decide_eq_false (by omega)
      · refine wpAny_bind ?_
        show wpAny _ _ (mkBytes (Bytes.joined #[] bs.toArray.toList)) _ _ _
        rw [joined_eq, List.toList_toArray]
        refine wpAny_mkBytes ?_ (by rw [PySem.sizeLine_eq]; omega)
        refine wpAny_bind (wpAny_holding (wpAny_point ?_))
        refine wpAny_bind (wpAny_joinLetGo (fun p hp => (h2 p hp).2) ?_)
        exact wpAny_pure ⟨_, rfl, h _ _⟩
    · simp
theorem call_join {prog : Program} {w : World} {A : Around} {E : Value → Shared → Prop} {s : Shared} {D : Addr} {vs : List Value} {bs : List (Array UInt8)} {t0 : Tok} {Q : Value → Shared → Prop} (hl : s.heap.IsList D vs.toArray) (hb : BytesAre vs bs) (hz : (flatB bs).size ≤ 100000) (h : ∀ t k, Q (.bytes (flatB bs) t) { s with toks := k }) :
    wpAny (model prog w) A (call (.builtin "bytes.join") [.bytes #[] t0, .ref D]) Q E s :=
  call_meets slot_bytes_join (typeIs_bytes _ _ _) entry_bytes_join (args_bytes_join_2 _ _) (meets_join hb hz) ⟨hl, h⟩
theorem join_method {M : Model} {A : Around} {E : Value → Shared → Prop} {s : Shared} {b : Array UInt8} {t : Tok} {pl : Sem Bool} {Q : Value × List Value → Shared → Prop} (h : Q (.builtin "bytes.join", [.bytes b t]) s) : wpAny M A (getMethod (.bytes b t) "join" pl) Q E s := by
  with_reducible exact KBd.method_of (.bytes b t) (typeIs_bytes _ _ _) slot_bytes_join type_bytes_join KBd.noRef h
/-- i pieces of two bytes -/
def Pairs (ys : List Value) (i : Nat) : Prop := ∃ bs, BytesAre ys bs ∧ bs.length = i ∧ ∀ b ∈ bs, b.size = 2
theorem Pairs.nil : Pairs [] 0 := ⟨[], .nil, rfl, fun _ h => nomatch h⟩
theorem Pairs.snoc {ys : List Value} {i : Nat} {x y : UInt8} {t : Tok} (h : Pairs ys i) : Pairs (ys ++ [.bytes #[x, y] t]) (i + 1) := by
  obtain ⟨bs, a, b, c⟩ := h
  refine ⟨bs ++ [#[x, y]], a.snoc, by rw [List.length_append, List.length_singleton, b], fun z hz => ?_⟩
  rcases List.mem_append.mp hz with h | h
  · exact c z h
  · rw [List.mem_singleton.mp h]; rfl
theorem flat_size : ∀ (bs : List (Array UInt8)) (a : Array UInt8), (∀ b ∈ bs, b.size = 2) → (bs.foldl (· ++ ·) a).size = a.size + 2 * bs.length
  | [], _, _ => rfl
  | b :: r, a, h => by
    rw [List.foldl_cons, flat_size r _ (fun x hx => h x (.tail _ hx)), Array.size_append, h b (.head _), List.length_cons]
    omega
theorem join_pairs {prog : Program} {w : World} {A : Around} {E : Value → Shared → Prop} {s : Shared} {D : Addr} {vs : List Value} {n : Nat} {t0 : Tok} {Q : Value → Shared → Prop} (hl : s.heap.IsList D vs.toArray) (hb : Pairs vs n) (hn : n ≤ 100) (h : ∀ bb ks t k, KBw.bInts bb = ks → ks.length ≤ 200 → Q (.bytes bb t) { s with toks := k }) :
    wpAny (model prog w) A (call (.builtin "bytes.join") [.bytes #[] t0, .ref D]) Q E s := by
  obtain ⟨bs, a, b, c⟩ := hb
  have z : (flatB bs).size = 2 * bs.length := by
    unfold flatB
    rw [flat_size bs #[] c]; simp
  exact call_join hl a (by omega) fun t k => h _ _ t k rfl (by rw [KBw.ints_length]; omega)
theorem by_ints {b : Array UInt8} {ks : List Int} (h : KBw.bInts b = ks) : ∀ k ∈ ks, 0 ≤ k ∧ k < 256 := by
  subst h; exact fun k h => KBw.ints_in h
theorem lead_ints (n : Nat) : (KBw.bInts (List.replicate n [(1 : UInt8)]).flatten.toArray).length = n := by
  rw [KBw.ints_length, List.size_toArray, List.length_flatten]
  simp
theorem add_lead {prog : Program} {w : World} {A : Around} {E : Value → Shared → Prop} {s : Shared} {d : Int} {bb : Array UInt8} {ks : List Int} {t1 t2 : Tok} {Q : Value → Shared → Prop} (hk : KBw.bInts bb = ks) (hz : ks.length ≤ 200) (hd : d ≤ 2) (h0 : 0 ≤ d) (h : ∀ lb ls zs t k, (ls.length : Int) = d → KBw.bInts lb = zs → zs = ls ++ ks → zs.length ≤ 300 → Q (.bytes lb t) { s with toks := k }) :
    wpAny (model prog w) A (binaryOp .Add (.bytes (List.replicate d.toNat [(1 : UInt8)]).flatten.toArray t1) (.bytes bb t2)) Q E s := by
  have hl := lead_ints d.toNat
  obtain ⟨ls, els⟩ : ∃ ls, KBw.bInts (List.replicate d.toNat [(1 : UInt8)]).flatten.toArray = ls := ⟨_, rfl⟩
  rw [els] at hl
  refine KBa.add_K els hk (by omega) ?_
  intros
  refine h _ ls _ _ _ (by omega) (by assumption) rfl (by rw [List.length_append]; omega)
theorem len_lead {prog : Program} {w : World} {A : Around} {E : Value → Shared → Prop} {s : Shared} {d : Int} {t : Tok} {Q : Value → Shared → Prop} (h0 : 0 ≤ d) (hd : d ≤ 2) (h : Q (.int d (s.toks + 1)) { s with toks := s.toks + 1 + 1 }) :
    wpAny (model prog w) A (call (.builtin "len") [.bytes (List.replicate d.toNat [(1 : UInt8)]).flatten.toArray t]) Q E s := by
  have hl := lead_ints d.toNat
  refine KBw.len_K rfl (by omega) ?_
  rw [hl]
  have e : ((d.toNat : Nat) : Int) = d := by omega
  rw [e]
  exact h
end
end
section
theorem rT60_0 : True := by
  k_with_none
  k_with "ne" => (refine neN ?_; (try dsimp only); first | with_reducible assumption | exact Ne.symm (by with_reducible assumption) | exact off_ne (by with_reducible assumption) (by k_mem) | exact Ne.symm (off_ne (by with_reducible assumption) (by k_mem)) | exact off_i (by with_reducible assumption) (by k_mem) | exact off_c (by with_reducible assumption) (by k_mem) | exact off_d (by with_reducible assumption) (by k_mem) | exact Ne.symm (off_i (by with_reducible assumption) (by k_mem)) | exact Ne.symm (off_c (by with_reducible assumption) (by k_mem)) | exact Ne.symm (off_d (by with_reducible assumption) (by k_mem)) | exact Ne3.a (by with_reducible assumption) | exact Ne3.b (by with_reducible assumption) | exact Ne3.c (by with_reducible assumption) | exact Ne.symm (Ne3.a (by with_reducible assumption)) | exact Ne.symm (Ne3.b (by with_reducible assumption)) | exact Ne.symm (Ne3.c (by with_reducible assumption)) | exact NeA.ne (by with_reducible assumption) | exact Ne.symm (NeA.ne (by with_reducible assumption)) | exact Nat.ne_of_lt (by with_reducible assumption) | exact Nat.ne_of_gt (by with_reducible assumption) | exact Nat.ne_of_lt (And.left (by with_reducible assumption)) | exact Nat.ne_of_gt (And.left (by with_reducible assumption)) | exact Nat.ne_of_lt (And.left (And.right (by with_reducible assumption))) | exact Nat.ne_of_gt (And.left (And.right (by with_reducible assumption))) | exact Nat.ne_of_lt (And.right (by with_reducible assumption)) | exact Nat.ne_of_gt (And.right (by with_reducible assumption)) | exact Nat.ne_of_lt (And.right (And.right (by with_reducible assumption))) | exact Nat.ne_of_gt (And.right (And.right (by with_reducible assumption))) | exact Nat.ne_of_lt (And.left (And.right (And.right (by with_reducible assumption)))) | exact Nat.ne_of_gt (And.left (And.right (And.right (by with_reducible assumption)))))
  k_with "M enter" => (refine' enterM ?k1z9 ?k2z9 ?k3z9 ?k4z9 ?k5z9 ?kAz9 ?kFz9 ?kKz9 ?k6z9 ?k7z9 ?k8z9 ?k9z9 ?kBz9 ?_ ?c2z9 ?c3z9 ?c4z9 ?c5z9; (case kAz9 => exact rfl); (case kFz9 => exact rfl); (case kKz9 => assumption); (case k1z9 => k_asm); (case k2z9 => k_asm); (case k3z9 => k_asm); (case k4z9 => k_asm); (case k5z9 => k_asm); (case k6z9 => k_is); (case k7z9 => k_is); (case k8z9 => ktr_room); (case k9z9 => first | exact BindsTo.of_eq rfl | exact binds_K (by k_in) rfl (by k_is) rfl rfl rfl); (case c5z9 => decide); (case kBz9 => exact locs rfl); (case c2z9 => exact rfl); (case c3z9 => exact rfl); (case c4z9 => exact rfl); k_whole; intro g' L' h' tk' K' G' FG' F' N' B' X' T' l1 l2; (try k_lt l1); (try dsimp only); (try k_lift B'); (try k_fold))
  k_with "M enter0" => (refine' enterM ?k1z9 ?k2z9 ?k3z9 ?k4z9 ?k5z9 ?kAz9 ?kFz9 ?kKz9 ?k6z9 ?k7z9 ?k8z9 ?k9z9 ?kBz9 ?_ ?c2z9 ?c3z9 ?c4z9 ?c5z9; (case kAz9 => exact rfl); (case kFz9 => exact rfl); (case kKz9 => assumption); (case k1z9 => k_asm); (case k2z9 => k_asm); (case k3z9 => k_asm); (case k4z9 => k_asm); (case k5z9 => k_asm); (case k6z9 => k_is); (case k7z9 => k_is); (case k8z9 => ktr_room); (case k9z9 => first | exact BindsTo.of_eq rfl | exact binds_K (by k_in) rfl (by k_is) rfl rfl rfl); (case c5z9 => decide); (case kBz9 => exact locs rfl); (case c2z9 => exact rfl); (case c3z9 => exact rfl); (case c4z9 => exact rfl); k_whole)
  k_with "M ar" => (first | with_reducible assumption | decide | omega | (simp [List.getD]; done) | (simp [List.getD]; omega))
  k_with "M keep" => (rename Kept _ _ [] => K7; (have F' := Kept.fr (by k_asm) K7); (have N' := Kept.news (by k_asm) K7); clear K7; (try dsimp only); (try k_sweep))
  k_with "M enterC" => (refine' enterMC ?k1z9 ?k2z9 ?k3z9 ?k4z9 ?k5z9 ?kAz9 ?kFz9 ?kKz9 ?k6z9 ?k7z9 ?k8z9 ?k9z9 ?kBz9 ?kDz9 ?_ ?c2z9 ?c3z9 ?c4z9; (case kAz9 => exact rfl); (case kFz9 => exact rfl); (case kKz9 => assumption); (case k1z9 => k_asm); (case k2z9 => k_asm); (case k3z9 => k_asm); (case k4z9 => k_asm); (case k5z9 => k_asm); (case k6z9 => k_is); (case k7z9 => k_is); (case k8z9 => ktr_room); (case k9z9 => first | exact BindsTo.of_eq rfl | exact binds_K (by k_in) rfl (by k_is) rfl rfl rfl); (case kBz9 => exact rfl); (case kDz9 => decide +kernel); (case c2z9 => exact rfl); (case c3z9 => exact rfl); (case c4z9 => exact rfl); k_whole; intro g' L' h' tk' cells' K' G' FG' F' N' Y' B' X' T' l1 l2; (try k_lt l1); k_cells Y'; (try simp only [List.cons_append, List.nil_append] at N'); (try dsimp only); (try k_lift B'); (try k_fold))
  k_with "M enterC0" => (refine' enterMC ?k1z9 ?k2z9 ?k3z9 ?k4z9 ?k5z9 ?kAz9 ?kFz9 ?kKz9 ?k6z9 ?k7z9 ?k8z9 ?k9z9 ?kBz9 ?kDz9 ?_ ?c2z9 ?c3z9 ?c4z9; (case kAz9 => exact rfl); (case kFz9 => exact rfl); (case kKz9 => assumption); (case k1z9 => k_asm); (case k2z9 => k_asm); (case k3z9 => k_asm); (case k4z9 => k_asm); (case k5z9 => k_asm); (case k6z9 => k_is); (case k7z9 => k_is); (case k8z9 => ktr_room); (case k9z9 => first | exact BindsTo.of_eq rfl | exact binds_K (by k_in) rfl (by k_is) rfl rfl rfl); (case kBz9 => exact rfl); (case kDz9 => decide +kernel); (case c2z9 => exact rfl); (case c3z9 => exact rfl); (case c4z9 => exact rfl); k_whole)
  exact trivial
section
variable {zs ls ks : List Int} {a : Int}
theorem getD_shift (hz : zs = ls ++ ks) (hl : (ls.length : Int) = a) {i : Int} (hi : 0 ≤ i) : zs.getD (a + i).toNat 0 = ks.getD i.toNat 0 := by
  subst hz
  have e : (a + i).toNat = ls.length + i.toNat := by omega
  rw [e, List.getD_eq_getElem?_getD, List.getD_eq_getElem?_getD, List.getElem?_append_right (by omega), Nat.add_sub_cancel_left]
theorem n2_shift (hz : zs = ls ++ ks) (hl : (ls.length : Int) = a) {i : Int} (hi : 0 ≤ i) : n2 zs (a + i) = n2 ks i := by
  unfold n2
  rw [getD_shift hz hl hi, show a + i + 1 = a + (i + 1) by omega, getD_shift hz hl (by omega)]
theorem nums_shift (hz : zs = ls ++ ks) (hl : (ls.length : Int) = a) : ∀ (n : Nat) {i : Int}, 0 ≤ i → nums zs (a + i) n = nums ks i n
  | 0, _, _ => rfl
  | n + 1, i, hi => by
    rw [nums, nums, n2_shift hz hl hi, show a + i + 2 = a + (i + 2) by omega, nums_shift hz hl n (by omega)]
theorem segC_shift (hz : zs = ls ++ ks) (hl : (ls.length : Int) = a) : segC zs a = segC ks 0 := by
  unfold segC
  rw [show a + 2 + 2 + 2 = a + 6 by omega, n2_shift hz hl (by omega)]; rfl
theorem endsAt_shift : endsAt a = a + endsAt 0 := by unfold endsAt; omega
theorem startsAt_shift (hz : zs = ls ++ ks) (hl : (ls.length : Int) = a) : startsAt zs a = a + startsAt ks 0 := by
  unfold startsAt; rw [segC_shift hz hl, endsAt_shift]; omega
theorem deltasAt_shift (hz : zs = ls ++ ks) (hl : (ls.length : Int) = a) : deltasAt zs a = a + deltasAt ks 0 := by
  unfold deltasAt; rw [segC_shift hz hl, startsAt_shift hz hl]; omega
theorem offsAt_shift (hz : zs = ls ++ ks) (hl : (ls.length : Int) = a) : offsAt zs a = a + offsAt ks 0 := by
  unfold offsAt; rw [segC_shift hz hl, deltasAt_shift hz hl]; omega
theorem segC_pos (hby : ∀ k ∈ ks, 0 ≤ k ∧ k < 256) : 0 ≤ segC ks 0 := fdiv_pos (n2_bd hby _).1
theorem starts_pos (h : 0 ≤ segC ks 0) : 0 ≤ startsAt ks 0 := by unfold startsAt endsAt; omega
theorem deltas_pos (h : 0 ≤ segC ks 0) : 0 ≤ deltasAt ks 0 := by have := starts_pos h; unfold deltasAt; omega
theorem offs_pos0 (h : 0 ≤ segC ks 0) : 0 ≤ offsAt ks 0 := by have := deltas_pos h; unfold offsAt; omega
theorem es_shift (hz : zs = ls ++ ks) (hl : (ls.length : Int) = a) : esOf zs a = esOf ks 0 := by
  unfold esOf; rw [segC_shift hz hl, endsAt_shift]; exact nums_shift hz hl _ (by decide)
theorem ss_shift (hz : zs = ls ++ ks) (hl : (ls.length : Int) = a) (h : 0 ≤ segC ks 0) : ssOf zs a = ssOf ks 0 := by
  unfold ssOf; rw [segC_shift hz hl, startsAt_shift hz hl]; exact nums_shift hz hl _ (starts_pos h)
theorem ds_shift (hz : zs = ls ++ ks) (hl : (ls.length : Int) = a) (h : 0 ≤ segC ks 0) : dsOf zs a = dsOf ks 0 := by
  unfold dsOf; rw [segC_shift hz hl, deltasAt_shift hz hl]; exact nums_shift hz hl _ (deltas_pos h)
theorem os_shift (hz : zs = ls ++ ks) (hl : (ls.length : Int) = a) (h : 0 ≤ segC ks 0) : osOf zs a = osOf ks 0 := by
  unfold osOf; rw [segC_shift hz hl, offsAt_shift hz hl]; exact nums_shift hz hl _ (offs_pos0 h)
theorem len_shift (hz : zs = ls ++ ks) (hl : (ls.length : Int) = a) : (zs.length : Int) = a + ks.length := by
  subst hz; rw [List.length_append]; omega
theorem count_shift (hz : zs = ls ++ ks) (hl : (ls.length : Int) = a) : CountOk zs a ↔ CountOk ks 0 := by
  unfold CountOk
  rw [show a + 2 + 2 + 2 = a + 6 by omega, n2_shift hz hl (by omega), n2_shift hz hl (by omega), len_shift hz hl]
  show _ ↔ n2 ks 6 ≠ 0 ∧ (n2 ks 6).fmod 2 ≠ 1 ∧ 0 + 16 + 4 * n2 ks 6 ≤ 0 + n2 ks 2 ∧ 0 + n2 ks 2 ≤ ks.length
  constructor <;> rintro ⟨h1, h2, h3, h4⟩ <;> exact ⟨h1, h2, by omega, by omega⟩
theorem zero_shift (hz : zs = ls ++ ks) (hl : (ls.length : Int) = a) : n2 zs a = n2 ks 0 := by
  have := n2_shift hz hl (i := 0) (by omega)
  rwa [Int.add_zero] at this
theorem headOk_shift (hz : zs = ls ++ ks) (hl : (ls.length : Int) = a) (h : HeadOk zs a) : HeadOk ks 0 := by
  have z0 := zero_shift hz hl
  have zl := len_shift hz hl
  obtain ⟨h1, h2, h3⟩ := h
  exact ⟨by omega, by omega, (count_shift hz hl).mp h3⟩
theorem headFault_shift (hz : zs = ls ++ ks) (hl : (ls.length : Int) = a) {n : Int} (h : HeadFault zs a n) : HeadFault ks 0 (n - a) := by
  have z0 := zero_shift hz hl
  have zl := len_shift hz hl
  have zc := count_shift hz hl
  unfold HeadFault at h ⊢
  rw [z0, zl, zc] at h
  rcases h with h | h | h | h | ⟨h1, h2, h3, h4⟩
  · exact .inl (by omega)
  · exact .inr (.inl (by omega))
  · exact .inr (.inr (.inl (by omega)))
  · exact .inr (.inr (.inr (.inl (by omega))))
  · exact .inr (.inr (.inr (.inr ⟨by omega, h2, h3, by omega⟩)))
theorem fault_shift (hz : zs = ls ++ ks) (hl : (ls.length : Int) = a) (h0 : 0 ≤ segC ks 0) {n : Int} (h : ReadFault zs a n) : ReadFault ks 0 (n - a) := by
  rcases h with h | ⟨h1, h2⟩
  · exact .inl (headFault_shift hz hl h)
  · refine .inr ⟨headOk_shift hz hl h1, ?_⟩
    rw [es_shift hz hl, ss_shift hz hl h0, endsAt_shift, startsAt_shift hz hl] at h2
    rcases h2 with ⟨i, a1, a2, a3, a4⟩ | ⟨a1, a2, a3⟩
    · exact .inl ⟨i, a1, a2, a3, by omega⟩
    · exact .inr ⟨a1, a2, by omega⟩
theorem head_not {n : Int} (h : HeadFault ks 0 n) (k : HeadOk ks 0) : False := by
  obtain ⟨k1, k2, k3⟩ := k
  unfold HeadFault at h
  rcases h with h | h | h | h | h
  · omega
  · omega
  · omega
  · omega
  · exact h.2.2.1 k3
theorem seg_not {es ss : List Int} {ea sa n : Int} (h : SegFault es ss ea sa n) (k : SegOk es ss es.length) (z : prevE es es.length = 65535) : False := by
  rcases h with ⟨i, a1, _, a3, _⟩ | ⟨_, a2, _⟩
  · exact a3 (k i a1)
  · exact a2 z
theorem seg_det {es ss : List Int} {ea sa n m : Int} (h : SegFault es ss ea sa n) (k : SegFault es ss ea sa m) : n = m := by
  rcases h with ⟨i, a1, a2, a3, a4⟩ | ⟨a1, _, a3⟩
  · rcases k with ⟨j, b1, b2, b3, b4⟩ | ⟨b1, _, _⟩
    · rcases Nat.lt_trichotomy i j with q | q | q
      · exact absurd (b2 i q) a3
      · subst q; omega
      · exact absurd (a2 j q) b3
    · exact absurd (b1 i a1) a3
  · rcases k with ⟨j, b1, b2, b3, b4⟩ | ⟨_, _, b3⟩
    · exact absurd (a1 j b1) b3
    · omega
theorem fault_det {n m : Int} (h : ReadFault ks 0 n) (k : ReadFault ks 0 m) : n = m := by
  rcases h with h | ⟨h1, h2⟩
  · rcases k with k | ⟨k1, _⟩
    · unfold HeadFault at h k; omega
    · exact (head_not h k1).elim
  · rcases k with k | ⟨_, k2⟩
    · exact (head_not k h1).elim
    · exact seg_det h2 k2
theorem fault_not {n : Int} (h : ReadFault ks 0 n) (k : HeadOk ks 0) (k2 : SegOk (esOf ks 0) (ssOf ks 0) (esOf ks 0).length) (z : prevE (esOf ks 0) (esOf ks 0).length = 65535) : False := by
  rcases h with h | ⟨_, h2⟩
  · exact head_not h k
  · exact seg_not h2 k2 z
/-- what the law asks of two faults -/
theorem faults_same {n m : Int} (hz : zs = ls ++ ks) (hl : (ls.length : Int) = a) (hby : ∀ k ∈ ks, 0 ≤ k ∧ k < 256) (h : ReadFault zs a n) (k : ReadFault ks 0 m) : n - a = m := fault_det (fault_shift hz hl (segC_pos hby) h) k
theorem fault_codes {n : Int} (hz : zs = ls ++ ks) (hl : (ls.length : Int) = a) (hby : ∀ k ∈ ks, 0 ≤ k ∧ k < 256) (h : ReadFault zs a n) (k : HeadOk ks 0) (k2 : SegOk (esOf ks 0) (ssOf ks 0) (esOf ks 0).length) (z : prevE (esOf ks 0) (esOf ks 0).length = 65535) : False := fault_not (fault_shift hz hl (segC_pos hby) h) k k2 z
theorem codes_fault {m : Int} (hz : zs = ls ++ ks) (hl : (ls.length : Int) = a) (hby : ∀ k ∈ ks, 0 ≤ k ∧ k < 256) (k : HeadOk zs a) (k2 : SegOk (esOf zs a) (ssOf zs a) (esOf zs a).length) (z : prevE (esOf zs a) (esOf zs a).length = 65535) (h : ReadFault ks 0 m) : False := by
  rw [es_shift hz hl, ss_shift hz hl (segC_pos hby)] at k2
  rw [es_shift hz hl] at z
  exact fault_not h (headOk_shift hz hl k) k2 z
end
theorem rangeKs_snoc (s : Int) (n : Nat) : rangeKs s (n + 1) = rangeKs s n ++ [s + (n : Int)] := by simp [rangeKs, List.range_succ]
/-- keys that ascend, all below b -/
def Asc (c : List (Int × Int)) (b : Int) : Prop := c.Pairwise (fun p q => p.1 < q.1) ∧ ∀ p ∈ c, p.1 < b
theorem put_new {c : List (Int × Int)} {k v : Int} (h : ∀ p ∈ c, p.1 < k) : kdfPut c k v = c ++ [(k, v)] := by
  unfold kdfPut
  rw [if_neg]
  rw [Bool.not_eq_true, List.any_eq_false]
  intro p hp
  have := h p hp
  simp only [decide_eq_true_eq]
  omega
theorem Asc.snoc {c : List (Int × Int)} {b k v : Int} (h : Asc c b) (hk : b ≤ k) : Asc (c ++ [(k, v)]) (k + 1) := by
  refine ⟨List.pairwise_append.mpr ⟨h.1, List.pairwise_singleton _ _, fun p hp q hq => ?_⟩, fun p hp => ?_⟩
  · rw [List.mem_singleton.mp hq]; have := h.2 p hp; show p.1 < k; omega
  · rcases List.mem_append.mp hp with q | q
    · have := h.2 p q; omega
    · rw [List.mem_singleton.mp q]; show k < k + 1; omega
theorem Asc.mono {c : List (Int × Int)} {b d : Int} (h : Asc c b) (hd : b ≤ d) : Asc c d := ⟨h.1, fun p hp => by have := h.2 p hp; omega⟩
theorem put_all : ∀ (ps c : List (Int × Int)), (c ++ ps).Pairwise (fun p q => p.1 < q.1) → putAll c ps = c ++ ps
  | [], c, _ => by simp [putAll]
  | p :: r, c, h => by
    have e : kdfPut c p.1 p.2 = c ++ [p] := put_new fun q hq => (List.pairwise_append.mp h).2.2 q hq p (.head _)
    have key := put_all r (c ++ [p]) (by rw [List.append_assoc]; exact h)
    rw [List.append_assoc] at key
    show putAll (kdfPut c p.1 p.2) r = _
    rw [e, key]; rfl
section
variable {ks es ss ds os : List Int} {oa en : Int} {G : Int → Int → Int}
theorem seg_both {i s : Int} {c : List (Int × Int)} (hc : Asc c s) : ∀ (n : Nat), (∀ k ∈ rangeKs s n, glyphAt ks ss ds os oa en i k = G i k) →
    Asc (gSeg G i c (rangeKs s n)) (s + n) ∧ fillSeg ks ss ds os oa en i (c.filter nz) (rangeKs s n) = (gSeg G i c (rangeKs s n)).filter nz
  | 0, _ => by
    refine ⟨?_, rfl⟩
    have e : s + ((0 : Nat) : Int) = s := by omega
    rw [e]; exact hc
  | n + 1, h => by
    rw [rangeKs_snoc] at h ⊢
    obtain ⟨a, b⟩ := seg_both hc n (fun k hk => h k (List.mem_append_left _ hk))
    have hg := h (s + n) (List.mem_append_right _ (.head _))
    have e1 : gSeg G i c (rangeKs s n ++ [s + (n : Int)]) = gSeg G i c (rangeKs s n) ++ [(s + (n : Int), G i (s + n))] := by
      unfold gSeg
      rw [List.foldl_append]
      exact put_new a.2
    have e2 : fillSeg ks ss ds os oa en i (c.filter nz) (rangeKs s n ++ [s + (n : Int)]) = put1 (fillSeg ks ss ds os oa en i (c.filter nz) (rangeKs s n)) (s + n) (glyphAt ks ss ds os oa en i (s + n)) := by
      unfold fillSeg
      rw [List.foldl_append]; rfl
    rw [e1, e2, b, hg]
    refine ⟨?_, ?_⟩
    · have := a.snoc (v := G i (s + n)) (Int.le_refl _)
      have e : s + ((n + 1 : Nat) : Int) = s + n + 1 := by omega
      rw [e]; exact this
    · rw [List.filter_append]
      unfold put1
      split
      · rename_i hz
        simp [nz, hz]
      · rename_i hz
        rw [put_new fun p hp => a.2 p (List.mem_filter.mp hp).1]
        simp [nz, hz]
theorem all_both (hs : SegOk es ss es.length) : ∀ (n : Nat), n ≤ es.length → (∀ i : Nat, i < n → ∀ k ∈ segCodes es ss i, glyphAt ks ss ds os oa en i k = G i k) →
    Asc (gAll G es ss (rangeKs 0 n)) (prevE es n + 1) ∧ fillAll ks es ss ds os oa en (rangeKs 0 n) = (gAll G es ss (rangeKs 0 n)).filter nz
  | 0, _, _ => ⟨⟨List.Pairwise.nil, fun _ h => nomatch h⟩, rfl⟩
  | n + 1, hn, h => by
    obtain ⟨a, b⟩ := all_both hs n (by omega) (fun i hi => h i (by omega))
    have st := hs n (by omega)
    have hh := h n (by omega)
    unfold segCodes at hh
    rw [Int.toNat_natCast] at hh
    have sb := seg_both (G := G) (i := (n : Int)) (a.mono (d := ss.getD n 0) (by have := st.1; omega)) _ hh
    rw [rangeKs_snoc]
    have e1 : gAll G es ss (rangeKs 0 n ++ [0 + (n : Int)]) = gSeg G n (gAll G es ss (rangeKs 0 n)) (segCodes es ss n) := by
      unfold gAll
      rw [List.foldl_append, Int.zero_add]; rfl
    have e2 : fillAll ks es ss ds os oa en (rangeKs 0 n ++ [0 + (n : Int)]) = fillSeg ks ss ds os oa en n (fillAll ks es ss ds os oa en (rangeKs 0 n)) (segCodes es ss n) := by
      unfold fillAll
      rw [List.foldl_append, Int.zero_add]; rfl
    rw [e1, e2, b]
    unfold segCodes
    rw [Int.toNat_natCast]
    refine ⟨sb.1.mono ?_, sb.2⟩
    rw [prevE_succ]
    have := st.2
    omega
end
theorem getD_nums {ks : List Int} {i0 : Int} {n i : Nat} (h : i < n) : (nums ks i0 n).getD i 0 = n2 ks (i0 + 2 * (i : Int)) := nums_get ks n i0 i h
theorem glyph_same {zs ls ks : List Int} {a : Int} (hz : zs = ls ++ ks) (hl : (ls.length : Int) = a) (hby : ∀ k ∈ ks, 0 ≤ k ∧ k < 256) {i : Nat} (hi : i < (segC ks 0).toNat) {k : Int} (hk : k ∈ segCodes (esOf ks 0) (ssOf ks 0) i) :
    glyphAt zs (ssOf ks 0) (dsOf ks 0) (osOf ks 0) (a + offsAt ks 0) (a + n2 ks 2) i k = lawG ks (ssOf ks 0) (segC ks 0) i k := by
  have h0 := segC_pos hby
  have ed : (dsOf ks 0).getD (i : Int).toNat 0 = n2 ks (16 + 4 * segC ks 0 + 2 * (i : Int)) := by
    rw [Int.toNat_natCast]
    unfold dsOf
    rw [getD_nums hi]
    unfold deltasAt startsAt endsAt
    congr 1; omega
  have eo : (osOf ks 0).getD (i : Int).toNat 0 = n2 ks (16 + 6 * segC ks 0 + 2 * (i : Int)) := by
    rw [Int.toNat_natCast]
    unfold osOf
    rw [getD_nums hi]
    unfold offsAt deltasAt startsAt endsAt
    congr 1; omega
  have eoa : offsAt ks 0 = 16 + 6 * segC ks 0 := by unfold offsAt deltasAt startsAt endsAt; omega
  have hks : (ssOf ks 0).getD (i : Int).toNat 0 ≤ k := (mem_rangeKs hk).1
  have ho := n2_bd hby (16 + 6 * segC ks 0 + 2 * (i : Int))
  unfold glyphAt lawG
  rw [ed, eo, eoa]
  generalize hO : n2 ks (16 + 6 * segC ks 0 + 2 * (i : Int)) = O at *
  generalize n2 ks (16 + 4 * segC ks 0 + 2 * (i : Int)) = dl
  generalize (ssOf ks 0).getD (i : Int).toNat 0 = s0 at *
  by_cases hO0 : O = 0
  · rw [if_pos hO0, if_neg (by omega)]
  · rw [if_neg hO0, if_pos hO0]
    unfold arrG
    have ew : a + (16 + 6 * segC ks 0) + 2 * (i : Int) + O + 2 * (k - s0) = a + (16 + 6 * segC ks 0 + 2 * (i : Int) + O + 2 * (k - s0)) := by omega
    rw [ew, n2_shift hz hl (by omega)]
    generalize 16 + 6 * segC ks 0 + 2 * (i : Int) + O + 2 * (k - s0) = wh
    by_cases hw : wh + 2 ≤ n2 ks 2
    · rw [if_neg (by omega), if_pos hw]
    · rw [if_pos (by omega), if_neg hw, if_pos rfl]
/-- what the law asks of two dicts -/
theorem codes_same {zs ls ks : List Int} {a : Int} (hz : zs = ls ++ ks) (hl : (ls.length : Int) = a) (hby : ∀ k ∈ ks, 0 ≤ k ∧ k < 256) (k2 : SegOk (esOf ks 0) (ssOf ks 0) (esOf ks 0).length) :
    codesOf zs a = putAll [] ((gAll (lawG ks (ssOf ks 0) (segC ks 0)) (esOf ks 0) (ssOf ks 0) (rangeKs 0 (segC ks 0).toNat)).filter nz) := by
  have h0 := segC_pos hby
  unfold codesOf
  rw [es_shift hz hl, ss_shift hz hl h0, ds_shift hz hl h0, os_shift hz hl h0, offsAt_shift hz hl, segC_shift hz hl, n2_shift hz hl (by omega)]
  have le : (esOf ks 0).length = (segC ks 0).toNat := nums_len _ _ _
  obtain ⟨p, q⟩ := all_both (ks := zs) (ds := dsOf ks 0) (os := osOf ks 0) (oa := a + offsAt ks 0) (en := a + n2 ks 2) (G := lawG ks (ssOf ks 0) (segC ks 0)) k2 (segC ks 0).toNat (by omega) (fun i hi k hk => glyph_same hz hl hby hi hk)
  rw [q, put_all _ [] (by rw [List.nil_append]; exact p.1.filter _), List.nil_append]
end
section
theorem rT61_0 : True := by
  k_with_none
  k_with "ne" => (refine neN ?_; (try dsimp only); first | with_reducible assumption | exact Ne.symm (by with_reducible assumption) | exact off_ne (by with_reducible assumption) (by k_mem) | exact Ne.symm (off_ne (by with_reducible assumption) (by k_mem)) | exact off_i (by with_reducible assumption) (by k_mem) | exact off_c (by with_reducible assumption) (by k_mem) | exact off_d (by with_reducible assumption) (by k_mem) | exact Ne.symm (off_i (by with_reducible assumption) (by k_mem)) | exact Ne.symm (off_c (by with_reducible assumption) (by k_mem)) | exact Ne.symm (off_d (by with_reducible assumption) (by k_mem)) | exact Ne3.a (by with_reducible assumption) | exact Ne3.b (by with_reducible assumption) | exact Ne3.c (by with_reducible assumption) | exact Ne.symm (Ne3.a (by with_reducible assumption)) | exact Ne.symm (Ne3.b (by with_reducible assumption)) | exact Ne.symm (Ne3.c (by with_reducible assumption)) | exact NeA.ne (by with_reducible assumption) | exact Ne.symm (NeA.ne (by with_reducible assumption)) | exact Nat.ne_of_lt (by with_reducible assumption) | exact Nat.ne_of_gt (by with_reducible assumption) | exact Nat.ne_of_lt (And.left (by with_reducible assumption)) | exact Nat.ne_of_gt (And.left (by with_reducible assumption)) | exact Nat.ne_of_lt (And.left (And.right (by with_reducible assumption))) | exact Nat.ne_of_gt (And.left (And.right (by with_reducible assumption))) | exact Nat.ne_of_lt (And.right (by with_reducible assumption)) | exact Nat.ne_of_gt (And.right (by with_reducible assumption)) | exact Nat.ne_of_lt (And.right (And.right (by with_reducible assumption))) | exact Nat.ne_of_gt (And.right (And.right (by with_reducible assumption))) | exact Nat.ne_of_lt (And.left (And.right (And.right (by with_reducible assumption)))) | exact Nat.ne_of_gt (And.left (And.right (And.right (by with_reducible assumption)))))
  k_with "M enter" => (refine' enterM ?k1z9 ?k2z9 ?k3z9 ?k4z9 ?k5z9 ?kAz9 ?kFz9 ?kKz9 ?k6z9 ?k7z9 ?k8z9 ?k9z9 ?kBz9 ?_ ?c2z9 ?c3z9 ?c4z9 ?c5z9; (case kAz9 => exact rfl); (case kFz9 => exact rfl); (case kKz9 => assumption); (case k1z9 => k_asm); (case k2z9 => k_asm); (case k3z9 => k_asm); (case k4z9 => k_asm); (case k5z9 => k_asm); (case k6z9 => k_is); (case k7z9 => k_is); (case k8z9 => ktr_room); (case k9z9 => first | exact BindsTo.of_eq rfl | exact binds_K (by k_in) rfl (by k_is) rfl rfl rfl); (case c5z9 => decide); (case kBz9 => exact locs rfl); (case c2z9 => exact rfl); (case c3z9 => exact rfl); (case c4z9 => exact rfl); k_whole; intro g' L' h' tk' K' G' FG' F' N' B' X' T' l1 l2; (try k_lt l1); (try dsimp only); (try k_lift B'); (try k_fold))
  k_with "M enter0" => (refine' enterM ?k1z9 ?k2z9 ?k3z9 ?k4z9 ?k5z9 ?kAz9 ?kFz9 ?kKz9 ?k6z9 ?k7z9 ?k8z9 ?k9z9 ?kBz9 ?_ ?c2z9 ?c3z9 ?c4z9 ?c5z9; (case kAz9 => exact rfl); (case kFz9 => exact rfl); (case kKz9 => assumption); (case k1z9 => k_asm); (case k2z9 => k_asm); (case k3z9 => k_asm); (case k4z9 => k_asm); (case k5z9 => k_asm); (case k6z9 => k_is); (case k7z9 => k_is); (case k8z9 => ktr_room); (case k9z9 => first | exact BindsTo.of_eq rfl | exact binds_K (by k_in) rfl (by k_is) rfl rfl rfl); (case c5z9 => decide); (case kBz9 => exact locs rfl); (case c2z9 => exact rfl); (case c3z9 => exact rfl); (case c4z9 => exact rfl); k_whole)
  k_with "M ar" => (first | with_reducible assumption | decide | omega | (simp [List.getD]; done) | (simp [List.getD]; omega))
  k_with "M keep" => (rename Kept _ _ [] => K7; (have F' := Kept.fr (by k_asm) K7); (have N' := Kept.news (by k_asm) K7); clear K7; (try dsimp only); (try k_sweep))
  k_with "M enterC" => (refine' enterMC ?k1z9 ?k2z9 ?k3z9 ?k4z9 ?k5z9 ?kAz9 ?kFz9 ?kKz9 ?k6z9 ?k7z9 ?k8z9 ?k9z9 ?kBz9 ?kDz9 ?_ ?c2z9 ?c3z9 ?c4z9; (case kAz9 => exact rfl); (case kFz9 => exact rfl); (case kKz9 => assumption); (case k1z9 => k_asm); (case k2z9 => k_asm); (case k3z9 => k_asm); (case k4z9 => k_asm); (case k5z9 => k_asm); (case k6z9 => k_is); (case k7z9 => k_is); (case k8z9 => ktr_room); (case k9z9 => first | exact BindsTo.of_eq rfl | exact binds_K (by k_in) rfl (by k_is) rfl rfl rfl); (case kBz9 => exact rfl); (case kDz9 => decide +kernel); (case c2z9 => exact rfl); (case c3z9 => exact rfl); (case c4z9 => exact rfl); k_whole; intro g' L' h' tk' cells' K' G' FG' F' N' Y' B' X' T' l1 l2; (try k_lt l1); k_cells Y'; (try simp only [List.cons_append, List.nil_append] at N'); (try dsimp only); (try k_lift B'); (try k_fold))
  k_with "M enterC0" => (refine' enterMC ?k1z9 ?k2z9 ?k3z9 ?k4z9 ?k5z9 ?kAz9 ?kFz9 ?kKz9 ?k6z9 ?k7z9 ?k8z9 ?k9z9 ?kBz9 ?kDz9 ?_ ?c2z9 ?c3z9 ?c4z9; (case kAz9 => exact rfl); (case kFz9 => exact rfl); (case kKz9 => assumption); (case k1z9 => k_asm); (case k2z9 => k_asm); (case k3z9 => k_asm); (case k4z9 => k_asm); (case k5z9 => k_asm); (case k6z9 => k_is); (case k7z9 => k_is); (case k8z9 => ktr_room); (case k9z9 => first | exact BindsTo.of_eq rfl | exact binds_K (by k_in) rfl (by k_is) rfl rfl rfl); (case kBz9 => exact rfl); (case kDz9 => decide +kernel); (case c2z9 => exact rfl); (case c3z9 => exact rfl); (case c4z9 => exact rfl); k_whole)
  exact trivial
theorem look_self {c : List (Int × Int)} (hn : (c.map (·.1)).Nodup) {k v : Int} (h : (k, v) ∈ c) : PySem.Spec.lookup (.int k) (kdfD c) = some (.int v) := by
  induction c with
  | nil => exact nomatch h
  | cons p r ih =>
    show (if PySem.Spec.same (.int p.1) (.int k) then some (PyData.int p.2) else PySem.Spec.lookup (.int k) (kdfD r)) = _
    rw [PyProof.V.same_int]
    rw [List.map_cons, List.nodup_cons] at hn
    rcases List.mem_cons.mp h with e | h
    · rw [← e]; simp
    · have ne : p.1 ≠ k := fun e => hn.1 (e ▸ List.mem_map_of_mem (f := (·.1)) h)
      rw [if_neg (by simpa using ne)]
      exact ih hn.2 h
theorem rows_from {c : List (Int × Int)} (hn : (c.map (·.1)).Nodup) : ∀ (r : List (Int × Int)), (∀ p ∈ r, p ∈ c) → KeqRows (kdfD c) (kdfD r) true
  | [], _ => KeqRows.nil
  | p :: r, h => by
    have e := KeqRows.hit (k := .int p.1) (v := .int p.2) (u := .int p.2) (look_self hn (h p (.head _))) (rows_from hn r (fun q hq => h q (.tail _ hq)))
    have e2 : (PyData.eqv (.int p.2) (.int p.2) && true) = true := by simp [PyData.eqv]
    rw [e2] at e
    exact e
theorem rows_self {c : List (Int × Int)} (hn : (c.map (·.1)).Nodup) : KeqRows (kdfD c) (kdfD c) true := rows_from hn c fun _ h => h
section
variable {prog : Program} {w : World} {A : Around} {E : Value → Shared → Prop} {s : Shared} {h₀ : Heap} {L a b : Addr} {oa ob : Obj} {news : List (Addr × Obj)} {ka kb : List (Int × Value)} {c : List (Int × Int)} {Q : Value → Shared → Prop}
theorem ne_same (N : News h₀ L s.heap news) (pa : (a, oa) ∈ news) (pb : (b, ob) ∈ news) (da : oa.IsDictOf (PySem.intKind prog w) ka) (db : ob.IsDictOf (PySem.intKind prog w) kb) (la : (a == sysModules) = false) (lb : (b == sysModules) = false)
    (fa : PyProof.V.FlatPairs PyData.int ka (kdfD c)) (fb : PyProof.V.FlatPairs PyData.int kb (kdfD c)) (hu : A.units < cLine) (h : Q (.bool false) s) : wpAny (model prog w) A (compareOp .NotEq (.ref a) (.ref b)) Q E s := by
  have hn : (c.map (·.1)).Nodup := by
    rw [← flat_keys fa]
    exact keysNodup_of_isDictOf da
  exact kne_tabs (knd := PySem.intKind prog w) (enc := PyData.int) PyProof.V.same_int ⟨la, ka, Heap.dictOf_iff.mpr ⟨oa, (N _ pa).1, da⟩, fa⟩ ⟨lb, kb, Heap.dictOf_iff.mpr ⟨ob, (N _ pb).1, db⟩, fb⟩ rfl hu (rows_self hn) h
end
end
section
theorem rT50_0 : True := by
  k_with_none
  k_with "ne" => (refine neN ?_; (try dsimp only); first | with_reducible assumption | exact Ne.symm (by with_reducible assumption) | exact off_ne (by with_reducible assumption) (by k_mem) | exact Ne.symm (off_ne (by with_reducible assumption) (by k_mem)) | exact off_i (by with_reducible assumption) (by k_mem) | exact off_c (by with_reducible assumption) (by k_mem) | exact off_d (by with_reducible assumption) (by k_mem) | exact Ne.symm (off_i (by with_reducible assumption) (by k_mem)) | exact Ne.symm (off_c (by with_reducible assumption) (by k_mem)) | exact Ne.symm (off_d (by with_reducible assumption) (by k_mem)) | exact Ne3.a (by with_reducible assumption) | exact Ne3.b (by with_reducible assumption) | exact Ne3.c (by with_reducible assumption) | exact Ne.symm (Ne3.a (by with_reducible assumption)) | exact Ne.symm (Ne3.b (by with_reducible assumption)) | exact Ne.symm (Ne3.c (by with_reducible assumption)) | exact NeA.ne (by with_reducible assumption) | exact Ne.symm (NeA.ne (by with_reducible assumption)) | exact Nat.ne_of_lt (by with_reducible assumption) | exact Nat.ne_of_gt (by with_reducible assumption) | exact Nat.ne_of_lt (And.left (by with_reducible assumption)) | exact Nat.ne_of_gt (And.left (by with_reducible assumption)) | exact Nat.ne_of_lt (And.left (And.right (by with_reducible assumption))) | exact Nat.ne_of_gt (And.left (And.right (by with_reducible assumption))) | exact Nat.ne_of_lt (And.right (by with_reducible assumption)) | exact Nat.ne_of_gt (And.right (by with_reducible assumption)) | exact Nat.ne_of_lt (And.right (And.right (by with_reducible assumption))) | exact Nat.ne_of_gt (And.right (And.right (by with_reducible assumption))) | exact Nat.ne_of_lt (And.left (And.right (And.right (by with_reducible assumption)))) | exact Nat.ne_of_gt (And.left (And.right (And.right (by with_reducible assumption)))))
  k_with "M enter" => (refine' enterM ?k1z9 ?k2z9 ?k3z9 ?k4z9 ?k5z9 ?kAz9 ?kFz9 ?kKz9 ?k6z9 ?k7z9 ?k8z9 ?k9z9 ?kBz9 ?_ ?c2z9 ?c3z9 ?c4z9 ?c5z9; (case kAz9 => exact rfl); (case kFz9 => exact rfl); (case kKz9 => assumption); (case k1z9 => k_asm); (case k2z9 => k_asm); (case k3z9 => k_asm); (case k4z9 => k_asm); (case k5z9 => k_asm); (case k6z9 => k_is); (case k7z9 => k_is); (case k8z9 => ktr_room); (case k9z9 => first | exact BindsTo.of_eq rfl | exact binds_K (by k_in) rfl (by k_is) rfl rfl rfl); (case c5z9 => decide); (case kBz9 => exact locs rfl); (case c2z9 => exact rfl); (case c3z9 => exact rfl); (case c4z9 => exact rfl); k_whole; intro g' L' h' tk' K' G' FG' F' N' B' X' T' l1 l2; (try k_lt l1); (try dsimp only); (try k_lift B'); (try k_fold))
  k_with "M enter0" => (refine' enterM ?k1z9 ?k2z9 ?k3z9 ?k4z9 ?k5z9 ?kAz9 ?kFz9 ?kKz9 ?k6z9 ?k7z9 ?k8z9 ?k9z9 ?kBz9 ?_ ?c2z9 ?c3z9 ?c4z9 ?c5z9; (case kAz9 => exact rfl); (case kFz9 => exact rfl); (case kKz9 => assumption); (case k1z9 => k_asm); (case k2z9 => k_asm); (case k3z9 => k_asm); (case k4z9 => k_asm); (case k5z9 => k_asm); (case k6z9 => k_is); (case k7z9 => k_is); (case k8z9 => ktr_room); (case k9z9 => first | exact BindsTo.of_eq rfl | exact binds_K (by k_in) rfl (by k_is) rfl rfl rfl); (case c5z9 => decide); (case kBz9 => exact locs rfl); (case c2z9 => exact rfl); (case c3z9 => exact rfl); (case c4z9 => exact rfl); k_whole)
  k_with "M ar" => (first | with_reducible assumption | decide | omega | (simp [List.getD]; done) | (simp [List.getD]; omega))
  k_with "M keep" => (rename Kept _ _ [] => K7; (have F' := Kept.fr (by k_asm) K7); (have N' := Kept.news (by k_asm) K7); clear K7; (try dsimp only); (try k_sweep))
  k_with "M enterC" => (refine' enterMC ?k1z9 ?k2z9 ?k3z9 ?k4z9 ?k5z9 ?kAz9 ?kFz9 ?kKz9 ?k6z9 ?k7z9 ?k8z9 ?k9z9 ?kBz9 ?kDz9 ?_ ?c2z9 ?c3z9 ?c4z9; (case kAz9 => exact rfl); (case kFz9 => exact rfl); (case kKz9 => assumption); (case k1z9 => k_asm); (case k2z9 => k_asm); (case k3z9 => k_asm); (case k4z9 => k_asm); (case k5z9 => k_asm); (case k6z9 => k_is); (case k7z9 => k_is); (case k8z9 => ktr_room); (case k9z9 => first | exact BindsTo.of_eq rfl | exact binds_K (by k_in) rfl (by k_is) rfl rfl rfl); (case kBz9 => exact rfl); (case kDz9 => decide +kernel); (case c2z9 => exact rfl); (case c3z9 => exact rfl); (case c4z9 => exact rfl); k_whole; intro g' L' h' tk' cells' K' G' FG' F' N' Y' B' X' T' l1 l2; (try k_lt l1); k_cells Y'; (try simp only [List.cons_append, List.nil_append] at N'); (try dsimp only); (try k_lift B'); (try k_fold))
  k_with "M enterC0" => (refine' enterMC ?k1z9 ?k2z9 ?k3z9 ?k4z9 ?k5z9 ?kAz9 ?kFz9 ?kKz9 ?k6z9 ?k7z9 ?k8z9 ?k9z9 ?kBz9 ?kDz9 ?_ ?c2z9 ?c3z9 ?c4z9; (case kAz9 => exact rfl); (case kFz9 => exact rfl); (case kKz9 => assumption); (case k1z9 => k_asm); (case k2z9 => k_asm); (case k3z9 => k_asm); (case k4z9 => k_asm); (case k5z9 => k_asm); (case k6z9 => k_is); (case k7z9 => k_is); (case k8z9 => ktr_room); (case k9z9 => first | exact BindsTo.of_eq rfl | exact binds_K (by k_in) rfl (by k_is) rfl rfl rfl); (case kBz9 => exact rfl); (case kDz9 => decide +kernel); (case c2z9 => exact rfl); (case c3z9 => exact rfl); (case c4z9 => exact rfl); k_whole)
  k_with "call ref" => (k_here; (with_reducible show wpAny _ _ (call (Value.ref 216) [Value.ref _, Value.int _ _]) _ _ _); k_dflt (refine' draw_use ?Bz9 ?Fz9 ?Xz9 ?Tz9 ?hkz9 ?Nz9 ?Uz9 ?hdz9 ?huz9 ?az9 ?bz9 ?cz9 ?dz9 ?_; (case Bz9 => k_asm); (case Fz9 => k_asm); (case Xz9 => k_asm); (case Tz9 => k_asm); (case hkz9 => first | exact rfl | assumption); (case Nz9 => k_asm); (case Uz9 => k_updF); (case hdz9 => ktr_room); (case huz9 => ktr_units); (case az9 => walk_at "M ar"); (case bz9 => walk_at "M ar"); (case cz9 => walk_at "M ar"); (case dz9 => walk_at "M ar"); k_whole); intro d' n' c' t' t1' t2' k' h' tk' d0 d1 n0 c0 F' N'; (try dsimp only at N'); (try dsimp only); (try k_sweep); (try k_fold))
  k_with "call ref" => (k_here; (with_reducible show wpAny _ _ (call (Value.ref 223) [Value.ref _, Value.ref _]) _ _ _); k_dflt (first | (refine' pick_use (lo := 0) (hi := 65535) ?Bz9 ?Fz9 ?Xz9 ?Tz9 ?hkz9 ?Nz9 ?Uz9 ?hlz9 ?hnez9 ?hdz9 ?huz9 ?hiz9 ?az9 ?bz9 ?cz9 ?dz9 ?bdz9 ?_; (case Bz9 => k_asm); (case Fz9 => k_asm); (case Xz9 => k_asm); (case Tz9 => k_asm); (case hkz9 => first | exact rfl | assumption); (case Nz9 => k_asm); (case hlz9 => k_mem); (case Uz9 => k_updF); (case hnez9 => k_ne); (case hdz9 => ktr_room); (case huz9 => ktr_units); (case hiz9 => l_ints); (case bdz9 => (simp only [List.forall_mem_cons, List.not_mem_nil, false_implies, implies_true, and_true]; omega)); (case az9 => (simp only [List.length_cons, List.length_nil]; omega)); (case bz9 => (simp only [List.length_cons, List.length_nil]; omega)); (case cz9 => walk_at "M ar"); (case dz9 => walk_at "M ar"); k_whole) | (refine' pick_use (lo := -200000) (hi := 200000) ?Bz9 ?Fz9 ?Xz9 ?Tz9 ?hkz9 ?Nz9 ?Uz9 ?hlz9 ?hnez9 ?hdz9 ?huz9 ?hiz9 ?az9 ?bz9 ?cz9 ?dz9 ?bdz9 ?_; (case Bz9 => k_asm); (case Fz9 => k_asm); (case Xz9 => k_asm); (case Tz9 => k_asm); (case hkz9 => first | exact rfl | assumption); (case Nz9 => k_asm); (case hlz9 => k_mem); (case Uz9 => k_updF); (case hnez9 => k_ne); (case hdz9 => ktr_room); (case huz9 => ktr_units); (case hiz9 => l_ints); (case bdz9 => (simp only [List.forall_mem_cons, List.not_mem_nil, false_implies, implies_true, and_true]; omega)); (case az9 => (simp only [List.length_cons, List.length_nil]; omega)); (case bz9 => (simp only [List.length_cons, List.length_nil]; omega)); (case cz9 => walk_at "M ar"); (case dz9 => walk_at "M ar"); k_whole)); intro x' n' c' t' t1' t2' k' h' tk' d0 d1 n0 c0 F' N'; (try dsimp only at N'); (try dsimp only); (try k_sweep); (try k_fold))
  k_with "call ref" => (k_here; (with_reducible show wpAny _ _ (call (Value.ref 209) [Value.ref _]) _ _ _); k_dflt (refine' pen_use ?Bz9 ?Fz9 ?Xz9 ?Tz9 ?hkz9 ?Nz9 ?hdz9 ?huz9 ?hlz9 ?hiz9 ?hnz9 ?_; (case Bz9 => k_asm); (case Fz9 => k_asm); (case Xz9 => k_asm); (case Tz9 => k_asm); (case hkz9 => first | exact rfl | assumption); (case Nz9 => k_asm); (case hdz9 => ktr_room); (case huz9 => ktr_units); (case hlz9 => assumption); (case hiz9 => assumption); (case hnz9 => walk_at "M ar"); k_whole); intro D' n' t1' t2' k' h' tk' n0 F' N' o1'; (try dsimp only at N'); (try dsimp only); (try k_sweep); (try k_fold))
  k_with "call ref" => (k_here; (with_reducible show wpAny _ _ (call (Value.ref 242) [Value.ref _, Value.ref _, Value.int _ _]) _ _ _); k_dflt (refine' bent_use ?Bz9 ?Fz9 ?Xz9 ?Tz9 ?hkz9 ?Nz9 ?Uz9 ?hldz9 ?hnez9 ?hdz9 ?huz9 ?hvz9 ?hlz9 ?az9 ?bz9 ?ez9 ?fz9 ?_; (case Bz9 => k_asm); (case Fz9 => k_asm); (case Xz9 => k_asm); (case Tz9 => k_asm); (case hkz9 => first | exact rfl | assumption); (case Nz9 => k_asm); (case Uz9 => k_updF); (case hldz9 => k_mem); (case hnez9 => k_ne); (case hdz9 => ktr_room); (case huz9 => ktr_units); (case hvz9 => assumption); (case hlz9 => walk_at "M ar"); (case az9 => walk_at "M ar"); (case bz9 => walk_at "M ar"); (case ez9 => walk_at "M ar"); (case fz9 => walk_at "M ar"); k_whole); intro D' vs' ns' kD' n' c' t1' t2' k' h' tk' i' l1' n0 c0 F' N' o1'; (try dsimp only at N'); (try dsimp only); (try k_sweep); (try k_fold))
  k_with "call ref" => (k_here; (with_reducible show wpAny _ _ (call (Value.ref 235) [Value.ref _]) _ _ _); k_dflt (refine' numbers_use ?Bz9 ?Fz9 ?Xz9 ?Tz9 ?hkz9 ?Nz9 ?Uz9 ?hdz9 ?huz9 ?az9 ?bz9 ?_; (case Bz9 => k_asm); (case Fz9 => k_asm); (case Xz9 => k_asm); (case Tz9 => k_asm); (case hkz9 => first | exact rfl | assumption); (case Nz9 => k_asm); (case Uz9 => k_updF); (case hdz9 => ktr_room); (case huz9 => ktr_units); (case az9 => walk_at "M ar"); (case bz9 => walk_at "M ar"); k_whole); intro T' DN' vs' ns' kN' tc' cnt' n' c' t1' t2' k' h' tk' i' l1' l2' l3' n0 c0 F' N' o1' o2' o3'; (try dsimp only at N'); (try dsimp only); (try k_sweep); (try k_fold))
  k_with "call ref" => (k_here; (with_reducible show wpAny _ _ (call (Value.ref 271) [Value.bytes _ _]) _ _ _); k_dflt (refine' dear_spec ?Bz9 ?Fz9 ?Xz9 ?Tz9 ?hkz9 ?hdz9 ?huz9 ?hbz9 ?hbyz9 ?hfitz9 ?_; (case Bz9 => k_asm); (case Fz9 => k_asm); (case Xz9 => k_asm); (case Tz9 => k_asm); (case hkz9 => first | exact rfl | assumption); (case hdz9 => ktr_room); (case huz9 => ktr_units); (case hbz9 => k_asm); (case hbyz9 => exact by_ints (by assumption)); (case hfitz9 => walk_at "M cut"); k_whole); intro r' h' tk' K7; walk_at "M keep")
  k_with "call ref" => (k_here; (with_reducible show wpAny _ _ (call (Value.ref 266) [Value.bytes _ _, Value.int _ _]) _ _ _); (k_dflt (refine' heard_use ?Bz9 ?Fz9 ?Xz9 ?Tz9 ?hkz9 ?Nz9 ?hdz9 ?huz9 ?hbz9 ?hbyz9 ?hfitz9 ?h0z9 ?_ ?_)); (case Bz9 => k_asm); (case Fz9 => k_asm); (case Xz9 => k_asm); (case Tz9 => k_asm); (case hkz9 => first | exact rfl | assumption); (case Nz9 => k_asm); (case hdz9 => ktr_room); (case huz9 => ktr_units); (case hbz9 => assumption); (case hbyz9 => exact by_ints (by assumption)); (case hfitz9 => walk_at "M cut"); (case h0z9 => walk_at "M ar"); (all_goals (first | ((with_reducible show ∀ n, ReadFault _ _ n → _); intro n9 rf9 t' h' tk' F' N'; (try dsimp only); (try k_sweep); (try k_fold)) | ((with_reducible show HeadOk _ _ → _); intro hk9 z19 z29 D' o' kvs' h' tk' F' N' o1' sy' di' fp'; (try dsimp only at N'); (try dsimp only); (try k_sweep); (try k_fold)))))
  k_with "call ref" => (k_here; (with_reducible show wpAny _ _ (call (Value.ref 259) [Value.bytes _ _]) _ _ _); (k_dflt (refine' due_use ?Bz9 ?Fz9 ?Xz9 ?Tz9 ?hkz9 ?Nz9 ?hdz9 ?huz9 ?hbz9 ?hbyz9 ?hfitz9 ?_ ?_)); (case Bz9 => k_asm); (case Fz9 => k_asm); (case Xz9 => k_asm); (case Tz9 => k_asm); (case hkz9 => first | exact rfl | assumption); (case Nz9 => k_asm); (case hdz9 => ktr_room); (case huz9 => ktr_units); (case hbz9 => assumption); (case hbyz9 => exact by_ints (by assumption)); (case hfitz9 => walk_at "M cut"); (all_goals (first | ((with_reducible show ∀ n, ReadFault _ _ n → _); intro n8 rf8 t' h' tk' F' N'; (first | (exact (codes_fault (by assumption) (by assumption) (by_ints (by assumption)) (by assumption) (by assumption) (by assumption) rf8).elim) | ((have eq9 := faults_same (by assumption) (by assumption) (by_ints (by assumption)) (by assumption) rf8); (try dsimp only); (try k_sweep); (try k_fold)))) | ((with_reducible show HeadOk _ _ → _); intro hk8 z18 z28 D' o' kvs' h' tk' F' N' o1' sy' di' fp'; (first | (exact (fault_codes (by assumption) (by assumption) (by_ints (by assumption)) (by assumption) hk8 z18 z28).elim) | ((try dsimp only at N'); (have eq9 := codes_same (by assumption) (by assumption) (by_ints (by assumption)) z18); (rw [← eq9] at fp'); (try dsimp only); (try k_sweep); (try k_fold)))))))
  k_with "getMethod bytes" => (k_here; (with_reducible show wpAny _ _ (getMethod (Value.bytes _ _) _ _) _ _ _); refine join_method ?_)
  k_with "call builtin:bytes.join" => (k_here; (with_reducible show wpAny _ _ (call (Value.builtin "bytes.join") _) _ _ _); k_dflt (show wpAny _ _ (call (Value.builtin "bytes.join") [Value.bytes _ _, Value.ref _]) _ _ _; refine' join_pairs ?hlz9 ?hbz9 ?hzz9 ?_; (case hlz9 => is_list); (case hbz9 => assumption); (case hzz9 => walk_at "M ar"); k_whole); intro b' ks' t' k' e' z'; (try k_sweep); (try k_fold))
  k_with "binaryOp Add bytes bytes" => (k_here; (with_reducible show wpAny _ _ (binaryOp Operator.Add (Value.bytes (List.toArray (List.flatten (List.replicate (Int.toNat _) _))) _) (Value.bytes _ _)) _ _ _); k_dflt (refine' add_lead ?hkz9 ?hzz9 ?hdz9 ?h0z9 ?_; (case hkz9 => assumption); (case hzz9 => walk_at "M cut"); (case hdz9 => omega); (case h0z9 => omega); k_whole); intro lb' ls' zs' t' k' l9' b9' z9' y9')
  k_with "call builtin:len" => (k_here; (with_reducible show wpAny _ _ (call (Value.builtin _) [Value.bytes (List.toArray (List.flatten (List.replicate (Int.toNat _) _))) _]) _ _ _); k_dflt (refine' len_lead ?h0z9 ?hdz9 ?_; (case h0z9 => omega); (case hdz9 => omega); k_whole))
  k_with "compareOp NotEq ref ref" => (k_here; (with_reducible show wpAny _ _ (compareOp CmpOp.NotEq (Value.ref _) (Value.ref _)) _ _ _); k_dflt (refine' ne_same ?Nz9 ?paz9 ?pbz9 ?daz9 ?dbz9 ?laz9 ?lbz9 ?faz9 ?fbz9 ?huz9 ?_; (case Nz9 => k_asm); (case paz9 => exact .tail _ (.head _)); (case pbz9 => exact .head _); (case daz9 => assumption); (case dbz9 => assumption); (case laz9 => assumption); (case lbz9 => assumption); (case faz9 => assumption); (case fbz9 => assumption); (case huz9 => ktr_units); k_whole); (try k_fold))
  exact trivial
theorem rT50_1 : True := by
  k_with "eval ListComp" => (k_here; k_dflt (refine LCg.ListComp_U (F₀ := by k_asm) (by with_unfolding_all rfl) (by decide) (by rfl) (by decide) (by rfl) ?_))
  k_with "CompSrc" => (refine stopped ?_)
  exact trivial
/-- the pen between the law's rounds -/
def PenOk (pre : List Int) (c : Int × Int × Tok × Tok × Nat) : Prop := 0 ≤ c.1 ∧ 0 ≤ c.2.1
theorem rT50_2 : True := by
  k_with "M cut" => (first | omega | (simp only [List.length_take, List.length_drop, List.length_append]; omega))
  k_with "pyIter ref" => ((with_reducible rename IsRange _ _ _ _ _ _ _ _ => rgX9); refine stopped ?_)
  k_with "exec For Name Call cons nil" => (k_here; (rename Fr _ _ _ _ => lF'); (with_unfolding_all refine' For_invVF lF' ?k1z9 ?k2z9 ?_; (case k1z9 => exact rfl); (case k2z9 => exact rfl); k_whole))
  exact trivial
set_option maxRecDepth 100000 in
set_option maxHeartbeats 8000000 in
theorem law_said : OpenLaw.wellSaid PySem.Challenge.rw_nu0154_01 = true := by kernel_rfl
set_option maxRecDepth 100000 in
set_option maxHeartbeats 8000000 in
theorem law_holds : PySem.Challenge.rw_nu0154_01.Holds := by
  w_on
  refine holds_law law_said fun said => ?_
  refine W.holds_open (q := prgV) (loose := [Str.ofString "ShapeError"]) (Xt := fun s => xlAt prgV [] s && recOk (RowW.records (OpenRow.toRowW PySem.Challenge.rw_nu0154_01.row)) s) (XP := XL prgV []) (Yf := Hook.obs hookK) (Ya := Hook.val hookK) (YP := Hook.says hookK) (N := 3518) top_left (Hook.of hookK) (Hook.keeps hookK) (fun s e => xl_of s (Bool.and_eq_true_iff.mp e).1) XL.keeps (by rfl) (by rfl) (by rfl) (fun s e => recFacts_of (Bool.and_eq_true_iff.mp e).2) (by rfl) (by first | assumption | decide +kernel) (by decide +kernel) ⟨rfl, rfl, rfl, rfl, rfl, by decide +kernel⟩ ?hw ?hc
  case hw => w_witness2
  clear said
  unfold hookK
  k_fill
  intro w s₀ s₁ mg mb G Y fa o pm cd doc dV kV ho hd hcd hD hmg hg args vals as hpre hlay hrd hwl hlo
  have KX := kIn_of Y
  have X := (Ground.X G).1
  have V := (Ground.X G).2
  refine Ground.open G ?_
  intro T B D TE TW
  try (refine guard_noD D (by decide +kernel) ?_; clear D)
  clear hmg
  wrow_args hpre hlay hrd hwl hlo
  refine enter_call ?_
  w_top on
  try refine codeAny_mono ?_ (fun _ _ g => GoodW.toG g)
  have K0 : Below callerA s₁.heap [] s₁.heap := below_caller s₁.heap
  w_call any ho hd hcd hD T F
  clear hd
  k_drop
  clear X V B TE TW G Y
  all_goals (try k_fold)
  k_steps
  refine Stop.go ?_
  rename Fr _ _ _ _ => F2
  rename News _ _ _ _ => N2
  refine kst_range (n := (4 - 0 : Int).toNat) (σ := Int × Int × Tok × Tok × Nat) (fun c => [(D', W.listOf #[.int c.1 c.2.2.1, .int c.2.1 c.2.2.2.1] c.2.2.2.2)]) (fun _ => []) (fun _ => True) [Str.ofString "numbers", Str.ofString "count", Str.ofString "data", Str.ofString "lead", Str.ofString "number"] PenOk (n', 0, t1', t2', k') (by rfl) rgX9 ?sm ?sz F2 N2 trivial (fun _ h => absurd h List.not_mem_nil) ⟨n0, Int.le_refl _⟩ ?_ ?_
  case sm => exact small_one (by omega) (by omega) (by omega) (by omega)
  case sz => exact rangeSize_nat _ _
  · intro c pre i kT kU kH kTk kOwn oEq oLt kOff kFacts oInv kFr kNews
    obtain ⟨n7, c7, t71, t72, k7⟩ := c
    obtain ⟨p1, p2⟩ := oInv
    have kMark := kstMark
    simp only [List.cons_append, List.nil_append] at kNews
    dsimp only [kstB] at kFr p1 p2 kNews kOff ⊢
    clear F2 N2
    try k_fold
    k_steps
    refine Stop.go ?_
    rename Fr _ _ _ _ => F4
    rename News _ _ _ _ => N4
    have vl2 := i'.length
    refine LCg.CompSrc.ledger (by rfl) (by k_asm) (by k_asm) (by k_mem) (by rw [PySem.sizeLine_eq, List.size_toArray]; omega) ?_
    intro g2
    refine comp_rest (fun i ys nw => nw = (D', W.listOf vs'.toArray kD') :: _ ∧ Pairs ys i) ⟨rfl, Pairs.nil⟩ ?_ ?_
    · intro i v I oI C oC' D3 m₂ ys nw h tk E' hi hv hJ hC' hx F3 N3 off ne
      obtain ⟨rfl, hy⟩ := hJ
      rw [List.getElem?_toArray] at hv
      obtain ⟨t9, rfl⟩ := IntsAre.int_at i' i v hv
      generalize ns'.getD i 0 = x at *
      clear F4 N4
      try k_fold
      k_steps
      rename Fr _ _ _ _ => F9
      rename News _ _ _ _ => N9
      exact LCg.CompEnd.intro F9 N9 (_ :: _ :: _ :: _ :: _) (fun p hp => List.mem_cons_of_mem _ hp) off (.inr ⟨W.listOf vs'.toArray kD', .head _, rfl, _, rfl⟩) ⟨rfl, hy.snoc⟩
    · intro ys nw hJ
      obtain ⟨rfl, hy⟩ := hJ
      rw [List.size_toArray, vl2] at hy
      k_steps
  · intro c kU kH kTk kFacts kInv kFr kNews
    obtain ⟨n7, c7, t71, t72, k7⟩ := c
    have kMark := kstMark
    dsimp only [kstB] at kFr kNews ⊢
    clear F2 N2
    try k_fold
    k_steps
end
end Mine
theorem PySem.Challenge.cw_nu0154_01_holds : PySem.Challenge.rw_nu0154_01.Holds := by
  exact Mine.law_holds
