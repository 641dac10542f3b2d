import PyProof.Rows.All
import Wide.All
import OpenK.AllK
import Wide.FinOn
import KE.KBits
import KE.IntBitsLaws
import PyProof.P3Eq
import Lean
import PySem.Challenge.RW_rr0055_01
open PySem PySem.W PyProof.Rows PySem.Calls PySem.Spec
set_option Elab.async false
set_option rowWalk.seconds 0
set_option maxRecDepth 100000
set_option maxHeartbeats 8000000
namespace Mine
section
section
abbrev cells : List Stmt := PySem.Challenge.pw_rr0055_01.main.body
section
variable {i j : Nat} {nm : Str} {ps : Arguments} {bd : List Stmt} {dl : List Expr} {rt : Option Expr} {tp : List TypeParam} {sc : Scope} {ts : Option Scope} {bi : Str} {po : Pos}
/-- A def of the text's own level, as the object that stands on the heap. -/
@[reducible] noncomputable def defAt (_h : cells[i]? = some (Stmt.FunctionDef nm ps bd dl rt tp sc ts bi po)) (q : Str) (g : Addr) (cl : List (Str × Addr)) (dV kV doc pm : Value) (an : Option Addr) (cd ct : Value) (bn : Addr) : FuncData :=
  ⟨nm, q, ps, .stmts bd, sc, g, cl, dV, kV, doc, pm, an, cd, ct, bn⟩
/-- A method, out of the class's body. -/
@[reducible] noncomputable def methAt {cn : Str} {cb : List Expr} {ck : List Keyword} {cbd : List Stmt} {cdl : List Expr} {ctp : List TypeParam} {csc : Scope} {cts : Option Scope} {cbi : Str} {csa : List Str} {cpo : Pos}
    (_h : cells[i]? = some (Stmt.ClassDef cn cb ck cbd cdl ctp csc cts cbi csa cpo)) (_h' : cbd[j]? = some (Stmt.FunctionDef nm ps bd dl rt tp sc ts bi po)) (q : Str) (g : Addr) (cl : List (Str × Addr)) (dV kV doc pm : Value) (an : Option Addr) (cd ct : Value) (bn : Addr) : FuncData :=
  ⟨nm, q, ps, .stmts bd, sc, g, cl, dV, kV, doc, pm, an, cd, ct, bn⟩
end
@[reducible] noncomputable def stAt {i : Nat} {s : Stmt} (_h : cells[i]? = some s) : Stmt := s
noncomputable def hd.view_39 : Program := { PySem.Challenge.pw_rr0055_01 with main := { PySem.Challenge.pw_rr0055_01.main with body := [stAt (i := 1) rfl, stAt (i := 2) rfl, stAt (i := 3) rfl, stAt (i := 4) rfl, stAt (i := 5) rfl, stAt (i := 6) rfl, stAt (i := 7) rfl, stAt (i := 9) rfl, stAt (i := 11) rfl, stAt (i := 12) rfl, stAt (i := 13) rfl, stAt (i := 15) rfl, stAt (i := 16) rfl, stAt (i := 17) rfl, stAt (i := 18) rfl, stAt (i := 19) rfl, stAt (i := 20) rfl, stAt (i := 21) rfl, stAt (i := 22) rfl, stAt (i := 23) rfl, stAt (i := 25) rfl, stAt (i := 27) rfl, stAt (i := 28) rfl, stAt (i := 29) rfl, stAt (i := 30) rfl, stAt (i := 31) rfl, stAt (i := 32) rfl, stAt (i := 33) rfl] } }
noncomputable def hd.heap_39 : Params → Frag := fun P =>
  (nat_lit 2, PySem.Obj.mk PySem.Value.none Option.none   (PySem.Data.dict     #[PySem.DictEntry.mk (PySem.PyData.keyHash P (PySem.Str.ofString "type.__subclasses__.Exception.0"))         (PySem.Value.str (PySem.Str.ofString "type.__subclasses__.Exception.0") 205) (PySem.Value.int 24 0),       PySem.DictEntry.mk (PySem.PyData.keyHash P (PySem.Str.ofString "type.__subclasses__.Exception.n"))         (PySem.Value.str (PySem.Str.ofString "type.__subclasses__.Exception.n") 206) (PySem.Value.int 1 0)]     2)   #[]) ::
  (nat_lit 3, PySem.Obj.mk (PySem.Value.type "dict") Option.none   (PySem.Data.dict     #[PySem.DictEntry.mk (PySem.PyData.keyHash P (PySem.Str.ofString "__name__"))         (PySem.Value.str (PySem.Str.ofString "__name__") 165)         (PySem.Value.str (PySem.Str.ofString "law_rr0055_01") 505),       PySem.DictEntry.mk (PySem.PyData.keyHash P (PySem.Str.ofString "__doc__"))         (PySem.Value.str (PySem.Str.ofString "__doc__") 166) PySem.Value.none,       PySem.DictEntry.mk (PySem.PyData.keyHash P (PySem.Str.ofString "__package__"))         (PySem.Value.str (PySem.Str.ofString "__package__") 167) PySem.Value.none,       PySem.DictEntry.mk (PySem.PyData.keyHash P (PySem.Str.ofString "__loader__"))         (PySem.Value.str (PySem.Str.ofString "__loader__") 168) (PySem.Value.builtin "__main__.__loader__#opaque"),       PySem.DictEntry.mk (PySem.PyData.keyHash P (PySem.Str.ofString "__spec__"))         (PySem.Value.str (PySem.Str.ofString "__spec__") 169) PySem.Value.none,       PySem.DictEntry.mk (PySem.PyData.keyHash P (PySem.Str.ofString "__annotations__"))         (PySem.Value.str (PySem.Str.ofString "__annotations__") 170) (PySem.Value.ref 6),       PySem.DictEntry.mk (PySem.PyData.keyHash P (PySem.Str.ofString "__builtins__"))         (PySem.Value.str (PySem.Str.ofString "__builtins__") 171) (PySem.Value.ref 4),       PySem.DictEntry.mk (PySem.PyData.keyHash P (PySem.Str.ofString "__file__"))         (PySem.Value.str (PySem.Str.ofString "__file__") 173)         (PySem.Value.str (PySem.Str.ofString "/claim/cut.py") 172),       PySem.DictEntry.mk (PySem.PyData.keyHash P (PySem.Str.ofString "__cached__"))         (PySem.Value.str (PySem.Str.ofString "__cached__") 174) PySem.Value.none,       PySem.DictEntry.mk (PySem.PyData.keyHash P (PySem.Str.ofString "GmpError"))         (PySem.Value.str (PySem.Str.ofString "GmpError") 208) (PySem.Value.ref 24),       PySem.DictEntry.mk (PySem.PyData.keyHash P (PySem.Str.ofString "OutOfRange"))         (PySem.Value.str (PySem.Str.ofString "OutOfRange") 224) (PySem.Value.ref 37),       PySem.DictEntry.mk (PySem.PyData.keyHash P (PySem.Str.ofString "normal"))         (PySem.Value.str (PySem.Str.ofString "normal") 232) (PySem.Value.ref 46),       PySem.DictEntry.mk (PySem.PyData.keyHash P (PySem.Str.ofString "nat_of"))         (PySem.Value.str (PySem.Str.ofString "nat_of") 242) (PySem.Value.ref 53),       PySem.DictEntry.mk (PySem.PyData.keyHash P (PySem.Str.ofString "compare"))         (PySem.Value.str (PySem.Str.ofString "compare") 251) (PySem.Value.ref 60),       PySem.DictEntry.mk (PySem.PyData.keyHash P (PySem.Str.ofString "add"))         (PySem.Value.str (PySem.Str.ofString "add") 264) (PySem.Value.ref 67),       PySem.DictEntry.mk (PySem.PyData.keyHash P (PySem.Str.ofString "sub"))         (PySem.Value.str (PySem.Str.ofString "sub") 278) (PySem.Value.ref 74),       PySem.DictEntry.mk (PySem.PyData.keyHash P (PySem.Str.ofString "product_of_counts"))         (PySem.Value.str (PySem.Str.ofString "product_of_counts") 290) (PySem.Value.ref 81),       PySem.DictEntry.mk (PySem.PyData.keyHash P (PySem.Str.ofString "signed"))         (PySem.Value.str (PySem.Str.ofString "signed") 300) (PySem.Value.ref 88),       PySem.DictEntry.mk (PySem.PyData.keyHash P (PySem.Str.ofString "s_add"))         (PySem.Value.str (PySem.Str.ofString "s_add") 309) (PySem.Value.ref 95),       PySem.DictEntry.mk (PySem.PyData.keyHash P (PySem.Str.ofString "s_mul"))         (PySem.Value.str (PySem.Str.ofString "s_mul") 319) (PySem.Value.ref 102),       PySem.DictEntry.mk (PySem.PyData.keyHash P (PySem.Str.ofString "FIRST_GROUPS"))         (PySem.Value.str (PySem.Str.ofString "FIRST_GROUPS") 325) (PySem.Value.ref 103),       PySem.DictEntry.mk (PySem.PyData.keyHash P (PySem.Str.ofString "STEP_GROUPS"))         (PySem.Value.str (PySem.Str.ofString "STEP_GROUPS") 329) (PySem.Value.ref 104),       PySem.DictEntry.mk (PySem.PyData.keyHash P (PySem.Str.ofString "CUBE_FACTORS"))         (PySem.Value.str (PySem.Str.ofString "CUBE_FACTORS") 341) (PySem.Value.ref 105),       PySem.DictEntry.mk (PySem.PyData.keyHash P (PySem.Str.ofString "of_groups"))         (PySem.Value.str (PySem.Str.ofString "of_groups") 352) (PySem.Value.ref 112),       PySem.DictEntry.mk (PySem.PyData.keyHash P (PySem.Str.ofString "EulerSeries"))         (PySem.Value.str (PySem.Str.ofString "EulerSeries") 382) (PySem.Value.ref 129),       PySem.DictEntry.mk (PySem.PyData.keyHash P (PySem.Str.ofString "ArctanSeries"))         (PySem.Value.str (PySem.Str.ofString "ArctanSeries") 421) (PySem.Value.ref 157),       PySem.DictEntry.mk (PySem.PyData.keyHash P (PySem.Str.ofString "ChudnovskySeries"))         (PySem.Value.str (PySem.Str.ofString "ChudnovskySeries") 454) (PySem.Value.ref 178),       PySem.DictEntry.mk (PySem.PyData.keyHash P (PySem.Str.ofString "split_sum"))         (PySem.Value.str (PySem.Str.ofString "split_sum") 473) (PySem.Value.ref 189),       PySem.DictEntry.mk (PySem.PyData.keyHash P (PySem.Str.ofString "series_fraction"))         (PySem.Value.str (PySem.Str.ofString "series_fraction") 486) (PySem.Value.ref 196),       PySem.DictEntry.mk (PySem.PyData.keyHash P (PySem.Str.ofString "mul_school"))         (PySem.Value.str (PySem.Str.ofString "mul_school") 504) (PySem.Value.ref 203),       PySem.DictEntry.mk (PySem.PyData.keyHash P (PySem.Str.ofString "_law_next"))         (PySem.Value.str (PySem.Str.ofString "_law_next") 515) (PySem.Value.ref 210),       PySem.DictEntry.mk (PySem.PyData.keyHash P (PySem.Str.ofString "_law_row"))         (PySem.Value.str (PySem.Str.ofString "_law_row") 524) (PySem.Value.ref 217),       PySem.DictEntry.mk (PySem.PyData.keyHash P (PySem.Str.ofString "_law_signed"))         (PySem.Value.str (PySem.Str.ofString "_law_signed") 532) (PySem.Value.ref 224),       PySem.DictEntry.mk (PySem.PyData.keyHash P (PySem.Str.ofString "_law_term"))         (PySem.Value.str (PySem.Str.ofString "_law_term") 541) (PySem.Value.ref 231),       PySem.DictEntry.mk (PySem.PyData.keyHash P (PySem.Str.ofString "_law_piece"))         (PySem.Value.str (PySem.Str.ofString "_law_piece") 558) (PySem.Value.ref 238),       PySem.DictEntry.mk (PySem.PyData.keyHash P (PySem.Str.ofString "_law_refused"))         (PySem.Value.str (PySem.Str.ofString "_law_refused") 565) (PySem.Value.ref 245),       PySem.DictEntry.mk (PySem.PyData.keyHash P (PySem.Str.ofString "law"))         (PySem.Value.str (PySem.Str.ofString "law") 589) (PySem.Value.ref 252)]     37)   #[]) ::
  (nat_lit 15, PySem.Obj.mk (PySem.Value.type "tuple") Option.none (PySem.Data.seq #[PySem.Value.type "Exception"]) #[]) ::
  (nat_lit 22, PySem.Obj.mk (PySem.Value.type "tuple") Option.none (PySem.Data.seq #[]) #[]) ::
  (nat_lit 23, PySem.Obj.mk (PySem.Value.type "dict") Option.none   (PySem.Data.dict     #[PySem.DictEntry.mk (PySem.PyData.keyHash P (PySem.Str.ofString "__module__"))         (PySem.Value.str (PySem.Str.ofString "__module__") 196) (PySem.Value.str (PySem.Str.ofString "gmp.limbs") 187),       PySem.DictEntry.mk (PySem.PyData.keyHash P (PySem.Str.ofString "__firstlineno__"))         (PySem.Value.str (PySem.Str.ofString "__firstlineno__") 200) (PySem.Value.int 2 199),       PySem.DictEntry.mk (PySem.PyData.keyHash P (PySem.Str.ofString "__static_attributes__"))         (PySem.Value.str (PySem.Str.ofString "__static_attributes__") 201) (PySem.Value.ref 22),       PySem.DictEntry.mk (PySem.PyData.keyHash P (PySem.Str.ofString "__weakref__"))         (PySem.Value.str (PySem.Str.ofString "__weakref__") 203) (PySem.Value.ref 25),       PySem.DictEntry.mk (PySem.PyData.keyHash P (PySem.Str.ofString "__doc__"))         (PySem.Value.str (PySem.Str.ofString "__doc__") 204) PySem.Value.none]     3)   #[]) ::
  (nat_lit 24, PySem.Obj.mk (PySem.Value.type "type") Option.none   (PySem.Data.cls     (PySem.ClassData.mk (PySem.Str.ofString "GmpError") [PySem.Value.type "Exception"]       [PySem.Value.ref 24, PySem.Value.type "Exception", PySem.Value.type "BaseException", PySem.Value.type "object"] 23       (PySem.Str.ofString "GmpError") Bool.true [] [PySem.Value.ref 37] Bool.false Option.none Bool.false))   #[Option.some (PySem.Value.ref 15), Option.none, Option.some (PySem.Value.str (PySem.Str.ofString "GmpError") 189),     Option.some (PySem.Value.str (PySem.Str.ofString "GmpError") 197),     Option.some (PySem.Value.builtin "Exception.__new__"), Option.some (PySem.Value.bool Bool.true)]) ::
  (nat_lit 25, PySem.Obj.mk (PySem.Value.type "getset_descriptor") Option.none   (PySem.Data.fields     #[PySem.Value.str (PySem.Str.ofString "__weakref__") 202, PySem.Value.ref 24,       PySem.Value.builtin "ExceptionGroup.__weakref__", PySem.Value.none])   #[]) ::
  (nat_lit 28, PySem.Obj.mk (PySem.Value.type "tuple") Option.none (PySem.Data.seq #[PySem.Value.ref 24]) #[]) ::
  (nat_lit 35, PySem.Obj.mk (PySem.Value.type "tuple") Option.none (PySem.Data.seq #[]) #[]) ::
  (nat_lit 36, PySem.Obj.mk (PySem.Value.type "dict") Option.none   (PySem.Data.dict     #[PySem.DictEntry.mk (PySem.PyData.keyHash P (PySem.Str.ofString "__module__"))         (PySem.Value.str (PySem.Str.ofString "__module__") 216) (PySem.Value.str (PySem.Str.ofString "gmp.limbs") 187),       PySem.DictEntry.mk (PySem.PyData.keyHash P (PySem.Str.ofString "__firstlineno__"))         (PySem.Value.str (PySem.Str.ofString "__firstlineno__") 220) (PySem.Value.int 4 219),       PySem.DictEntry.mk (PySem.PyData.keyHash P (PySem.Str.ofString "__static_attributes__"))         (PySem.Value.str (PySem.Str.ofString "__static_attributes__") 221) (PySem.Value.ref 35),       PySem.DictEntry.mk (PySem.PyData.keyHash P (PySem.Str.ofString "__doc__"))         (PySem.Value.str (PySem.Str.ofString "__doc__") 222) PySem.Value.none]     2)   #[]) ::
  (nat_lit 37, PySem.Obj.mk (PySem.Value.type "type") Option.none   (PySem.Data.cls     (PySem.ClassData.mk (PySem.Str.ofString "OutOfRange") [PySem.Value.ref 24]       [PySem.Value.ref 37, PySem.Value.ref 24, PySem.Value.type "Exception", PySem.Value.type "BaseException",         PySem.Value.type "object"]       36 (PySem.Str.ofString "OutOfRange") Bool.true [] [] Bool.false Option.none Bool.false))   #[Option.some (PySem.Value.ref 28), Option.none, Option.some (PySem.Value.str (PySem.Str.ofString "OutOfRange") 209),     Option.some (PySem.Value.str (PySem.Str.ofString "OutOfRange") 217),     Option.some (PySem.Value.builtin "Exception.__new__"), Option.some (PySem.Value.bool Bool.true)]) ::
  (nat_lit 40, PySem.Obj.mk (PySem.Value.type "tuple") Option.none (PySem.Data.seq #[]) #[]) ::
  (nat_lit 42, PySem.Obj.mk (PySem.Value.type "tuple") Option.none   (PySem.Data.seq #[PySem.Value.str (PySem.Str.ofString "a") 228, PySem.Value.str (PySem.Str.ofString "end") 229]) #[]) ::
  (nat_lit 43, PySem.Obj.mk (PySem.Value.type "tuple") Option.none (PySem.Data.seq #[]) #[]) ::
  (nat_lit 45, PySem.Obj.mk (PySem.Value.type "code") Option.none   (PySem.Data.fields     #[PySem.Value.str (PySem.Str.ofString "normal") 225, PySem.Value.str (PySem.Str.ofString "normal") 226,       PySem.Value.str (PySem.Str.ofString "/claim/cut.py") 227, PySem.Value.int 6 0, PySem.Value.int 1 0,       PySem.Value.int 0 0, PySem.Value.int 0 0, PySem.Value.int 3 0, PySem.Value.ref 40, PySem.Value.bool Bool.true,       PySem.Value.int 181 0, PySem.Value.ref 41, PySem.Value.none, PySem.Value.ref 42, PySem.Value.ref 43,       PySem.Value.ref 44, PySem.Value.int 230 0, PySem.Value.int 6 0,       PySem.Value.str (PySem.Str.ofString "/claim/cut.py") 231])   #[]) ::
  (nat_lit 46, PySem.Obj.mk (PySem.Value.type "function") (Option.none) (PySem.Data.func (defAt (i := 3) rfl (PySem.Str.ofString "normal") (3) ([]) (PySem.Value.none) (PySem.Value.none) (PySem.Value.none) (PySem.Value.str (PySem.Str.ofString "gmp.limbs") 187) (Option.none) (PySem.Value.ref 45) (PySem.Value.none) (0))) (#[])) ::
  (nat_lit 47, PySem.Obj.mk (PySem.Value.type "tuple") Option.none (PySem.Data.seq #[]) #[]) ::
  (nat_lit 49, PySem.Obj.mk (PySem.Value.type "tuple") Option.none   (PySem.Data.seq     #[PySem.Value.str (PySem.Str.ofString "number") 236, PySem.Value.str (PySem.Str.ofString "w") 237,       PySem.Value.str (PySem.Str.ofString "found") 238, PySem.Value.str (PySem.Str.ofString "mask") 239])   #[]) ::
  (nat_lit 50, PySem.Obj.mk (PySem.Value.type "tuple") Option.none (PySem.Data.seq #[]) #[]) ::
  (nat_lit 52, PySem.Obj.mk (PySem.Value.type "code") Option.none   (PySem.Data.fields     #[PySem.Value.str (PySem.Str.ofString "nat_of") 233, PySem.Value.str (PySem.Str.ofString "nat_of") 234,       PySem.Value.str (PySem.Str.ofString "/claim/cut.py") 235, PySem.Value.int 11 0, PySem.Value.int 2 0,       PySem.Value.int 0 0, PySem.Value.int 0 0, PySem.Value.int 3 0, PySem.Value.ref 47, PySem.Value.bool Bool.true,       PySem.Value.int 181 0, PySem.Value.ref 48, PySem.Value.none, PySem.Value.ref 49, PySem.Value.ref 50,       PySem.Value.ref 51, PySem.Value.int 240 0, PySem.Value.int 11 0,       PySem.Value.str (PySem.Str.ofString "/claim/cut.py") 241])   #[]) ::
  (nat_lit 53, PySem.Obj.mk (PySem.Value.type "function") (Option.none) (PySem.Data.func (defAt (i := 4) rfl (PySem.Str.ofString "nat_of") (3) ([]) (PySem.Value.none) (PySem.Value.none) (PySem.Value.none) (PySem.Value.str (PySem.Str.ofString "gmp.limbs") 187) (Option.none) (PySem.Value.ref 52) (PySem.Value.none) (0))) (#[])) ::
  (nat_lit 54, PySem.Obj.mk (PySem.Value.type "tuple") Option.none (PySem.Data.seq #[]) #[]) ::
  (nat_lit 56, PySem.Obj.mk (PySem.Value.type "tuple") Option.none   (PySem.Data.seq     #[PySem.Value.str (PySem.Str.ofString "a") 246, PySem.Value.str (PySem.Str.ofString "b") 247,       PySem.Value.str (PySem.Str.ofString "at") 248])   #[]) ::
  (nat_lit 57, PySem.Obj.mk (PySem.Value.type "tuple") Option.none (PySem.Data.seq #[]) #[]) ::
  (nat_lit 59, PySem.Obj.mk (PySem.Value.type "code") Option.none   (PySem.Data.fields     #[PySem.Value.str (PySem.Str.ofString "compare") 243, PySem.Value.str (PySem.Str.ofString "compare") 244,       PySem.Value.str (PySem.Str.ofString "/claim/cut.py") 245, PySem.Value.int 19 0, PySem.Value.int 2 0,       PySem.Value.int 0 0, PySem.Value.int 0 0, PySem.Value.int 3 0, PySem.Value.ref 54, PySem.Value.bool Bool.true,       PySem.Value.int 181 0, PySem.Value.ref 55, PySem.Value.none, PySem.Value.ref 56, PySem.Value.ref 57,       PySem.Value.ref 58, PySem.Value.int 249 0, PySem.Value.int 19 0,       PySem.Value.str (PySem.Str.ofString "/claim/cut.py") 250])   #[]) ::
  (nat_lit 60, PySem.Obj.mk (PySem.Value.type "function") (Option.none) (PySem.Data.func (defAt (i := 5) rfl (PySem.Str.ofString "compare") (3) ([]) (PySem.Value.none) (PySem.Value.none) (PySem.Value.none) (PySem.Value.str (PySem.Str.ofString "gmp.limbs") 187) (Option.none) (PySem.Value.ref 59) (PySem.Value.none) (0))) (#[])) ::
  (nat_lit 61, PySem.Obj.mk (PySem.Value.type "tuple") Option.none (PySem.Data.seq #[]) #[]) ::
  (nat_lit 63, PySem.Obj.mk (PySem.Value.type "tuple") Option.none   (PySem.Data.seq     #[PySem.Value.str (PySem.Str.ofString "a") 255, PySem.Value.str (PySem.Str.ofString "b") 256,       PySem.Value.str (PySem.Str.ofString "w") 257, PySem.Value.str (PySem.Str.ofString "found") 258,       PySem.Value.str (PySem.Str.ofString "carry") 259, PySem.Value.str (PySem.Str.ofString "mask") 260,       PySem.Value.str (PySem.Str.ofString "at") 261])   #[]) ::
  (nat_lit 64, PySem.Obj.mk (PySem.Value.type "tuple") Option.none (PySem.Data.seq #[]) #[]) ::
  (nat_lit 66, PySem.Obj.mk (PySem.Value.type "code") Option.none   (PySem.Data.fields     #[PySem.Value.str (PySem.Str.ofString "add") 252, PySem.Value.str (PySem.Str.ofString "add") 253,       PySem.Value.str (PySem.Str.ofString "/claim/cut.py") 254, PySem.Value.int 26 0, PySem.Value.int 3 0,       PySem.Value.int 0 0, PySem.Value.int 0 0, PySem.Value.int 3 0, PySem.Value.ref 61, PySem.Value.bool Bool.true,       PySem.Value.int 181 0, PySem.Value.ref 62, PySem.Value.none, PySem.Value.ref 63, PySem.Value.ref 64,       PySem.Value.ref 65, PySem.Value.int 262 0, PySem.Value.int 26 0,       PySem.Value.str (PySem.Str.ofString "/claim/cut.py") 263])   #[]) ::
  (nat_lit 67, PySem.Obj.mk (PySem.Value.type "function") (Option.none) (PySem.Data.func (defAt (i := 6) rfl (PySem.Str.ofString "add") (3) ([]) (PySem.Value.none) (PySem.Value.none) (PySem.Value.none) (PySem.Value.str (PySem.Str.ofString "gmp.limbs") 187) (Option.none) (PySem.Value.ref 66) (PySem.Value.none) (0))) (#[])) ::
  (nat_lit 68, PySem.Obj.mk (PySem.Value.type "tuple") Option.none (PySem.Data.seq #[]) #[]) ::
  (nat_lit 70, PySem.Obj.mk (PySem.Value.type "tuple") Option.none   (PySem.Data.seq     #[PySem.Value.str (PySem.Str.ofString "a") 268, PySem.Value.str (PySem.Str.ofString "b") 269,       PySem.Value.str (PySem.Str.ofString "w") 270, PySem.Value.str (PySem.Str.ofString "found") 271,       PySem.Value.str (PySem.Str.ofString "borrow") 272, PySem.Value.str (PySem.Str.ofString "base") 273,       PySem.Value.str (PySem.Str.ofString "at") 274, PySem.Value.str (PySem.Str.ofString "limb") 275])   #[]) ::
  (nat_lit 71, PySem.Obj.mk (PySem.Value.type "tuple") Option.none (PySem.Data.seq #[]) #[]) ::
  (nat_lit 73, PySem.Obj.mk (PySem.Value.type "code") Option.none   (PySem.Data.fields     #[PySem.Value.str (PySem.Str.ofString "sub") 265, PySem.Value.str (PySem.Str.ofString "sub") 266,       PySem.Value.str (PySem.Str.ofString "/claim/cut.py") 267, PySem.Value.int 41 0, PySem.Value.int 3 0,       PySem.Value.int 0 0, PySem.Value.int 0 0, PySem.Value.int 3 0, PySem.Value.ref 68, PySem.Value.bool Bool.true,       PySem.Value.int 181 0, PySem.Value.ref 69, PySem.Value.none, PySem.Value.ref 70, PySem.Value.ref 71,       PySem.Value.ref 72, PySem.Value.int 276 0, PySem.Value.int 41 0,       PySem.Value.str (PySem.Str.ofString "/claim/cut.py") 277])   #[]) ::
  (nat_lit 74, PySem.Obj.mk (PySem.Value.type "function") (Option.none) (PySem.Data.func (defAt (i := 7) rfl (PySem.Str.ofString "sub") (3) ([]) (PySem.Value.none) (PySem.Value.none) (PySem.Value.none) (PySem.Value.str (PySem.Str.ofString "gmp.limbs") 187) (Option.none) (PySem.Value.ref 73) (PySem.Value.none) (0))) (#[])) ::
  (nat_lit 75, PySem.Obj.mk (PySem.Value.type "tuple") Option.none (PySem.Data.seq #[]) #[]) ::
  (nat_lit 77, PySem.Obj.mk (PySem.Value.type "tuple") Option.none   (PySem.Data.seq     #[PySem.Value.str (PySem.Str.ofString "some") 284, PySem.Value.str (PySem.Str.ofString "w") 285,       PySem.Value.str (PySem.Str.ofString "mul") 286, PySem.Value.str (PySem.Str.ofString "half") 287])   #[]) ::
  (nat_lit 78, PySem.Obj.mk (PySem.Value.type "tuple") Option.none (PySem.Data.seq #[]) #[]) ::
  (nat_lit 80, PySem.Obj.mk (PySem.Value.type "code") Option.none   (PySem.Data.fields     #[PySem.Value.str (PySem.Str.ofString "product_of_counts") 281,       PySem.Value.str (PySem.Str.ofString "product_of_counts") 282,       PySem.Value.str (PySem.Str.ofString "/claim/cut.py") 283, PySem.Value.int 51 0, PySem.Value.int 3 0,       PySem.Value.int 0 0, PySem.Value.int 0 0, PySem.Value.int 3 0, PySem.Value.ref 75, PySem.Value.bool Bool.true,       PySem.Value.int 181 0, PySem.Value.ref 76, PySem.Value.none, PySem.Value.ref 77, PySem.Value.ref 78,       PySem.Value.ref 79, PySem.Value.int 288 0, PySem.Value.int 51 0,       PySem.Value.str (PySem.Str.ofString "/claim/cut.py") 289])   #[]) ::
  (nat_lit 81, PySem.Obj.mk (PySem.Value.type "function") (Option.none) (PySem.Data.func (defAt (i := 9) rfl (PySem.Str.ofString "product_of_counts") (3) ([]) (PySem.Value.none) (PySem.Value.none) (PySem.Value.none) (PySem.Value.str (PySem.Str.ofString "gmp.counts") 279) (Option.none) (PySem.Value.ref 80) (PySem.Value.none) (0))) (#[])) ::
  (nat_lit 82, PySem.Obj.mk (PySem.Value.type "tuple") Option.none (PySem.Data.seq #[]) #[]) ::
  (nat_lit 84, PySem.Obj.mk (PySem.Value.type "tuple") Option.none   (PySem.Data.seq     #[PySem.Value.str (PySem.Str.ofString "is_below") 296, PySem.Value.str (PySem.Str.ofString "nat") 297])   #[]) ::
  (nat_lit 85, PySem.Obj.mk (PySem.Value.type "tuple") Option.none (PySem.Data.seq #[]) #[]) ::
  (nat_lit 87, PySem.Obj.mk (PySem.Value.type "code") Option.none   (PySem.Data.fields     #[PySem.Value.str (PySem.Str.ofString "signed") 293, PySem.Value.str (PySem.Str.ofString "signed") 294,       PySem.Value.str (PySem.Str.ofString "/claim/cut.py") 295, PySem.Value.int 59 0, PySem.Value.int 2 0,       PySem.Value.int 0 0, PySem.Value.int 0 0, PySem.Value.int 3 0, PySem.Value.ref 82, PySem.Value.bool Bool.true,       PySem.Value.int 181 0, PySem.Value.ref 83, PySem.Value.none, PySem.Value.ref 84, PySem.Value.ref 85,       PySem.Value.ref 86, PySem.Value.int 298 0, PySem.Value.int 59 0,       PySem.Value.str (PySem.Str.ofString "/claim/cut.py") 299])   #[]) ::
  (nat_lit 88, PySem.Obj.mk (PySem.Value.type "function") (Option.none) (PySem.Data.func (defAt (i := 11) rfl (PySem.Str.ofString "signed") (3) ([]) (PySem.Value.none) (PySem.Value.none) (PySem.Value.none) (PySem.Value.str (PySem.Str.ofString "gmp.signed") 291) (Option.none) (PySem.Value.ref 87) (PySem.Value.none) (0))) (#[])) ::
  (nat_lit 89, PySem.Obj.mk (PySem.Value.type "tuple") Option.none (PySem.Data.seq #[]) #[]) ::
  (nat_lit 91, PySem.Obj.mk (PySem.Value.type "tuple") Option.none   (PySem.Data.seq     #[PySem.Value.str (PySem.Str.ofString "x") 304, PySem.Value.str (PySem.Str.ofString "y") 305,       PySem.Value.str (PySem.Str.ofString "w") 306])   #[]) ::
  (nat_lit 92, PySem.Obj.mk (PySem.Value.type "tuple") Option.none (PySem.Data.seq #[]) #[]) ::
  (nat_lit 94, PySem.Obj.mk (PySem.Value.type "code") Option.none   (PySem.Data.fields     #[PySem.Value.str (PySem.Str.ofString "s_add") 301, PySem.Value.str (PySem.Str.ofString "s_add") 302,       PySem.Value.str (PySem.Str.ofString "/claim/cut.py") 303, PySem.Value.int 61 0, PySem.Value.int 3 0,       PySem.Value.int 0 0, PySem.Value.int 0 0, PySem.Value.int 3 0, PySem.Value.ref 89, PySem.Value.bool Bool.true,       PySem.Value.int 181 0, PySem.Value.ref 90, PySem.Value.none, PySem.Value.ref 91, PySem.Value.ref 92,       PySem.Value.ref 93, PySem.Value.int 307 0, PySem.Value.int 61 0,       PySem.Value.str (PySem.Str.ofString "/claim/cut.py") 308])   #[]) ::
  (nat_lit 95, PySem.Obj.mk (PySem.Value.type "function") (Option.none) (PySem.Data.func (defAt (i := 12) rfl (PySem.Str.ofString "s_add") (3) ([]) (PySem.Value.none) (PySem.Value.none) (PySem.Value.none) (PySem.Value.str (PySem.Str.ofString "gmp.signed") 291) (Option.none) (PySem.Value.ref 94) (PySem.Value.none) (0))) (#[])) ::
  (nat_lit 96, PySem.Obj.mk (PySem.Value.type "tuple") Option.none (PySem.Data.seq #[]) #[]) ::
  (nat_lit 98, PySem.Obj.mk (PySem.Value.type "tuple") Option.none   (PySem.Data.seq     #[PySem.Value.str (PySem.Str.ofString "x") 313, PySem.Value.str (PySem.Str.ofString "y") 314,       PySem.Value.str (PySem.Str.ofString "w") 315, PySem.Value.str (PySem.Str.ofString "mul") 316])   #[]) ::
  (nat_lit 99, PySem.Obj.mk (PySem.Value.type "tuple") Option.none (PySem.Data.seq #[]) #[]) ::
  (nat_lit 101, PySem.Obj.mk (PySem.Value.type "code") Option.none   (PySem.Data.fields     #[PySem.Value.str (PySem.Str.ofString "s_mul") 310, PySem.Value.str (PySem.Str.ofString "s_mul") 311,       PySem.Value.str (PySem.Str.ofString "/claim/cut.py") 312, PySem.Value.int 67 0, PySem.Value.int 4 0,       PySem.Value.int 0 0, PySem.Value.int 0 0, PySem.Value.int 3 0, PySem.Value.ref 96, PySem.Value.bool Bool.true,       PySem.Value.int 181 0, PySem.Value.ref 97, PySem.Value.none, PySem.Value.ref 98, PySem.Value.ref 99,       PySem.Value.ref 100, PySem.Value.int 317 0, PySem.Value.int 67 0,       PySem.Value.str (PySem.Str.ofString "/claim/cut.py") 318])   #[]) ::
  (nat_lit 102, PySem.Obj.mk (PySem.Value.type "function") (Option.none) (PySem.Data.func (defAt (i := 13) rfl (PySem.Str.ofString "s_mul") (3) ([]) (PySem.Value.none) (PySem.Value.none) (PySem.Value.none) (PySem.Value.str (PySem.Str.ofString "gmp.signed") 291) (Option.none) (PySem.Value.ref 101) (PySem.Value.none) (0))) (#[])) ::
  (nat_lit 103, PySem.Obj.mk (PySem.Value.type "tuple") Option.none   (PySem.Data.seq #[PySem.Value.int 13 322, PySem.Value.int 591 323, PySem.Value.int 409 324]) #[]) ::
  (nat_lit 104, PySem.Obj.mk (PySem.Value.type "tuple") Option.none   (PySem.Data.seq #[PySem.Value.int 545 326, PySem.Value.int 140 327, PySem.Value.int 134 328]) #[]) ::
  (nat_lit 105, PySem.Obj.mk (PySem.Value.type "tuple") Option.none   (PySem.Data.seq     #[PySem.Value.int 32 330, PySem.Value.int 32 331, PySem.Value.int 32 332, PySem.Value.int 9 333,       PySem.Value.int 125 334, PySem.Value.int 23 335, PySem.Value.int 23 336, PySem.Value.int 23 337,       PySem.Value.int 29 338, PySem.Value.int 29 339, PySem.Value.int 29 340])   #[]) ::
  (nat_lit 106, PySem.Obj.mk (PySem.Value.type "tuple") Option.none (PySem.Data.seq #[]) #[]) ::
  (nat_lit 108, PySem.Obj.mk (PySem.Value.type "tuple") Option.none   (PySem.Data.seq     #[PySem.Value.str (PySem.Str.ofString "groups") 345, PySem.Value.str (PySem.Str.ofString "w") 346,       PySem.Value.str (PySem.Str.ofString "mul") 347, PySem.Value.str (PySem.Str.ofString "found") 348,       PySem.Value.str (PySem.Str.ofString "group") 349])   #[]) ::
  (nat_lit 109, PySem.Obj.mk (PySem.Value.type "tuple") Option.none (PySem.Data.seq #[]) #[]) ::
  (nat_lit 111, PySem.Obj.mk (PySem.Value.type "code") Option.none   (PySem.Data.fields     #[PySem.Value.str (PySem.Str.ofString "of_groups") 342, PySem.Value.str (PySem.Str.ofString "of_groups") 343,       PySem.Value.str (PySem.Str.ofString "/claim/cut.py") 344, PySem.Value.int 73 0, PySem.Value.int 3 0,       PySem.Value.int 0 0, PySem.Value.int 0 0, PySem.Value.int 3 0, PySem.Value.ref 106, PySem.Value.bool Bool.true,       PySem.Value.int 181 0, PySem.Value.ref 107, PySem.Value.none, PySem.Value.ref 108, PySem.Value.ref 109,       PySem.Value.ref 110, PySem.Value.int 350 0, PySem.Value.int 73 0,       PySem.Value.str (PySem.Str.ofString "/claim/cut.py") 351])   #[]) ::
  (nat_lit 112, PySem.Obj.mk (PySem.Value.type "function") (Option.none) (PySem.Data.func (defAt (i := 18) rfl (PySem.Str.ofString "of_groups") (3) ([]) (PySem.Value.none) (PySem.Value.none) (PySem.Value.none) (PySem.Value.str (PySem.Str.ofString "gmp.splitting") 320) (Option.none) (PySem.Value.ref 111) (PySem.Value.none) (0))) (#[])) ::
  (nat_lit 120, PySem.Obj.mk (PySem.Value.type "tuple") Option.none (PySem.Data.seq #[]) #[]) ::
  (nat_lit 122, PySem.Obj.mk (PySem.Value.type "tuple") Option.none   (PySem.Data.seq     #[PySem.Value.str (PySem.Str.ofString "self") 368, PySem.Value.str (PySem.Str.ofString "k") 369,       PySem.Value.str (PySem.Str.ofString "w") 370, PySem.Value.str (PySem.Str.ofString "mul") 371])   #[]) ::
  (nat_lit 123, PySem.Obj.mk (PySem.Value.type "tuple") Option.none (PySem.Data.seq #[]) #[]) ::
  (nat_lit 125, PySem.Obj.mk (PySem.Value.type "code") Option.none   (PySem.Data.fields     #[PySem.Value.str (PySem.Str.ofString "at") 365, PySem.Value.str (PySem.Str.ofString "EulerSeries.at") 366,       PySem.Value.str (PySem.Str.ofString "/claim/cut.py") 367, PySem.Value.int 80 0, PySem.Value.int 4 0,       PySem.Value.int 0 0, PySem.Value.int 0 0, PySem.Value.int 3 0, PySem.Value.ref 120, PySem.Value.bool Bool.true,       PySem.Value.int 181 0, PySem.Value.ref 121, PySem.Value.none, PySem.Value.ref 122, PySem.Value.ref 123,       PySem.Value.ref 124, PySem.Value.int 372 0, PySem.Value.int 80 0,       PySem.Value.str (PySem.Str.ofString "/claim/cut.py") 373])   #[]) ::
  (nat_lit 126, PySem.Obj.mk (PySem.Value.type "function") (Option.none) (PySem.Data.func (methAt (i := 19) (j := 0) rfl rfl (PySem.Str.ofString "EulerSeries.at") (3) ([]) (PySem.Value.none) (PySem.Value.none) (PySem.Value.none) (PySem.Value.str (PySem.Str.ofString "gmp.splitting") 320) (Option.none) (PySem.Value.ref 125) (PySem.Value.none) (0))) (#[])) ::
  (nat_lit 127, PySem.Obj.mk (PySem.Value.type "tuple") Option.none (PySem.Data.seq #[]) #[]) ::
  (nat_lit 128, PySem.Obj.mk (PySem.Value.type "dict") Option.none   (PySem.Data.dict     #[PySem.DictEntry.mk (PySem.PyData.keyHash P (PySem.Str.ofString "__module__"))         (PySem.Value.str (PySem.Str.ofString "__module__") 360)         (PySem.Value.str (PySem.Str.ofString "gmp.splitting") 320),       PySem.DictEntry.mk (PySem.PyData.keyHash P (PySem.Str.ofString "__firstlineno__"))         (PySem.Value.str (PySem.Str.ofString "__firstlineno__") 364) (PySem.Value.int 78 363),       PySem.DictEntry.mk (PySem.PyData.keyHash P (PySem.Str.ofString "at"))         (PySem.Value.str (PySem.Str.ofString "at") 374) (PySem.Value.ref 126),       PySem.DictEntry.mk (PySem.PyData.keyHash P (PySem.Str.ofString "__static_attributes__"))         (PySem.Value.str (PySem.Str.ofString "__static_attributes__") 375) (PySem.Value.ref 127),       PySem.DictEntry.mk (PySem.PyData.keyHash P (PySem.Str.ofString "__dict__"))         (PySem.Value.str (PySem.Str.ofString "__dict__") 377) (PySem.Value.ref 130),       PySem.DictEntry.mk (PySem.PyData.keyHash P (PySem.Str.ofString "__weakref__"))         (PySem.Value.str (PySem.Str.ofString "__weakref__") 379) (PySem.Value.ref 131),       PySem.DictEntry.mk (PySem.PyData.keyHash P (PySem.Str.ofString "__doc__"))         (PySem.Value.str (PySem.Str.ofString "__doc__") 380) PySem.Value.none]     4)   #[]) ::
  (nat_lit 129, PySem.Obj.mk (PySem.Value.type "type") Option.none   (PySem.Data.cls     (PySem.ClassData.mk (PySem.Str.ofString "EulerSeries") [PySem.Value.type "object"]       [PySem.Value.ref 129, PySem.Value.type "object"] 128 (PySem.Str.ofString "EulerSeries") Bool.true [] [] Bool.false       Option.none Bool.false))   #[Option.none, Option.none, Option.some (PySem.Value.str (PySem.Str.ofString "EulerSeries") 353),     Option.some (PySem.Value.str (PySem.Str.ofString "EulerSeries") 361),     Option.some (PySem.Value.builtin "object.__new__"), Option.some (PySem.Value.bool Bool.true)]) ::
  (nat_lit 130, PySem.Obj.mk (PySem.Value.type "getset_descriptor") Option.none   (PySem.Data.fields     #[PySem.Value.str (PySem.Str.ofString "__dict__") 376, PySem.Value.ref 129, PySem.Value.builtin "function.__dict__",       PySem.Value.builtin "function.__dict__#set"])   #[]) ::
  (nat_lit 131, PySem.Obj.mk (PySem.Value.type "getset_descriptor") Option.none   (PySem.Data.fields     #[PySem.Value.str (PySem.Str.ofString "__weakref__") 378, PySem.Value.ref 129,       PySem.Value.builtin "ExceptionGroup.__weakref__", PySem.Value.none])   #[]) ::
  (nat_lit 141, PySem.Obj.mk (PySem.Value.type "tuple") Option.none (PySem.Data.seq #[]) #[]) ::
  (nat_lit 143, PySem.Obj.mk (PySem.Value.type "tuple") Option.none   (PySem.Data.seq #[PySem.Value.str (PySem.Str.ofString "self") 398, PySem.Value.str (PySem.Str.ofString "x") 399]) #[]) ::
  (nat_lit 144, PySem.Obj.mk (PySem.Value.type "tuple") Option.none (PySem.Data.seq #[]) #[]) ::
  (nat_lit 146, PySem.Obj.mk (PySem.Value.type "code") Option.none   (PySem.Data.fields     #[PySem.Value.str (PySem.Str.ofString "__init__") 395,       PySem.Value.str (PySem.Str.ofString "ArctanSeries.__init__") 396,       PySem.Value.str (PySem.Str.ofString "/claim/cut.py") 397, PySem.Value.int 84 0, PySem.Value.int 2 0,       PySem.Value.int 0 0, PySem.Value.int 0 0, PySem.Value.int 3 0, PySem.Value.ref 141, PySem.Value.bool Bool.true,       PySem.Value.int 181 0, PySem.Value.ref 142, PySem.Value.none, PySem.Value.ref 143, PySem.Value.ref 144,       PySem.Value.ref 145, PySem.Value.int 400 0, PySem.Value.int 84 0,       PySem.Value.str (PySem.Str.ofString "/claim/cut.py") 401])   #[]) ::
  (nat_lit 147, PySem.Obj.mk (PySem.Value.type "function") (Option.none) (PySem.Data.func (methAt (i := 20) (j := 0) rfl rfl (PySem.Str.ofString "ArctanSeries.__init__") (3) ([]) (PySem.Value.none) (PySem.Value.none) (PySem.Value.none) (PySem.Value.str (PySem.Str.ofString "gmp.splitting") 320) (Option.none) (PySem.Value.ref 146) (PySem.Value.none) (0))) (#[])) ::
  (nat_lit 148, PySem.Obj.mk (PySem.Value.type "tuple") Option.none (PySem.Data.seq #[]) #[]) ::
  (nat_lit 150, PySem.Obj.mk (PySem.Value.type "tuple") Option.none   (PySem.Data.seq     #[PySem.Value.str (PySem.Str.ofString "self") 406, PySem.Value.str (PySem.Str.ofString "k") 407,       PySem.Value.str (PySem.Str.ofString "w") 408, PySem.Value.str (PySem.Str.ofString "mul") 409])   #[]) ::
  (nat_lit 151, PySem.Obj.mk (PySem.Value.type "tuple") Option.none (PySem.Data.seq #[]) #[]) ::
  (nat_lit 153, PySem.Obj.mk (PySem.Value.type "code") Option.none   (PySem.Data.fields     #[PySem.Value.str (PySem.Str.ofString "at") 403, PySem.Value.str (PySem.Str.ofString "ArctanSeries.at") 404,       PySem.Value.str (PySem.Str.ofString "/claim/cut.py") 405, PySem.Value.int 87 0, PySem.Value.int 4 0,       PySem.Value.int 0 0, PySem.Value.int 0 0, PySem.Value.int 3 0, PySem.Value.ref 148, PySem.Value.bool Bool.true,       PySem.Value.int 181 0, PySem.Value.ref 149, PySem.Value.none, PySem.Value.ref 150, PySem.Value.ref 151,       PySem.Value.ref 152, PySem.Value.int 410 0, PySem.Value.int 87 0,       PySem.Value.str (PySem.Str.ofString "/claim/cut.py") 411])   #[]) ::
  (nat_lit 154, PySem.Obj.mk (PySem.Value.type "function") (Option.none) (PySem.Data.func (methAt (i := 20) (j := 1) rfl rfl (PySem.Str.ofString "ArctanSeries.at") (3) ([]) (PySem.Value.none) (PySem.Value.none) (PySem.Value.none) (PySem.Value.str (PySem.Str.ofString "gmp.splitting") 320) (Option.none) (PySem.Value.ref 153) (PySem.Value.none) (0))) (#[])) ::
  (nat_lit 155, PySem.Obj.mk (PySem.Value.type "tuple") Option.none (PySem.Data.seq #[PySem.Value.str (PySem.Str.ofString "x") 413]) #[]) ::
  (nat_lit 156, PySem.Obj.mk (PySem.Value.type "dict") Option.none   (PySem.Data.dict     #[PySem.DictEntry.mk (PySem.PyData.keyHash P (PySem.Str.ofString "__module__"))         (PySem.Value.str (PySem.Str.ofString "__module__") 390)         (PySem.Value.str (PySem.Str.ofString "gmp.splitting") 320),       PySem.DictEntry.mk (PySem.PyData.keyHash P (PySem.Str.ofString "__firstlineno__"))         (PySem.Value.str (PySem.Str.ofString "__firstlineno__") 394) (PySem.Value.int 82 393),       PySem.DictEntry.mk (PySem.PyData.keyHash P (PySem.Str.ofString "__init__"))         (PySem.Value.str (PySem.Str.ofString "__init__") 402) (PySem.Value.ref 147),       PySem.DictEntry.mk (PySem.PyData.keyHash P (PySem.Str.ofString "at"))         (PySem.Value.str (PySem.Str.ofString "at") 412) (PySem.Value.ref 154),       PySem.DictEntry.mk (PySem.PyData.keyHash P (PySem.Str.ofString "__static_attributes__"))         (PySem.Value.str (PySem.Str.ofString "__static_attributes__") 414) (PySem.Value.ref 155),       PySem.DictEntry.mk (PySem.PyData.keyHash P (PySem.Str.ofString "__dict__"))         (PySem.Value.str (PySem.Str.ofString "__dict__") 416) (PySem.Value.ref 158),       PySem.DictEntry.mk (PySem.PyData.keyHash P (PySem.Str.ofString "__weakref__"))         (PySem.Value.str (PySem.Str.ofString "__weakref__") 418) (PySem.Value.ref 159),       PySem.DictEntry.mk (PySem.PyData.keyHash P (PySem.Str.ofString "__doc__"))         (PySem.Value.str (PySem.Str.ofString "__doc__") 419) PySem.Value.none]     4)   #[]) ::
  (nat_lit 157, PySem.Obj.mk (PySem.Value.type "type") Option.none   (PySem.Data.cls     (PySem.ClassData.mk (PySem.Str.ofString "ArctanSeries") [PySem.Value.type "object"]       [PySem.Value.ref 157, PySem.Value.type "object"] 156 (PySem.Str.ofString "ArctanSeries") Bool.true [] []       Bool.false Option.none Bool.false))   #[Option.none, Option.none, Option.some (PySem.Value.str (PySem.Str.ofString "ArctanSeries") 383),     Option.some (PySem.Value.str (PySem.Str.ofString "ArctanSeries") 391),     Option.some (PySem.Value.builtin "object.__new__"), Option.some (PySem.Value.bool Bool.true)]) ::
  (nat_lit 158, PySem.Obj.mk (PySem.Value.type "getset_descriptor") Option.none   (PySem.Data.fields     #[PySem.Value.str (PySem.Str.ofString "__dict__") 415, PySem.Value.ref 157, PySem.Value.builtin "function.__dict__",       PySem.Value.builtin "function.__dict__#set"])   #[]) ::
  (nat_lit 159, PySem.Obj.mk (PySem.Value.type "getset_descriptor") Option.none   (PySem.Data.fields     #[PySem.Value.str (PySem.Str.ofString "__weakref__") 417, PySem.Value.ref 157,       PySem.Value.builtin "ExceptionGroup.__weakref__", PySem.Value.none])   #[]) ::
  (nat_lit 169, PySem.Obj.mk (PySem.Value.type "tuple") Option.none (PySem.Data.seq #[]) #[]) ::
  (nat_lit 171, PySem.Obj.mk (PySem.Value.type "tuple") Option.none   (PySem.Data.seq     #[PySem.Value.str (PySem.Str.ofString "self") 437, PySem.Value.str (PySem.Str.ofString "k") 438,       PySem.Value.str (PySem.Str.ofString "w") 439, PySem.Value.str (PySem.Str.ofString "mul") 440,       PySem.Value.str (PySem.Str.ofString "above") 441, PySem.Value.str (PySem.Str.ofString "below") 442,       PySem.Value.str (PySem.Str.ofString "step") 443])   #[]) ::
  (nat_lit 172, PySem.Obj.mk (PySem.Value.type "tuple") Option.none (PySem.Data.seq #[]) #[]) ::
  (nat_lit 174, PySem.Obj.mk (PySem.Value.type "code") Option.none   (PySem.Data.fields     #[PySem.Value.str (PySem.Str.ofString "at") 434, PySem.Value.str (PySem.Str.ofString "ChudnovskySeries.at") 435,       PySem.Value.str (PySem.Str.ofString "/claim/cut.py") 436, PySem.Value.int 91 0, PySem.Value.int 4 0,       PySem.Value.int 0 0, PySem.Value.int 0 0, PySem.Value.int 3 0, PySem.Value.ref 169, PySem.Value.bool Bool.true,       PySem.Value.int 181 0, PySem.Value.ref 170, PySem.Value.none, PySem.Value.ref 171, PySem.Value.ref 172,       PySem.Value.ref 173, PySem.Value.int 444 0, PySem.Value.int 91 0,       PySem.Value.str (PySem.Str.ofString "/claim/cut.py") 445])   #[]) ::
  (nat_lit 175, PySem.Obj.mk (PySem.Value.type "function") (Option.none) (PySem.Data.func (methAt (i := 21) (j := 0) rfl rfl (PySem.Str.ofString "ChudnovskySeries.at") (3) ([]) (PySem.Value.none) (PySem.Value.none) (PySem.Value.none) (PySem.Value.str (PySem.Str.ofString "gmp.splitting") 320) (Option.none) (PySem.Value.ref 174) (PySem.Value.none) (0))) (#[])) ::
  (nat_lit 176, PySem.Obj.mk (PySem.Value.type "tuple") Option.none (PySem.Data.seq #[]) #[]) ::
  (nat_lit 177, PySem.Obj.mk (PySem.Value.type "dict") Option.none   (PySem.Data.dict     #[PySem.DictEntry.mk (PySem.PyData.keyHash P (PySem.Str.ofString "__module__"))         (PySem.Value.str (PySem.Str.ofString "__module__") 429)         (PySem.Value.str (PySem.Str.ofString "gmp.splitting") 320),       PySem.DictEntry.mk (PySem.PyData.keyHash P (PySem.Str.ofString "__firstlineno__"))         (PySem.Value.str (PySem.Str.ofString "__firstlineno__") 433) (PySem.Value.int 89 432),       PySem.DictEntry.mk (PySem.PyData.keyHash P (PySem.Str.ofString "at"))         (PySem.Value.str (PySem.Str.ofString "at") 446) (PySem.Value.ref 175),       PySem.DictEntry.mk (PySem.PyData.keyHash P (PySem.Str.ofString "__static_attributes__"))         (PySem.Value.str (PySem.Str.ofString "__static_attributes__") 447) (PySem.Value.ref 176),       PySem.DictEntry.mk (PySem.PyData.keyHash P (PySem.Str.ofString "__dict__"))         (PySem.Value.str (PySem.Str.ofString "__dict__") 449) (PySem.Value.ref 179),       PySem.DictEntry.mk (PySem.PyData.keyHash P (PySem.Str.ofString "__weakref__"))         (PySem.Value.str (PySem.Str.ofString "__weakref__") 451) (PySem.Value.ref 180),       PySem.DictEntry.mk (PySem.PyData.keyHash P (PySem.Str.ofString "__doc__"))         (PySem.Value.str (PySem.Str.ofString "__doc__") 452) PySem.Value.none]     4)   #[]) ::
  (nat_lit 178, PySem.Obj.mk (PySem.Value.type "type") Option.none   (PySem.Data.cls     (PySem.ClassData.mk (PySem.Str.ofString "ChudnovskySeries") [PySem.Value.type "object"]       [PySem.Value.ref 178, PySem.Value.type "object"] 177 (PySem.Str.ofString "ChudnovskySeries") Bool.true [] []       Bool.false Option.none Bool.false))   #[Option.none, Option.none, Option.some (PySem.Value.str (PySem.Str.ofString "ChudnovskySeries") 422),     Option.some (PySem.Value.str (PySem.Str.ofString "ChudnovskySeries") 430),     Option.some (PySem.Value.builtin "object.__new__"), Option.some (PySem.Value.bool Bool.true)]) ::
  (nat_lit 179, PySem.Obj.mk (PySem.Value.type "getset_descriptor") Option.none   (PySem.Data.fields     #[PySem.Value.str (PySem.Str.ofString "__dict__") 448, PySem.Value.ref 178, PySem.Value.builtin "function.__dict__",       PySem.Value.builtin "function.__dict__#set"])   #[]) ::
  (nat_lit 180, PySem.Obj.mk (PySem.Value.type "getset_descriptor") Option.none   (PySem.Data.fields     #[PySem.Value.str (PySem.Str.ofString "__weakref__") 450, PySem.Value.ref 178,       PySem.Value.builtin "ExceptionGroup.__weakref__", PySem.Value.none])   #[]) ::
  (nat_lit 183, PySem.Obj.mk (PySem.Value.type "tuple") Option.none (PySem.Data.seq #[]) #[]) ::
  (nat_lit 185, PySem.Obj.mk (PySem.Value.type "tuple") Option.none   (PySem.Data.seq     #[PySem.Value.str (PySem.Str.ofString "series") 458, PySem.Value.str (PySem.Str.ofString "begin") 459,       PySem.Value.str (PySem.Str.ofString "end") 460, PySem.Value.str (PySem.Str.ofString "w") 461,       PySem.Value.str (PySem.Str.ofString "mul") 462, PySem.Value.str (PySem.Str.ofString "is_below") 463,       PySem.Value.str (PySem.Str.ofString "above") 464, PySem.Value.str (PySem.Str.ofString "below") 465,       PySem.Value.str (PySem.Str.ofString "front") 466, PySem.Value.str (PySem.Str.ofString "half") 467,       PySem.Value.str (PySem.Str.ofString "one") 468, PySem.Value.str (PySem.Str.ofString "other") 469,       PySem.Value.str (PySem.Str.ofString "told") 470])   #[]) ::
  (nat_lit 186, PySem.Obj.mk (PySem.Value.type "tuple") Option.none (PySem.Data.seq #[]) #[]) ::
  (nat_lit 188, PySem.Obj.mk (PySem.Value.type "code") Option.none   (PySem.Data.fields     #[PySem.Value.str (PySem.Str.ofString "split_sum") 455, PySem.Value.str (PySem.Str.ofString "split_sum") 456,       PySem.Value.str (PySem.Str.ofString "/claim/cut.py") 457, PySem.Value.int 96 0, PySem.Value.int 5 0,       PySem.Value.int 0 0, PySem.Value.int 0 0, PySem.Value.int 3 0, PySem.Value.ref 183, PySem.Value.bool Bool.true,       PySem.Value.int 181 0, PySem.Value.ref 184, PySem.Value.none, PySem.Value.ref 185, PySem.Value.ref 186,       PySem.Value.ref 187, PySem.Value.int 471 0, PySem.Value.int 96 0,       PySem.Value.str (PySem.Str.ofString "/claim/cut.py") 472])   #[]) ::
  (nat_lit 189, PySem.Obj.mk (PySem.Value.type "function") (Option.none) (PySem.Data.func (defAt (i := 22) rfl (PySem.Str.ofString "split_sum") (3) ([]) (PySem.Value.none) (PySem.Value.none) (PySem.Value.none) (PySem.Value.str (PySem.Str.ofString "gmp.splitting") 320) (Option.none) (PySem.Value.ref 188) (PySem.Value.none) (0))) (#[])) ::
  (nat_lit 190, PySem.Obj.mk (PySem.Value.type "tuple") Option.none (PySem.Data.seq #[]) #[]) ::
  (nat_lit 192, PySem.Obj.mk (PySem.Value.type "tuple") Option.none   (PySem.Data.seq     #[PySem.Value.str (PySem.Str.ofString "series") 477, PySem.Value.str (PySem.Str.ofString "many") 478,       PySem.Value.str (PySem.Str.ofString "w") 479, PySem.Value.str (PySem.Str.ofString "mul") 480,       PySem.Value.str (PySem.Str.ofString "products") 481, PySem.Value.str (PySem.Str.ofString "below") 482,       PySem.Value.str (PySem.Str.ofString "told") 483])   #[]) ::
  (nat_lit 193, PySem.Obj.mk (PySem.Value.type "tuple") Option.none (PySem.Data.seq #[]) #[]) ::
  (nat_lit 195, PySem.Obj.mk (PySem.Value.type "code") Option.none   (PySem.Data.fields     #[PySem.Value.str (PySem.Str.ofString "series_fraction") 474,       PySem.Value.str (PySem.Str.ofString "series_fraction") 475,       PySem.Value.str (PySem.Str.ofString "/claim/cut.py") 476, PySem.Value.int 108 0, PySem.Value.int 4 0,       PySem.Value.int 0 0, PySem.Value.int 0 0, PySem.Value.int 3 0, PySem.Value.ref 190, PySem.Value.bool Bool.true,       PySem.Value.int 181 0, PySem.Value.ref 191, PySem.Value.none, PySem.Value.ref 192, PySem.Value.ref 193,       PySem.Value.ref 194, PySem.Value.int 484 0, PySem.Value.int 108 0,       PySem.Value.str (PySem.Str.ofString "/claim/cut.py") 485])   #[]) ::
  (nat_lit 196, PySem.Obj.mk (PySem.Value.type "function") (Option.none) (PySem.Data.func (defAt (i := 23) rfl (PySem.Str.ofString "series_fraction") (3) ([]) (PySem.Value.none) (PySem.Value.none) (PySem.Value.none) (PySem.Value.str (PySem.Str.ofString "gmp.splitting") 320) (Option.none) (PySem.Value.ref 195) (PySem.Value.none) (0))) (#[])) ::
  (nat_lit 197, PySem.Obj.mk (PySem.Value.type "tuple") Option.none (PySem.Data.seq #[]) #[]) ::
  (nat_lit 199, PySem.Obj.mk (PySem.Value.type "tuple") Option.none   (PySem.Data.seq     #[PySem.Value.str (PySem.Str.ofString "a") 492, PySem.Value.str (PySem.Str.ofString "b") 493,       PySem.Value.str (PySem.Str.ofString "w") 494, PySem.Value.str (PySem.Str.ofString "found") 495,       PySem.Value.str (PySem.Str.ofString "mask") 496, PySem.Value.str (PySem.Str.ofString "at") 497,       PySem.Value.str (PySem.Str.ofString "limb") 498, PySem.Value.str (PySem.Str.ofString "carry") 499,       PySem.Value.str (PySem.Str.ofString "spot") 500, PySem.Value.str (PySem.Str.ofString "other") 501])   #[]) ::
  (nat_lit 200, PySem.Obj.mk (PySem.Value.type "tuple") Option.none (PySem.Data.seq #[]) #[]) ::
  (nat_lit 202, PySem.Obj.mk (PySem.Value.type "code") Option.none   (PySem.Data.fields     #[PySem.Value.str (PySem.Str.ofString "mul_school") 489, PySem.Value.str (PySem.Str.ofString "mul_school") 490,       PySem.Value.str (PySem.Str.ofString "/claim/cut.py") 491, PySem.Value.int 114 0, PySem.Value.int 3 0,       PySem.Value.int 0 0, PySem.Value.int 0 0, PySem.Value.int 3 0, PySem.Value.ref 197, PySem.Value.bool Bool.true,       PySem.Value.int 181 0, PySem.Value.ref 198, PySem.Value.none, PySem.Value.ref 199, PySem.Value.ref 200,       PySem.Value.ref 201, PySem.Value.int 502 0, PySem.Value.int 114 0,       PySem.Value.str (PySem.Str.ofString "/claim/cut.py") 503])   #[]) ::
  (nat_lit 203, PySem.Obj.mk (PySem.Value.type "function") (Option.none) (PySem.Data.func (defAt (i := 25) rfl (PySem.Str.ofString "mul_school") (3) ([]) (PySem.Value.none) (PySem.Value.none) (PySem.Value.none) (PySem.Value.str (PySem.Str.ofString "gmp.school") 487) (Option.none) (PySem.Value.ref 202) (PySem.Value.none) (0))) (#[])) ::
  (nat_lit 204, PySem.Obj.mk (PySem.Value.type "tuple") Option.none (PySem.Data.seq #[]) #[]) ::
  (nat_lit 206, PySem.Obj.mk (PySem.Value.type "tuple") Option.none   (PySem.Data.seq     #[PySem.Value.str (PySem.Str.ofString "rope") 510, PySem.Value.str (PySem.Str.ofString "many") 511,       PySem.Value.str (PySem.Str.ofString "turn") 512])   #[]) ::
  (nat_lit 207, PySem.Obj.mk (PySem.Value.type "tuple") Option.none (PySem.Data.seq #[]) #[]) ::
  (nat_lit 209, PySem.Obj.mk (PySem.Value.type "code") Option.none   (PySem.Data.fields     #[PySem.Value.str (PySem.Str.ofString "_law_next") 507, PySem.Value.str (PySem.Str.ofString "_law_next") 508,       PySem.Value.str (PySem.Str.ofString "/claim/cut.py") 509, PySem.Value.int 125 0, PySem.Value.int 2 0,       PySem.Value.int 0 0, PySem.Value.int 0 0, PySem.Value.int 3 0, PySem.Value.ref 204, PySem.Value.bool Bool.true,       PySem.Value.int 181 0, PySem.Value.ref 205, PySem.Value.none, PySem.Value.ref 206, PySem.Value.ref 207,       PySem.Value.ref 208, PySem.Value.int 513 0, PySem.Value.int 125 0,       PySem.Value.str (PySem.Str.ofString "/claim/cut.py") 514])   #[]) ::
  (nat_lit 210, PySem.Obj.mk (PySem.Value.type "function") (Option.none) (PySem.Data.func (defAt (i := 27) rfl (PySem.Str.ofString "_law_next") (3) ([]) (PySem.Value.none) (PySem.Value.none) (PySem.Value.none) (PySem.Value.str (PySem.Str.ofString "law_rr0055_01") 505) (Option.none) (PySem.Value.ref 209) (PySem.Value.none) (0))) (#[])) ::
  (nat_lit 211, PySem.Obj.mk (PySem.Value.type "tuple") Option.none (PySem.Data.seq #[]) #[]) ::
  (nat_lit 213, PySem.Obj.mk (PySem.Value.type "tuple") Option.none   (PySem.Data.seq     #[PySem.Value.str (PySem.Str.ofString "number") 519, PySem.Value.str (PySem.Str.ofString "w") 520,       PySem.Value.str (PySem.Str.ofString "found") 521])   #[]) ::
  (nat_lit 214, PySem.Obj.mk (PySem.Value.type "tuple") Option.none (PySem.Data.seq #[]) #[]) ::
  (nat_lit 216, PySem.Obj.mk (PySem.Value.type "code") Option.none   (PySem.Data.fields     #[PySem.Value.str (PySem.Str.ofString "_law_row") 516, PySem.Value.str (PySem.Str.ofString "_law_row") 517,       PySem.Value.str (PySem.Str.ofString "/claim/cut.py") 518, PySem.Value.int 129 0, PySem.Value.int 2 0,       PySem.Value.int 0 0, PySem.Value.int 0 0, PySem.Value.int 3 0, PySem.Value.ref 211, PySem.Value.bool Bool.true,       PySem.Value.int 181 0, PySem.Value.ref 212, PySem.Value.none, PySem.Value.ref 213, PySem.Value.ref 214,       PySem.Value.ref 215, PySem.Value.int 522 0, PySem.Value.int 129 0,       PySem.Value.str (PySem.Str.ofString "/claim/cut.py") 523])   #[]) ::
  (nat_lit 217, PySem.Obj.mk (PySem.Value.type "function") (Option.none) (PySem.Data.func (defAt (i := 28) rfl (PySem.Str.ofString "_law_row") (3) ([]) (PySem.Value.none) (PySem.Value.none) (PySem.Value.none) (PySem.Value.str (PySem.Str.ofString "law_rr0055_01") 505) (Option.none) (PySem.Value.ref 216) (PySem.Value.none) (0))) (#[])) ::
  (nat_lit 218, PySem.Obj.mk (PySem.Value.type "tuple") Option.none (PySem.Data.seq #[]) #[]) ::
  (nat_lit 220, PySem.Obj.mk (PySem.Value.type "tuple") Option.none   (PySem.Data.seq #[PySem.Value.str (PySem.Str.ofString "number") 528, PySem.Value.str (PySem.Str.ofString "w") 529])   #[]) ::
  (nat_lit 221, PySem.Obj.mk (PySem.Value.type "tuple") Option.none (PySem.Data.seq #[]) #[]) ::
  (nat_lit 223, PySem.Obj.mk (PySem.Value.type "code") Option.none   (PySem.Data.fields     #[PySem.Value.str (PySem.Str.ofString "_law_signed") 525, PySem.Value.str (PySem.Str.ofString "_law_signed") 526,       PySem.Value.str (PySem.Str.ofString "/claim/cut.py") 527, PySem.Value.int 135 0, PySem.Value.int 2 0,       PySem.Value.int 0 0, PySem.Value.int 0 0, PySem.Value.int 3 0, PySem.Value.ref 218, PySem.Value.bool Bool.true,       PySem.Value.int 181 0, PySem.Value.ref 219, PySem.Value.none, PySem.Value.ref 220, PySem.Value.ref 221,       PySem.Value.ref 222, PySem.Value.int 530 0, PySem.Value.int 135 0,       PySem.Value.str (PySem.Str.ofString "/claim/cut.py") 531])   #[]) ::
  (nat_lit 224, PySem.Obj.mk (PySem.Value.type "function") (Option.none) (PySem.Data.func (defAt (i := 29) rfl (PySem.Str.ofString "_law_signed") (3) ([]) (PySem.Value.none) (PySem.Value.none) (PySem.Value.none) (PySem.Value.str (PySem.Str.ofString "law_rr0055_01") 505) (Option.none) (PySem.Value.ref 223) (PySem.Value.none) (0))) (#[])) ::
  (nat_lit 225, PySem.Obj.mk (PySem.Value.type "tuple") Option.none (PySem.Data.seq #[]) #[]) ::
  (nat_lit 227, PySem.Obj.mk (PySem.Value.type "tuple") Option.none   (PySem.Data.seq     #[PySem.Value.str (PySem.Str.ofString "form") 536, PySem.Value.str (PySem.Str.ofString "x") 537,       PySem.Value.str (PySem.Str.ofString "k") 538])   #[]) ::
  (nat_lit 228, PySem.Obj.mk (PySem.Value.type "tuple") Option.none (PySem.Data.seq #[]) #[]) ::
  (nat_lit 230, PySem.Obj.mk (PySem.Value.type "code") Option.none   (PySem.Data.fields     #[PySem.Value.str (PySem.Str.ofString "_law_term") 533, PySem.Value.str (PySem.Str.ofString "_law_term") 534,       PySem.Value.str (PySem.Str.ofString "/claim/cut.py") 535, PySem.Value.int 137 0, PySem.Value.int 3 0,       PySem.Value.int 0 0, PySem.Value.int 0 0, PySem.Value.int 3 0, PySem.Value.ref 225, PySem.Value.bool Bool.true,       PySem.Value.int 181 0, PySem.Value.ref 226, PySem.Value.none, PySem.Value.ref 227, PySem.Value.ref 228,       PySem.Value.ref 229, PySem.Value.int 539 0, PySem.Value.int 137 0,       PySem.Value.str (PySem.Str.ofString "/claim/cut.py") 540])   #[]) ::
  (nat_lit 231, PySem.Obj.mk (PySem.Value.type "function") (Option.none) (PySem.Data.func (defAt (i := 30) rfl (PySem.Str.ofString "_law_term") (3) ([]) (PySem.Value.none) (PySem.Value.none) (PySem.Value.none) (PySem.Value.str (PySem.Str.ofString "law_rr0055_01") 505) (Option.none) (PySem.Value.ref 230) (PySem.Value.none) (0))) (#[])) ::
  (nat_lit 232, PySem.Obj.mk (PySem.Value.type "tuple") Option.none (PySem.Data.seq #[]) #[]) ::
  (nat_lit 234, PySem.Obj.mk (PySem.Value.type "tuple") Option.none   (PySem.Data.seq     #[PySem.Value.str (PySem.Str.ofString "form") 545, PySem.Value.str (PySem.Str.ofString "x") 546,       PySem.Value.str (PySem.Str.ofString "begin") 547, PySem.Value.str (PySem.Str.ofString "end") 548,       PySem.Value.str (PySem.Str.ofString "above") 549, PySem.Value.str (PySem.Str.ofString "below") 550,       PySem.Value.str (PySem.Str.ofString "told") 551, PySem.Value.str (PySem.Str.ofString "k") 552,       PySem.Value.str (PySem.Str.ofString "p") 553, PySem.Value.str (PySem.Str.ofString "q") 554,       PySem.Value.str (PySem.Str.ofString "a") 555])   #[]) ::
  (nat_lit 235, PySem.Obj.mk (PySem.Value.type "tuple") Option.none (PySem.Data.seq #[]) #[]) ::
  (nat_lit 237, PySem.Obj.mk (PySem.Value.type "code") Option.none   (PySem.Data.fields     #[PySem.Value.str (PySem.Str.ofString "_law_piece") 542, PySem.Value.str (PySem.Str.ofString "_law_piece") 543,       PySem.Value.str (PySem.Str.ofString "/claim/cut.py") 544, PySem.Value.int 143 0, PySem.Value.int 4 0,       PySem.Value.int 0 0, PySem.Value.int 0 0, PySem.Value.int 3 0, PySem.Value.ref 232, PySem.Value.bool Bool.true,       PySem.Value.int 181 0, PySem.Value.ref 233, PySem.Value.none, PySem.Value.ref 234, PySem.Value.ref 235,       PySem.Value.ref 236, PySem.Value.int 556 0, PySem.Value.int 143 0,       PySem.Value.str (PySem.Str.ofString "/claim/cut.py") 557])   #[]) ::
  (nat_lit 238, PySem.Obj.mk (PySem.Value.type "function") (Option.none) (PySem.Data.func (defAt (i := 31) rfl (PySem.Str.ofString "_law_piece") (3) ([]) (PySem.Value.none) (PySem.Value.none) (PySem.Value.none) (PySem.Value.str (PySem.Str.ofString "law_rr0055_01") 505) (Option.none) (PySem.Value.ref 237) (PySem.Value.none) (0))) (#[])) ::
  (nat_lit 239, PySem.Obj.mk (PySem.Value.type "tuple") Option.none (PySem.Data.seq #[]) #[]) ::
  (nat_lit 241, PySem.Obj.mk (PySem.Value.type "tuple") Option.none (PySem.Data.seq #[PySem.Value.str (PySem.Str.ofString "work") 562])   #[]) ::
  (nat_lit 242, PySem.Obj.mk (PySem.Value.type "tuple") Option.none (PySem.Data.seq #[]) #[]) ::
  (nat_lit 244, PySem.Obj.mk (PySem.Value.type "code") Option.none   (PySem.Data.fields     #[PySem.Value.str (PySem.Str.ofString "_law_refused") 559, PySem.Value.str (PySem.Str.ofString "_law_refused") 560,       PySem.Value.str (PySem.Str.ofString "/claim/cut.py") 561, PySem.Value.int 150 0, PySem.Value.int 1 0,       PySem.Value.int 0 0, PySem.Value.int 0 0, PySem.Value.int 3 0, PySem.Value.ref 239, PySem.Value.bool Bool.true,       PySem.Value.int 181 0, PySem.Value.ref 240, PySem.Value.none, PySem.Value.ref 241, PySem.Value.ref 242,       PySem.Value.ref 243, PySem.Value.int 563 0, PySem.Value.int 150 0,       PySem.Value.str (PySem.Str.ofString "/claim/cut.py") 564])   #[]) ::
  (nat_lit 245, PySem.Obj.mk (PySem.Value.type "function") (Option.none) (PySem.Data.func (defAt (i := 32) rfl (PySem.Str.ofString "_law_refused") (3) ([]) (PySem.Value.none) (PySem.Value.none) (PySem.Value.none) (PySem.Value.str (PySem.Str.ofString "law_rr0055_01") 505) (Option.none) (PySem.Value.ref 244) (PySem.Value.none) (0))) (#[])) ::
  (nat_lit 246, PySem.Obj.mk (PySem.Value.type "tuple") Option.none (PySem.Data.seq #[]) #[]) ::
  (nat_lit 248, PySem.Obj.mk (PySem.Value.type "tuple") Option.none   (PySem.Data.seq     #[PySem.Value.str (PySem.Str.ofString "script") 569, PySem.Value.str (PySem.Str.ofString "rope") 570,       PySem.Value.str (PySem.Str.ofString "form") 571, PySem.Value.str (PySem.Str.ofString "x") 572,       PySem.Value.str (PySem.Str.ofString "begin") 573, PySem.Value.str (PySem.Str.ofString "most") 574,       PySem.Value.str (PySem.Str.ofString "middle") 575, PySem.Value.str (PySem.Str.ofString "one") 576,       PySem.Value.str (PySem.Str.ofString "other") 577, PySem.Value.str (PySem.Str.ofString "above") 578,       PySem.Value.str (PySem.Str.ofString "below") 579, PySem.Value.str (PySem.Str.ofString "told") 580,       PySem.Value.str (PySem.Str.ofString "due") 581])   #[]) ::
  (nat_lit 249, PySem.Obj.mk (PySem.Value.type "tuple") Option.none   (PySem.Data.seq     #[PySem.Value.str (PySem.Str.ofString "end") 582, PySem.Value.str (PySem.Str.ofString "fewer") 583,       PySem.Value.str (PySem.Str.ofString "many") 584, PySem.Value.str (PySem.Str.ofString "series") 585,       PySem.Value.str (PySem.Str.ofString "w") 586])   #[]) ::
  (nat_lit 251, PySem.Obj.mk (PySem.Value.type "code") Option.none   (PySem.Data.fields     #[PySem.Value.str (PySem.Str.ofString "law") 566, PySem.Value.str (PySem.Str.ofString "law") 567,       PySem.Value.str (PySem.Str.ofString "/claim/cut.py") 568, PySem.Value.int 156 0, PySem.Value.int 1 0,       PySem.Value.int 0 0, PySem.Value.int 0 0, PySem.Value.int 3 0, PySem.Value.ref 246, PySem.Value.bool Bool.true,       PySem.Value.int 181 0, PySem.Value.ref 247, PySem.Value.none, PySem.Value.ref 248, PySem.Value.ref 249,       PySem.Value.ref 250, PySem.Value.int 587 0, PySem.Value.int 156 0,       PySem.Value.str (PySem.Str.ofString "/claim/cut.py") 588])   #[]) ::
  (nat_lit 252, PySem.Obj.mk (PySem.Value.type "function") (Option.none) (PySem.Data.func (defAt (i := 33) rfl (PySem.Str.ofString "law") (3) ([]) (PySem.Value.none) (PySem.Value.none) (PySem.Value.none) (PySem.Value.str (PySem.Str.ofString "law_rr0055_01") 505) (Option.none) (PySem.Value.ref 251) (PySem.Value.none) (0))) (#[])) :: []
def as39 : List Addr := 2 :: 3 :: 15 :: 22 :: 23 :: 24 :: 25 :: 28 :: 35 :: 36 :: 37 :: 40 :: 42 :: 43 :: 45 :: 46 :: 47 :: 49 :: 50 :: 52 :: 53 :: 54 :: 56 :: 57 :: 59 :: 60 :: 61 :: 63 :: 64 :: 66 :: 67 :: 68 :: 70 :: 71 :: 73 :: 74 :: 75 :: 77 :: 78 :: 80 :: 81 :: 82 :: 84 :: 85 :: 87 :: 88 :: 89 :: 91 :: 92 :: 94 :: 95 :: 96 :: 98 :: 99 :: 101 :: 102 :: 103 :: 104 :: 105 :: 106 :: 108 :: 109 :: 111 :: 112 :: 120 :: 122 :: 123 :: 125 :: 126 :: 127 :: 128 :: 129 :: 130 :: 131 :: 141 :: 143 :: 144 :: 146 :: 147 :: 148 :: 150 :: 151 :: 153 :: 154 :: 155 :: 156 :: 157 :: 158 :: 159 :: 169 :: 171 :: 172 :: 174 :: 175 :: 176 :: 177 :: 178 :: 179 :: 180 :: 183 :: 185 :: 186 :: 188 :: 189 :: 190 :: 192 :: 193 :: 195 :: 196 :: 197 :: 199 :: 200 :: 202 :: 203 :: 204 :: 206 :: 207 :: 209 :: 210 :: 211 :: 213 :: 214 :: 216 :: 217 :: 218 :: 220 :: 221 :: 223 :: 224 :: 225 :: 227 :: 228 :: 230 :: 231 :: 232 :: 234 :: 235 :: 237 :: 238 :: 239 :: 241 :: 242 :: 244 :: 245 :: 246 :: 248 :: 249 :: 251 :: 252 :: []
theorem as_eq : ∀ P, as39 = (hd.heap_39 P).map (·.1) := fun _ => by kernel_rfl
noncomputable abbrev hook : Hook := kmHook hd.heap_39 as39 as_eq [247]
/-- The top in pieces: the objects, the heap at each cut, and the run from cut to cut. -/
noncomputable abbrev prg : Program := PySem.Challenge.rw_rr0055_01.row.prog
noncomputable def bdy : List Stmt := behindTheImports prg
noncomputable def envT : Env := { scope := prg.main.scope, locals := mainNs, globals := mainNs, cells := [], code := .ref 13, frame := some 14 }
noncomputable abbrev cdT : Code := Code.body bdy envT
abbrev posAt (a b c d : Nat) : Pos := ⟨a, b, c, d⟩
def lif : Life := PySem.Life.mk [] [] [] 0 [] [] Bool.false #[] [] 0 Bool.false Bool.false Bool.false 0 [2000, 10, 10] Bool.false 0 Bool.true [] [] 0 Bool.false
noncomputable def ob_11_1 : Params → Obj := fun P => PySem.Obj.mk (PySem.Value.type "tuple") Option.none (PySem.Data.seq #[]) #[]
noncomputable def ob_12_1 : Params → Obj := fun P => PySem.Obj.mk PySem.Value.none Option.none (PySem.Data.fields #[]) #[]
noncomputable def ob_13_1 : Params → Obj := fun P => PySem.Obj.mk (PySem.Value.type "code") Option.none   (PySem.Data.fields     #[PySem.Value.str (PySem.Str.ofString "<module>") 182, PySem.Value.str (PySem.Str.ofString "<module>") 183,       PySem.Value.str (PySem.Str.ofString "/claim/cut.py") 184, PySem.Value.int 1 0, PySem.Value.int 0 0,       PySem.Value.int 0 0, PySem.Value.int 0 0, PySem.Value.int 0 0, PySem.Value.ref 11, PySem.Value.bool Bool.false,       PySem.Value.int 181 0, PySem.Value.ref 12, PySem.Value.none, PySem.Value.none, PySem.Value.none, PySem.Value.none,       PySem.Value.int 185 0, PySem.Value.int 1 0, PySem.Value.str (PySem.Str.ofString "/claim/cut.py") 186])   #[]
noncomputable def ob_14_1 : Params → Obj := fun P => PySem.Obj.mk (PySem.Value.type "frame") Option.none PySem.Data.plain   #[Option.some (PySem.Value.ref 13), Option.some (PySem.Value.ref 3), Option.some (PySem.Value.ref 3), Option.none,     Option.some (PySem.Value.str (PySem.Str.ofString "__main__") 164), Option.none, Option.some (PySem.Value.ref 0)]
noncomputable def ob_2_3 : Params → Obj := fun P => PySem.Obj.mk PySem.Value.none Option.none   (PySem.Data.dict     #[PySem.DictEntry.mk (PySem.PyData.keyHash P (PySem.Str.ofString "type.__subclasses__.Exception.0"))         (PySem.Value.str (PySem.Str.ofString "type.__subclasses__.Exception.0") 205) (PySem.Value.int 24 0),       PySem.DictEntry.mk (PySem.PyData.keyHash P (PySem.Str.ofString "type.__subclasses__.Exception.n"))         (PySem.Value.str (PySem.Str.ofString "type.__subclasses__.Exception.n") 206) (PySem.Value.int 1 0)]     2)   #[]
noncomputable def ob_3_3 : Params → Obj := fun P => PySem.Obj.mk (PySem.Value.type "dict") Option.none   (PySem.Data.dict     #[PySem.DictEntry.mk (PySem.PyData.keyHash P (PySem.Str.ofString "__name__"))         (PySem.Value.str (PySem.Str.ofString "__name__") 165) (PySem.Value.str (PySem.Str.ofString "gmp.limbs") 187),       PySem.DictEntry.mk (PySem.PyData.keyHash P (PySem.Str.ofString "__doc__"))         (PySem.Value.str (PySem.Str.ofString "__doc__") 166) PySem.Value.none,       PySem.DictEntry.mk (PySem.PyData.keyHash P (PySem.Str.ofString "__package__"))         (PySem.Value.str (PySem.Str.ofString "__package__") 167) PySem.Value.none,       PySem.DictEntry.mk (PySem.PyData.keyHash P (PySem.Str.ofString "__loader__"))         (PySem.Value.str (PySem.Str.ofString "__loader__") 168) (PySem.Value.builtin "__main__.__loader__#opaque"),       PySem.DictEntry.mk (PySem.PyData.keyHash P (PySem.Str.ofString "__spec__"))         (PySem.Value.str (PySem.Str.ofString "__spec__") 169) PySem.Value.none,       PySem.DictEntry.mk (PySem.PyData.keyHash P (PySem.Str.ofString "__annotations__"))         (PySem.Value.str (PySem.Str.ofString "__annotations__") 170) (PySem.Value.ref 6),       PySem.DictEntry.mk (PySem.PyData.keyHash P (PySem.Str.ofString "__builtins__"))         (PySem.Value.str (PySem.Str.ofString "__builtins__") 171) (PySem.Value.ref 4),       PySem.DictEntry.mk (PySem.PyData.keyHash P (PySem.Str.ofString "__file__"))         (PySem.Value.str (PySem.Str.ofString "__file__") 173)         (PySem.Value.str (PySem.Str.ofString "/claim/cut.py") 172),       PySem.DictEntry.mk (PySem.PyData.keyHash P (PySem.Str.ofString "__cached__"))         (PySem.Value.str (PySem.Str.ofString "__cached__") 174) PySem.Value.none,       PySem.DictEntry.mk (PySem.PyData.keyHash P (PySem.Str.ofString "GmpError"))         (PySem.Value.str (PySem.Str.ofString "GmpError") 208) (PySem.Value.ref 24),       PySem.DictEntry.mk (PySem.PyData.keyHash P (PySem.Str.ofString "OutOfRange"))         (PySem.Value.str (PySem.Str.ofString "OutOfRange") 224) (PySem.Value.ref 37)]     11)   #[]
noncomputable def ob_12_3 : Params → Obj := fun P => PySem.Obj.mk PySem.Value.none Option.none   (PySem.Data.fields     #[PySem.Value.int 2 0, PySem.Value.int 0 0, PySem.Value.ref 20, PySem.Value.int 4 0, PySem.Value.int 0 0,       PySem.Value.ref 33])   #[]
noncomputable def ob_15_3 : Params → Obj := fun P => PySem.Obj.mk (PySem.Value.type "tuple") Option.none (PySem.Data.seq #[PySem.Value.type "Exception"]) #[]
noncomputable def ob_16_3 : Params → Obj := fun P => PySem.Obj.mk (PySem.Value.type "builtin_function_or_method") Option.none   (PySem.Data.fields #[PySem.Value.builtin "type.__prepare__", PySem.Value.type "type"]) #[]
noncomputable def ob_17_3 : Params → Obj := fun P => PySem.Obj.mk (PySem.Value.type "dict") Option.none   (PySem.Data.dict     #[PySem.DictEntry.mk (PySem.PyData.keyHash P (PySem.Str.ofString "__module__"))         (PySem.Value.str (PySem.Str.ofString "__module__") 196) (PySem.Value.str (PySem.Str.ofString "gmp.limbs") 187),       PySem.DictEntry.mk (PySem.PyData.keyHash P (PySem.Str.ofString "__qualname__"))         (PySem.Value.str (PySem.Str.ofString "__qualname__") 198) (PySem.Value.str (PySem.Str.ofString "GmpError") 197),       PySem.DictEntry.mk (PySem.PyData.keyHash P (PySem.Str.ofString "__firstlineno__"))         (PySem.Value.str (PySem.Str.ofString "__firstlineno__") 200) (PySem.Value.int 2 199),       PySem.DictEntry.mk (PySem.PyData.keyHash P (PySem.Str.ofString "__static_attributes__"))         (PySem.Value.str (PySem.Str.ofString "__static_attributes__") 201) (PySem.Value.ref 22)]     4)   #[]
noncomputable def ob_18_3 : Params → Obj := fun P => PySem.Obj.mk (PySem.Value.type "tuple") Option.none (PySem.Data.seq #[]) #[]
noncomputable def ob_19_3 : Params → Obj := fun P => PySem.Obj.mk PySem.Value.none Option.none (PySem.Data.fields #[]) #[]
noncomputable def ob_20_3 : Params → Obj := fun P => PySem.Obj.mk (PySem.Value.type "code") Option.none   (PySem.Data.fields     #[PySem.Value.str (PySem.Str.ofString "GmpError") 191, PySem.Value.str (PySem.Str.ofString "GmpError") 192,       PySem.Value.str (PySem.Str.ofString "/claim/cut.py") 193, PySem.Value.int 2 0, PySem.Value.int 0 0,       PySem.Value.int 0 0, PySem.Value.int 0 0, PySem.Value.int 0 0, PySem.Value.ref 18, PySem.Value.bool Bool.false,       PySem.Value.int 181 0, PySem.Value.ref 19, PySem.Value.none, PySem.Value.none, PySem.Value.none, PySem.Value.none,       PySem.Value.int 194 0, PySem.Value.int 2 0, PySem.Value.str (PySem.Str.ofString "/claim/cut.py") 195])   #[]
noncomputable def ob_21_3 : Params → Obj := fun P => PySem.Obj.mk (PySem.Value.type "frame") Option.none PySem.Data.plain   #[Option.some (PySem.Value.ref 20), Option.some (PySem.Value.ref 3), Option.some (PySem.Value.ref 17), Option.none,     Option.some (PySem.Value.str (PySem.Str.ofString "gmp.limbs") 187), Option.none, Option.some (PySem.Value.ref 0)]
noncomputable def ob_22_3 : Params → Obj := fun P => PySem.Obj.mk (PySem.Value.type "tuple") Option.none (PySem.Data.seq #[]) #[]
noncomputable def ob_23_3 : Params → Obj := fun P => PySem.Obj.mk (PySem.Value.type "dict") Option.none   (PySem.Data.dict     #[PySem.DictEntry.mk (PySem.PyData.keyHash P (PySem.Str.ofString "__module__"))         (PySem.Value.str (PySem.Str.ofString "__module__") 196) (PySem.Value.str (PySem.Str.ofString "gmp.limbs") 187),       PySem.DictEntry.mk (PySem.PyData.keyHash P (PySem.Str.ofString "__firstlineno__"))         (PySem.Value.str (PySem.Str.ofString "__firstlineno__") 200) (PySem.Value.int 2 199),       PySem.DictEntry.mk (PySem.PyData.keyHash P (PySem.Str.ofString "__static_attributes__"))         (PySem.Value.str (PySem.Str.ofString "__static_attributes__") 201) (PySem.Value.ref 22),       PySem.DictEntry.mk (PySem.PyData.keyHash P (PySem.Str.ofString "__weakref__"))         (PySem.Value.str (PySem.Str.ofString "__weakref__") 203) (PySem.Value.ref 25),       PySem.DictEntry.mk (PySem.PyData.keyHash P (PySem.Str.ofString "__doc__"))         (PySem.Value.str (PySem.Str.ofString "__doc__") 204) PySem.Value.none]     3)   #[]
noncomputable def ob_24_3 : Params → Obj := fun P => PySem.Obj.mk (PySem.Value.type "type") Option.none   (PySem.Data.cls     (PySem.ClassData.mk (PySem.Str.ofString "GmpError") [PySem.Value.type "Exception"]       [PySem.Value.ref 24, PySem.Value.type "Exception", PySem.Value.type "BaseException", PySem.Value.type "object"] 23       (PySem.Str.ofString "GmpError") Bool.true [] [PySem.Value.ref 37] Bool.false Option.none Bool.false))   #[Option.some (PySem.Value.ref 15), Option.none, Option.some (PySem.Value.str (PySem.Str.ofString "GmpError") 189),     Option.some (PySem.Value.str (PySem.Str.ofString "GmpError") 197),     Option.some (PySem.Value.builtin "Exception.__new__"), Option.some (PySem.Value.bool Bool.true)]
noncomputable def ob_25_3 : Params → Obj := fun P => PySem.Obj.mk (PySem.Value.type "getset_descriptor") Option.none   (PySem.Data.fields     #[PySem.Value.str (PySem.Str.ofString "__weakref__") 202, PySem.Value.ref 24,       PySem.Value.builtin "ExceptionGroup.__weakref__", PySem.Value.none])   #[]
noncomputable def ob_26_3 : Params → Obj := fun P => PySem.Obj.mk (PySem.Value.type "super") Option.none   (PySem.Data.fields #[PySem.Value.ref 24, PySem.Value.ref 24, PySem.Value.ref 24]) #[]
noncomputable def ob_27_3 : Params → Obj := fun P => PySem.Obj.mk (PySem.Value.type "builtin_function_or_method") Option.none   (PySem.Data.fields #[PySem.Value.builtin "object.__init_subclass__", PySem.Value.ref 24]) #[]
noncomputable def ob_28_3 : Params → Obj := fun P => PySem.Obj.mk (PySem.Value.type "tuple") Option.none (PySem.Data.seq #[PySem.Value.ref 24]) #[]
noncomputable def ob_29_3 : Params → Obj := fun P => PySem.Obj.mk (PySem.Value.type "builtin_function_or_method") Option.none   (PySem.Data.fields #[PySem.Value.builtin "type.__prepare__", PySem.Value.type "type"]) #[]
noncomputable def ob_30_3 : Params → Obj := fun P => PySem.Obj.mk (PySem.Value.type "dict") Option.none   (PySem.Data.dict     #[PySem.DictEntry.mk (PySem.PyData.keyHash P (PySem.Str.ofString "__module__"))         (PySem.Value.str (PySem.Str.ofString "__module__") 216) (PySem.Value.str (PySem.Str.ofString "gmp.limbs") 187),       PySem.DictEntry.mk (PySem.PyData.keyHash P (PySem.Str.ofString "__qualname__"))         (PySem.Value.str (PySem.Str.ofString "__qualname__") 218)         (PySem.Value.str (PySem.Str.ofString "OutOfRange") 217),       PySem.DictEntry.mk (PySem.PyData.keyHash P (PySem.Str.ofString "__firstlineno__"))         (PySem.Value.str (PySem.Str.ofString "__firstlineno__") 220) (PySem.Value.int 4 219),       PySem.DictEntry.mk (PySem.PyData.keyHash P (PySem.Str.ofString "__static_attributes__"))         (PySem.Value.str (PySem.Str.ofString "__static_attributes__") 221) (PySem.Value.ref 35)]     4)   #[]
noncomputable def ob_31_3 : Params → Obj := fun P => PySem.Obj.mk (PySem.Value.type "tuple") Option.none (PySem.Data.seq #[]) #[]
noncomputable def ob_32_3 : Params → Obj := fun P => PySem.Obj.mk PySem.Value.none Option.none (PySem.Data.fields #[]) #[]
noncomputable def ob_33_3 : Params → Obj := fun P => PySem.Obj.mk (PySem.Value.type "code") Option.none   (PySem.Data.fields     #[PySem.Value.str (PySem.Str.ofString "OutOfRange") 211, PySem.Value.str (PySem.Str.ofString "OutOfRange") 212,       PySem.Value.str (PySem.Str.ofString "/claim/cut.py") 213, PySem.Value.int 4 0, PySem.Value.int 0 0,       PySem.Value.int 0 0, PySem.Value.int 0 0, PySem.Value.int 0 0, PySem.Value.ref 31, PySem.Value.bool Bool.false,       PySem.Value.int 181 0, PySem.Value.ref 32, PySem.Value.none, PySem.Value.none, PySem.Value.none, PySem.Value.none,       PySem.Value.int 214 0, PySem.Value.int 4 0, PySem.Value.str (PySem.Str.ofString "/claim/cut.py") 215])   #[]
noncomputable def ob_34_3 : Params → Obj := fun P => PySem.Obj.mk (PySem.Value.type "frame") Option.none PySem.Data.plain   #[Option.some (PySem.Value.ref 33), Option.some (PySem.Value.ref 3), Option.some (PySem.Value.ref 30), Option.none,     Option.some (PySem.Value.str (PySem.Str.ofString "gmp.limbs") 187), Option.none, Option.some (PySem.Value.ref 0)]
noncomputable def ob_35_3 : Params → Obj := fun P => PySem.Obj.mk (PySem.Value.type "tuple") Option.none (PySem.Data.seq #[]) #[]
noncomputable def ob_36_3 : Params → Obj := fun P => PySem.Obj.mk (PySem.Value.type "dict") Option.none   (PySem.Data.dict     #[PySem.DictEntry.mk (PySem.PyData.keyHash P (PySem.Str.ofString "__module__"))         (PySem.Value.str (PySem.Str.ofString "__module__") 216) (PySem.Value.str (PySem.Str.ofString "gmp.limbs") 187),       PySem.DictEntry.mk (PySem.PyData.keyHash P (PySem.Str.ofString "__firstlineno__"))         (PySem.Value.str (PySem.Str.ofString "__firstlineno__") 220) (PySem.Value.int 4 219),       PySem.DictEntry.mk (PySem.PyData.keyHash P (PySem.Str.ofString "__static_attributes__"))         (PySem.Value.str (PySem.Str.ofString "__static_attributes__") 221) (PySem.Value.ref 35),       PySem.DictEntry.mk (PySem.PyData.keyHash P (PySem.Str.ofString "__doc__"))         (PySem.Value.str (PySem.Str.ofString "__doc__") 222) PySem.Value.none]     2)   #[]
noncomputable def ob_37_3 : Params → Obj := fun P => PySem.Obj.mk (PySem.Value.type "type") Option.none   (PySem.Data.cls     (PySem.ClassData.mk (PySem.Str.ofString "OutOfRange") [PySem.Value.ref 24]       [PySem.Value.ref 37, PySem.Value.ref 24, PySem.Value.type "Exception", PySem.Value.type "BaseException",         PySem.Value.type "object"]       36 (PySem.Str.ofString "OutOfRange") Bool.true [] [] Bool.false Option.none Bool.false))   #[Option.some (PySem.Value.ref 28), Option.none, Option.some (PySem.Value.str (PySem.Str.ofString "OutOfRange") 209),     Option.some (PySem.Value.str (PySem.Str.ofString "OutOfRange") 217),     Option.some (PySem.Value.builtin "Exception.__new__"), Option.some (PySem.Value.bool Bool.true)]
noncomputable def ob_38_3 : Params → Obj := fun P => PySem.Obj.mk (PySem.Value.type "super") Option.none   (PySem.Data.fields #[PySem.Value.ref 37, PySem.Value.ref 37, PySem.Value.ref 37]) #[]
noncomputable def ob_39_3 : Params → Obj := fun P => PySem.Obj.mk (PySem.Value.type "builtin_function_or_method") Option.none   (PySem.Data.fields #[PySem.Value.builtin "object.__init_subclass__", PySem.Value.ref 37]) #[]
noncomputable def ob_3_4 : Params → Obj := fun P => PySem.Obj.mk (PySem.Value.type "dict") Option.none   (PySem.Data.dict     #[PySem.DictEntry.mk (PySem.PyData.keyHash P (PySem.Str.ofString "__name__"))         (PySem.Value.str (PySem.Str.ofString "__name__") 165)         (PySem.Value.str (PySem.Str.ofString "gmp.splitting") 320),       PySem.DictEntry.mk (PySem.PyData.keyHash P (PySem.Str.ofString "__doc__"))         (PySem.Value.str (PySem.Str.ofString "__doc__") 166) PySem.Value.none,       PySem.DictEntry.mk (PySem.PyData.keyHash P (PySem.Str.ofString "__package__"))         (PySem.Value.str (PySem.Str.ofString "__package__") 167) PySem.Value.none,       PySem.DictEntry.mk (PySem.PyData.keyHash P (PySem.Str.ofString "__loader__"))         (PySem.Value.str (PySem.Str.ofString "__loader__") 168) (PySem.Value.builtin "__main__.__loader__#opaque"),       PySem.DictEntry.mk (PySem.PyData.keyHash P (PySem.Str.ofString "__spec__"))         (PySem.Value.str (PySem.Str.ofString "__spec__") 169) PySem.Value.none,       PySem.DictEntry.mk (PySem.PyData.keyHash P (PySem.Str.ofString "__annotations__"))         (PySem.Value.str (PySem.Str.ofString "__annotations__") 170) (PySem.Value.ref 6),       PySem.DictEntry.mk (PySem.PyData.keyHash P (PySem.Str.ofString "__builtins__"))         (PySem.Value.str (PySem.Str.ofString "__builtins__") 171) (PySem.Value.ref 4),       PySem.DictEntry.mk (PySem.PyData.keyHash P (PySem.Str.ofString "__file__"))         (PySem.Value.str (PySem.Str.ofString "__file__") 173)         (PySem.Value.str (PySem.Str.ofString "/claim/cut.py") 172),       PySem.DictEntry.mk (PySem.PyData.keyHash P (PySem.Str.ofString "__cached__"))         (PySem.Value.str (PySem.Str.ofString "__cached__") 174) PySem.Value.none,       PySem.DictEntry.mk (PySem.PyData.keyHash P (PySem.Str.ofString "GmpError"))         (PySem.Value.str (PySem.Str.ofString "GmpError") 208) (PySem.Value.ref 24),       PySem.DictEntry.mk (PySem.PyData.keyHash P (PySem.Str.ofString "OutOfRange"))         (PySem.Value.str (PySem.Str.ofString "OutOfRange") 224) (PySem.Value.ref 37),       PySem.DictEntry.mk (PySem.PyData.keyHash P (PySem.Str.ofString "normal"))         (PySem.Value.str (PySem.Str.ofString "normal") 232) (PySem.Value.ref 46),       PySem.DictEntry.mk (PySem.PyData.keyHash P (PySem.Str.ofString "nat_of"))         (PySem.Value.str (PySem.Str.ofString "nat_of") 242) (PySem.Value.ref 53),       PySem.DictEntry.mk (PySem.PyData.keyHash P (PySem.Str.ofString "compare"))         (PySem.Value.str (PySem.Str.ofString "compare") 251) (PySem.Value.ref 60),       PySem.DictEntry.mk (PySem.PyData.keyHash P (PySem.Str.ofString "add"))         (PySem.Value.str (PySem.Str.ofString "add") 264) (PySem.Value.ref 67),       PySem.DictEntry.mk (PySem.PyData.keyHash P (PySem.Str.ofString "sub"))         (PySem.Value.str (PySem.Str.ofString "sub") 278) (PySem.Value.ref 74),       PySem.DictEntry.mk (PySem.PyData.keyHash P (PySem.Str.ofString "product_of_counts"))         (PySem.Value.str (PySem.Str.ofString "product_of_counts") 290) (PySem.Value.ref 81),       PySem.DictEntry.mk (PySem.PyData.keyHash P (PySem.Str.ofString "signed"))         (PySem.Value.str (PySem.Str.ofString "signed") 300) (PySem.Value.ref 88),       PySem.DictEntry.mk (PySem.PyData.keyHash P (PySem.Str.ofString "s_add"))         (PySem.Value.str (PySem.Str.ofString "s_add") 309) (PySem.Value.ref 95),       PySem.DictEntry.mk (PySem.PyData.keyHash P (PySem.Str.ofString "s_mul"))         (PySem.Value.str (PySem.Str.ofString "s_mul") 319) (PySem.Value.ref 102),       PySem.DictEntry.mk (PySem.PyData.keyHash P (PySem.Str.ofString "FIRST_GROUPS"))         (PySem.Value.str (PySem.Str.ofString "FIRST_GROUPS") 325) (PySem.Value.ref 103),       PySem.DictEntry.mk (PySem.PyData.keyHash P (PySem.Str.ofString "STEP_GROUPS"))         (PySem.Value.str (PySem.Str.ofString "STEP_GROUPS") 329) (PySem.Value.ref 104),       PySem.DictEntry.mk (PySem.PyData.keyHash P (PySem.Str.ofString "CUBE_FACTORS"))         (PySem.Value.str (PySem.Str.ofString "CUBE_FACTORS") 341) (PySem.Value.ref 105),       PySem.DictEntry.mk (PySem.PyData.keyHash P (PySem.Str.ofString "of_groups"))         (PySem.Value.str (PySem.Str.ofString "of_groups") 352) (PySem.Value.ref 112)]     24)   #[]
noncomputable def ob_12_4 : Params → Obj := fun P => PySem.Obj.mk PySem.Value.none Option.none   (PySem.Data.fields     #[PySem.Value.int 2 0, PySem.Value.int 0 0, PySem.Value.ref 20, PySem.Value.int 4 0, PySem.Value.int 0 0,       PySem.Value.ref 33, PySem.Value.int 6 0, PySem.Value.int 0 0, PySem.Value.ref 45, PySem.Value.int 11 0,       PySem.Value.int 0 0, PySem.Value.ref 52, PySem.Value.int 19 0, PySem.Value.int 0 0, PySem.Value.ref 59,       PySem.Value.int 26 0, PySem.Value.int 0 0, PySem.Value.ref 66, PySem.Value.int 41 0, PySem.Value.int 0 0,       PySem.Value.ref 73, PySem.Value.int 51 0, PySem.Value.int 0 0, PySem.Value.ref 80, PySem.Value.int 59 0,       PySem.Value.int 0 0, PySem.Value.ref 87, PySem.Value.int 61 0, PySem.Value.int 0 0, PySem.Value.ref 94,       PySem.Value.int 67 0, PySem.Value.int 0 0, PySem.Value.ref 101, PySem.Value.int 73 0, PySem.Value.int 0 0,       PySem.Value.ref 111])   #[]
noncomputable def ob_40_4 : Params → Obj := fun P => PySem.Obj.mk (PySem.Value.type "tuple") Option.none (PySem.Data.seq #[]) #[]
noncomputable def ob_41_4 : Params → Obj := fun P => PySem.Obj.mk PySem.Value.none Option.none (PySem.Data.fields #[]) #[]
noncomputable def ob_42_4 : Params → Obj := fun P => PySem.Obj.mk (PySem.Value.type "tuple") Option.none   (PySem.Data.seq #[PySem.Value.str (PySem.Str.ofString "a") 228, PySem.Value.str (PySem.Str.ofString "end") 229]) #[]
noncomputable def ob_43_4 : Params → Obj := fun P => PySem.Obj.mk (PySem.Value.type "tuple") Option.none (PySem.Data.seq #[]) #[]
noncomputable def ob_44_4 : Params → Obj := fun P => PySem.Obj.mk (PySem.Value.none) (Option.none) (PySem.Data.func (defAt (i := 3) rfl (PySem.Str.ofString "normal") (0) ([]) (PySem.Value.none) (PySem.Value.none) (PySem.Value.none) (PySem.Value.none) (Option.none) (PySem.Value.none) (PySem.Value.none) (0))) (#[])
noncomputable def ob_45_4 : Params → Obj := fun P => PySem.Obj.mk (PySem.Value.type "code") Option.none   (PySem.Data.fields     #[PySem.Value.str (PySem.Str.ofString "normal") 225, PySem.Value.str (PySem.Str.ofString "normal") 226,       PySem.Value.str (PySem.Str.ofString "/claim/cut.py") 227, PySem.Value.int 6 0, PySem.Value.int 1 0,       PySem.Value.int 0 0, PySem.Value.int 0 0, PySem.Value.int 3 0, PySem.Value.ref 40, PySem.Value.bool Bool.true,       PySem.Value.int 181 0, PySem.Value.ref 41, PySem.Value.none, PySem.Value.ref 42, PySem.Value.ref 43,       PySem.Value.ref 44, PySem.Value.int 230 0, PySem.Value.int 6 0,       PySem.Value.str (PySem.Str.ofString "/claim/cut.py") 231])   #[]
noncomputable def ob_46_4 : Params → Obj := fun P => PySem.Obj.mk (PySem.Value.type "function") (Option.none) (PySem.Data.func (defAt (i := 3) rfl (PySem.Str.ofString "normal") (3) ([]) (PySem.Value.none) (PySem.Value.none) (PySem.Value.none) (PySem.Value.str (PySem.Str.ofString "gmp.limbs") 187) (Option.none) (PySem.Value.ref 45) (PySem.Value.none) (0))) (#[])
noncomputable def ob_47_4 : Params → Obj := fun P => PySem.Obj.mk (PySem.Value.type "tuple") Option.none (PySem.Data.seq #[]) #[]
noncomputable def ob_48_4 : Params → Obj := fun P => PySem.Obj.mk PySem.Value.none Option.none (PySem.Data.fields #[]) #[]
noncomputable def ob_49_4 : Params → Obj := fun P => PySem.Obj.mk (PySem.Value.type "tuple") Option.none   (PySem.Data.seq     #[PySem.Value.str (PySem.Str.ofString "number") 236, PySem.Value.str (PySem.Str.ofString "w") 237,       PySem.Value.str (PySem.Str.ofString "found") 238, PySem.Value.str (PySem.Str.ofString "mask") 239])   #[]
noncomputable def ob_50_4 : Params → Obj := fun P => PySem.Obj.mk (PySem.Value.type "tuple") Option.none (PySem.Data.seq #[]) #[]
noncomputable def ob_51_4 : Params → Obj := fun P => PySem.Obj.mk (PySem.Value.none) (Option.none) (PySem.Data.func (defAt (i := 4) rfl (PySem.Str.ofString "nat_of") (0) ([]) (PySem.Value.none) (PySem.Value.none) (PySem.Value.none) (PySem.Value.none) (Option.none) (PySem.Value.none) (PySem.Value.none) (0))) (#[])
noncomputable def ob_52_4 : Params → Obj := fun P => PySem.Obj.mk (PySem.Value.type "code") Option.none   (PySem.Data.fields     #[PySem.Value.str (PySem.Str.ofString "nat_of") 233, PySem.Value.str (PySem.Str.ofString "nat_of") 234,       PySem.Value.str (PySem.Str.ofString "/claim/cut.py") 235, PySem.Value.int 11 0, PySem.Value.int 2 0,       PySem.Value.int 0 0, PySem.Value.int 0 0, PySem.Value.int 3 0, PySem.Value.ref 47, PySem.Value.bool Bool.true,       PySem.Value.int 181 0, PySem.Value.ref 48, PySem.Value.none, PySem.Value.ref 49, PySem.Value.ref 50,       PySem.Value.ref 51, PySem.Value.int 240 0, PySem.Value.int 11 0,       PySem.Value.str (PySem.Str.ofString "/claim/cut.py") 241])   #[]
noncomputable def ob_53_4 : Params → Obj := fun P => PySem.Obj.mk (PySem.Value.type "function") (Option.none) (PySem.Data.func (defAt (i := 4) rfl (PySem.Str.ofString "nat_of") (3) ([]) (PySem.Value.none) (PySem.Value.none) (PySem.Value.none) (PySem.Value.str (PySem.Str.ofString "gmp.limbs") 187) (Option.none) (PySem.Value.ref 52) (PySem.Value.none) (0))) (#[])
noncomputable def ob_54_4 : Params → Obj := fun P => PySem.Obj.mk (PySem.Value.type "tuple") Option.none (PySem.Data.seq #[]) #[]
noncomputable def ob_55_4 : Params → Obj := fun P => PySem.Obj.mk PySem.Value.none Option.none (PySem.Data.fields #[]) #[]
noncomputable def ob_56_4 : Params → Obj := fun P => PySem.Obj.mk (PySem.Value.type "tuple") Option.none   (PySem.Data.seq     #[PySem.Value.str (PySem.Str.ofString "a") 246, PySem.Value.str (PySem.Str.ofString "b") 247,       PySem.Value.str (PySem.Str.ofString "at") 248])   #[]
noncomputable def ob_57_4 : Params → Obj := fun P => PySem.Obj.mk (PySem.Value.type "tuple") Option.none (PySem.Data.seq #[]) #[]
noncomputable def ob_58_4 : Params → Obj := fun P => PySem.Obj.mk (PySem.Value.none) (Option.none) (PySem.Data.func (defAt (i := 5) rfl (PySem.Str.ofString "compare") (0) ([]) (PySem.Value.none) (PySem.Value.none) (PySem.Value.none) (PySem.Value.none) (Option.none) (PySem.Value.none) (PySem.Value.none) (0))) (#[])
noncomputable def ob_59_4 : Params → Obj := fun P => PySem.Obj.mk (PySem.Value.type "code") Option.none   (PySem.Data.fields     #[PySem.Value.str (PySem.Str.ofString "compare") 243, PySem.Value.str (PySem.Str.ofString "compare") 244,       PySem.Value.str (PySem.Str.ofString "/claim/cut.py") 245, PySem.Value.int 19 0, PySem.Value.int 2 0,       PySem.Value.int 0 0, PySem.Value.int 0 0, PySem.Value.int 3 0, PySem.Value.ref 54, PySem.Value.bool Bool.true,       PySem.Value.int 181 0, PySem.Value.ref 55, PySem.Value.none, PySem.Value.ref 56, PySem.Value.ref 57,       PySem.Value.ref 58, PySem.Value.int 249 0, PySem.Value.int 19 0,       PySem.Value.str (PySem.Str.ofString "/claim/cut.py") 250])   #[]
noncomputable def ob_60_4 : Params → Obj := fun P => PySem.Obj.mk (PySem.Value.type "function") (Option.none) (PySem.Data.func (defAt (i := 5) rfl (PySem.Str.ofString "compare") (3) ([]) (PySem.Value.none) (PySem.Value.none) (PySem.Value.none) (PySem.Value.str (PySem.Str.ofString "gmp.limbs") 187) (Option.none) (PySem.Value.ref 59) (PySem.Value.none) (0))) (#[])
noncomputable def ob_61_4 : Params → Obj := fun P => PySem.Obj.mk (PySem.Value.type "tuple") Option.none (PySem.Data.seq #[]) #[]
noncomputable def ob_62_4 : Params → Obj := fun P => PySem.Obj.mk PySem.Value.none Option.none (PySem.Data.fields #[]) #[]
noncomputable def ob_63_4 : Params → Obj := fun P => PySem.Obj.mk (PySem.Value.type "tuple") Option.none   (PySem.Data.seq     #[PySem.Value.str (PySem.Str.ofString "a") 255, PySem.Value.str (PySem.Str.ofString "b") 256,       PySem.Value.str (PySem.Str.ofString "w") 257, PySem.Value.str (PySem.Str.ofString "found") 258,       PySem.Value.str (PySem.Str.ofString "carry") 259, PySem.Value.str (PySem.Str.ofString "mask") 260,       PySem.Value.str (PySem.Str.ofString "at") 261])   #[]
noncomputable def ob_64_4 : Params → Obj := fun P => PySem.Obj.mk (PySem.Value.type "tuple") Option.none (PySem.Data.seq #[]) #[]
noncomputable def ob_65_4 : Params → Obj := fun P => PySem.Obj.mk (PySem.Value.none) (Option.none) (PySem.Data.func (defAt (i := 6) rfl (PySem.Str.ofString "add") (0) ([]) (PySem.Value.none) (PySem.Value.none) (PySem.Value.none) (PySem.Value.none) (Option.none) (PySem.Value.none) (PySem.Value.none) (0))) (#[])
noncomputable def ob_66_4 : Params → Obj := fun P => PySem.Obj.mk (PySem.Value.type "code") Option.none   (PySem.Data.fields     #[PySem.Value.str (PySem.Str.ofString "add") 252, PySem.Value.str (PySem.Str.ofString "add") 253,       PySem.Value.str (PySem.Str.ofString "/claim/cut.py") 254, PySem.Value.int 26 0, PySem.Value.int 3 0,       PySem.Value.int 0 0, PySem.Value.int 0 0, PySem.Value.int 3 0, PySem.Value.ref 61, PySem.Value.bool Bool.true,       PySem.Value.int 181 0, PySem.Value.ref 62, PySem.Value.none, PySem.Value.ref 63, PySem.Value.ref 64,       PySem.Value.ref 65, PySem.Value.int 262 0, PySem.Value.int 26 0,       PySem.Value.str (PySem.Str.ofString "/claim/cut.py") 263])   #[]
noncomputable def ob_67_4 : Params → Obj := fun P => PySem.Obj.mk (PySem.Value.type "function") (Option.none) (PySem.Data.func (defAt (i := 6) rfl (PySem.Str.ofString "add") (3) ([]) (PySem.Value.none) (PySem.Value.none) (PySem.Value.none) (PySem.Value.str (PySem.Str.ofString "gmp.limbs") 187) (Option.none) (PySem.Value.ref 66) (PySem.Value.none) (0))) (#[])
noncomputable def ob_68_4 : Params → Obj := fun P => PySem.Obj.mk (PySem.Value.type "tuple") Option.none (PySem.Data.seq #[]) #[]
noncomputable def ob_69_4 : Params → Obj := fun P => PySem.Obj.mk PySem.Value.none Option.none (PySem.Data.fields #[]) #[]
noncomputable def ob_70_4 : Params → Obj := fun P => PySem.Obj.mk (PySem.Value.type "tuple") Option.none   (PySem.Data.seq     #[PySem.Value.str (PySem.Str.ofString "a") 268, PySem.Value.str (PySem.Str.ofString "b") 269,       PySem.Value.str (PySem.Str.ofString "w") 270, PySem.Value.str (PySem.Str.ofString "found") 271,       PySem.Value.str (PySem.Str.ofString "borrow") 272, PySem.Value.str (PySem.Str.ofString "base") 273,       PySem.Value.str (PySem.Str.ofString "at") 274, PySem.Value.str (PySem.Str.ofString "limb") 275])   #[]
noncomputable def ob_71_4 : Params → Obj := fun P => PySem.Obj.mk (PySem.Value.type "tuple") Option.none (PySem.Data.seq #[]) #[]
noncomputable def ob_72_4 : Params → Obj := fun P => PySem.Obj.mk (PySem.Value.none) (Option.none) (PySem.Data.func (defAt (i := 7) rfl (PySem.Str.ofString "sub") (0) ([]) (PySem.Value.none) (PySem.Value.none) (PySem.Value.none) (PySem.Value.none) (Option.none) (PySem.Value.none) (PySem.Value.none) (0))) (#[])
noncomputable def ob_73_4 : Params → Obj := fun P => PySem.Obj.mk (PySem.Value.type "code") Option.none   (PySem.Data.fields     #[PySem.Value.str (PySem.Str.ofString "sub") 265, PySem.Value.str (PySem.Str.ofString "sub") 266,       PySem.Value.str (PySem.Str.ofString "/claim/cut.py") 267, PySem.Value.int 41 0, PySem.Value.int 3 0,       PySem.Value.int 0 0, PySem.Value.int 0 0, PySem.Value.int 3 0, PySem.Value.ref 68, PySem.Value.bool Bool.true,       PySem.Value.int 181 0, PySem.Value.ref 69, PySem.Value.none, PySem.Value.ref 70, PySem.Value.ref 71,       PySem.Value.ref 72, PySem.Value.int 276 0, PySem.Value.int 41 0,       PySem.Value.str (PySem.Str.ofString "/claim/cut.py") 277])   #[]
noncomputable def ob_74_4 : Params → Obj := fun P => PySem.Obj.mk (PySem.Value.type "function") (Option.none) (PySem.Data.func (defAt (i := 7) rfl (PySem.Str.ofString "sub") (3) ([]) (PySem.Value.none) (PySem.Value.none) (PySem.Value.none) (PySem.Value.str (PySem.Str.ofString "gmp.limbs") 187) (Option.none) (PySem.Value.ref 73) (PySem.Value.none) (0))) (#[])
noncomputable def ob_75_4 : Params → Obj := fun P => PySem.Obj.mk (PySem.Value.type "tuple") Option.none (PySem.Data.seq #[]) #[]
noncomputable def ob_76_4 : Params → Obj := fun P => PySem.Obj.mk PySem.Value.none Option.none (PySem.Data.fields #[]) #[]
noncomputable def ob_77_4 : Params → Obj := fun P => PySem.Obj.mk (PySem.Value.type "tuple") Option.none   (PySem.Data.seq     #[PySem.Value.str (PySem.Str.ofString "some") 284, PySem.Value.str (PySem.Str.ofString "w") 285,       PySem.Value.str (PySem.Str.ofString "mul") 286, PySem.Value.str (PySem.Str.ofString "half") 287])   #[]
noncomputable def ob_78_4 : Params → Obj := fun P => PySem.Obj.mk (PySem.Value.type "tuple") Option.none (PySem.Data.seq #[]) #[]
noncomputable def ob_79_4 : Params → Obj := fun P => PySem.Obj.mk (PySem.Value.none) (Option.none) (PySem.Data.func (defAt (i := 9) rfl (PySem.Str.ofString "product_of_counts") (0) ([]) (PySem.Value.none) (PySem.Value.none) (PySem.Value.none) (PySem.Value.none) (Option.none) (PySem.Value.none) (PySem.Value.none) (0))) (#[])
noncomputable def ob_80_4 : Params → Obj := fun P => PySem.Obj.mk (PySem.Value.type "code") Option.none   (PySem.Data.fields     #[PySem.Value.str (PySem.Str.ofString "product_of_counts") 281,       PySem.Value.str (PySem.Str.ofString "product_of_counts") 282,       PySem.Value.str (PySem.Str.ofString "/claim/cut.py") 283, PySem.Value.int 51 0, PySem.Value.int 3 0,       PySem.Value.int 0 0, PySem.Value.int 0 0, PySem.Value.int 3 0, PySem.Value.ref 75, PySem.Value.bool Bool.true,       PySem.Value.int 181 0, PySem.Value.ref 76, PySem.Value.none, PySem.Value.ref 77, PySem.Value.ref 78,       PySem.Value.ref 79, PySem.Value.int 288 0, PySem.Value.int 51 0,       PySem.Value.str (PySem.Str.ofString "/claim/cut.py") 289])   #[]
noncomputable def ob_81_4 : Params → Obj := fun P => PySem.Obj.mk (PySem.Value.type "function") (Option.none) (PySem.Data.func (defAt (i := 9) rfl (PySem.Str.ofString "product_of_counts") (3) ([]) (PySem.Value.none) (PySem.Value.none) (PySem.Value.none) (PySem.Value.str (PySem.Str.ofString "gmp.counts") 279) (Option.none) (PySem.Value.ref 80) (PySem.Value.none) (0))) (#[])
noncomputable def ob_82_4 : Params → Obj := fun P => PySem.Obj.mk (PySem.Value.type "tuple") Option.none (PySem.Data.seq #[]) #[]
noncomputable def ob_83_4 : Params → Obj := fun P => PySem.Obj.mk PySem.Value.none Option.none (PySem.Data.fields #[]) #[]
noncomputable def ob_84_4 : Params → Obj := fun P => PySem.Obj.mk (PySem.Value.type "tuple") Option.none   (PySem.Data.seq     #[PySem.Value.str (PySem.Str.ofString "is_below") 296, PySem.Value.str (PySem.Str.ofString "nat") 297])   #[]
noncomputable def ob_85_4 : Params → Obj := fun P => PySem.Obj.mk (PySem.Value.type "tuple") Option.none (PySem.Data.seq #[]) #[]
noncomputable def ob_86_4 : Params → Obj := fun P => PySem.Obj.mk (PySem.Value.none) (Option.none) (PySem.Data.func (defAt (i := 11) rfl (PySem.Str.ofString "signed") (0) ([]) (PySem.Value.none) (PySem.Value.none) (PySem.Value.none) (PySem.Value.none) (Option.none) (PySem.Value.none) (PySem.Value.none) (0))) (#[])
noncomputable def ob_87_4 : Params → Obj := fun P => PySem.Obj.mk (PySem.Value.type "code") Option.none   (PySem.Data.fields     #[PySem.Value.str (PySem.Str.ofString "signed") 293, PySem.Value.str (PySem.Str.ofString "signed") 294,       PySem.Value.str (PySem.Str.ofString "/claim/cut.py") 295, PySem.Value.int 59 0, PySem.Value.int 2 0,       PySem.Value.int 0 0, PySem.Value.int 0 0, PySem.Value.int 3 0, PySem.Value.ref 82, PySem.Value.bool Bool.true,       PySem.Value.int 181 0, PySem.Value.ref 83, PySem.Value.none, PySem.Value.ref 84, PySem.Value.ref 85,       PySem.Value.ref 86, PySem.Value.int 298 0, PySem.Value.int 59 0,       PySem.Value.str (PySem.Str.ofString "/claim/cut.py") 299])   #[]
noncomputable def ob_88_4 : Params → Obj := fun P => PySem.Obj.mk (PySem.Value.type "function") (Option.none) (PySem.Data.func (defAt (i := 11) rfl (PySem.Str.ofString "signed") (3) ([]) (PySem.Value.none) (PySem.Value.none) (PySem.Value.none) (PySem.Value.str (PySem.Str.ofString "gmp.signed") 291) (Option.none) (PySem.Value.ref 87) (PySem.Value.none) (0))) (#[])
noncomputable def ob_89_4 : Params → Obj := fun P => PySem.Obj.mk (PySem.Value.type "tuple") Option.none (PySem.Data.seq #[]) #[]
noncomputable def ob_90_4 : Params → Obj := fun P => PySem.Obj.mk PySem.Value.none Option.none (PySem.Data.fields #[]) #[]
noncomputable def ob_91_4 : Params → Obj := fun P => PySem.Obj.mk (PySem.Value.type "tuple") Option.none   (PySem.Data.seq     #[PySem.Value.str (PySem.Str.ofString "x") 304, PySem.Value.str (PySem.Str.ofString "y") 305,       PySem.Value.str (PySem.Str.ofString "w") 306])   #[]
noncomputable def ob_92_4 : Params → Obj := fun P => PySem.Obj.mk (PySem.Value.type "tuple") Option.none (PySem.Data.seq #[]) #[]
noncomputable def ob_93_4 : Params → Obj := fun P => PySem.Obj.mk (PySem.Value.none) (Option.none) (PySem.Data.func (defAt (i := 12) rfl (PySem.Str.ofString "s_add") (0) ([]) (PySem.Value.none) (PySem.Value.none) (PySem.Value.none) (PySem.Value.none) (Option.none) (PySem.Value.none) (PySem.Value.none) (0))) (#[])
noncomputable def ob_94_4 : Params → Obj := fun P => PySem.Obj.mk (PySem.Value.type "code") Option.none   (PySem.Data.fields     #[PySem.Value.str (PySem.Str.ofString "s_add") 301, PySem.Value.str (PySem.Str.ofString "s_add") 302,       PySem.Value.str (PySem.Str.ofString "/claim/cut.py") 303, PySem.Value.int 61 0, PySem.Value.int 3 0,       PySem.Value.int 0 0, PySem.Value.int 0 0, PySem.Value.int 3 0, PySem.Value.ref 89, PySem.Value.bool Bool.true,       PySem.Value.int 181 0, PySem.Value.ref 90, PySem.Value.none, PySem.Value.ref 91, PySem.Value.ref 92,       PySem.Value.ref 93, PySem.Value.int 307 0, PySem.Value.int 61 0,       PySem.Value.str (PySem.Str.ofString "/claim/cut.py") 308])   #[]
noncomputable def ob_95_4 : Params → Obj := fun P => PySem.Obj.mk (PySem.Value.type "function") (Option.none) (PySem.Data.func (defAt (i := 12) rfl (PySem.Str.ofString "s_add") (3) ([]) (PySem.Value.none) (PySem.Value.none) (PySem.Value.none) (PySem.Value.str (PySem.Str.ofString "gmp.signed") 291) (Option.none) (PySem.Value.ref 94) (PySem.Value.none) (0))) (#[])
noncomputable def ob_96_4 : Params → Obj := fun P => PySem.Obj.mk (PySem.Value.type "tuple") Option.none (PySem.Data.seq #[]) #[]
noncomputable def ob_97_4 : Params → Obj := fun P => PySem.Obj.mk PySem.Value.none Option.none (PySem.Data.fields #[]) #[]
noncomputable def ob_98_4 : Params → Obj := fun P => PySem.Obj.mk (PySem.Value.type "tuple") Option.none   (PySem.Data.seq     #[PySem.Value.str (PySem.Str.ofString "x") 313, PySem.Value.str (PySem.Str.ofString "y") 314,       PySem.Value.str (PySem.Str.ofString "w") 315, PySem.Value.str (PySem.Str.ofString "mul") 316])   #[]
noncomputable def ob_99_4 : Params → Obj := fun P => PySem.Obj.mk (PySem.Value.type "tuple") Option.none (PySem.Data.seq #[]) #[]
noncomputable def ob_100_4 : Params → Obj := fun P => PySem.Obj.mk (PySem.Value.none) (Option.none) (PySem.Data.func (defAt (i := 13) rfl (PySem.Str.ofString "s_mul") (0) ([]) (PySem.Value.none) (PySem.Value.none) (PySem.Value.none) (PySem.Value.none) (Option.none) (PySem.Value.none) (PySem.Value.none) (0))) (#[])
noncomputable def ob_101_4 : Params → Obj := fun P => PySem.Obj.mk (PySem.Value.type "code") Option.none   (PySem.Data.fields     #[PySem.Value.str (PySem.Str.ofString "s_mul") 310, PySem.Value.str (PySem.Str.ofString "s_mul") 311,       PySem.Value.str (PySem.Str.ofString "/claim/cut.py") 312, PySem.Value.int 67 0, PySem.Value.int 4 0,       PySem.Value.int 0 0, PySem.Value.int 0 0, PySem.Value.int 3 0, PySem.Value.ref 96, PySem.Value.bool Bool.true,       PySem.Value.int 181 0, PySem.Value.ref 97, PySem.Value.none, PySem.Value.ref 98, PySem.Value.ref 99,       PySem.Value.ref 100, PySem.Value.int 317 0, PySem.Value.int 67 0,       PySem.Value.str (PySem.Str.ofString "/claim/cut.py") 318])   #[]
noncomputable def ob_102_4 : Params → Obj := fun P => PySem.Obj.mk (PySem.Value.type "function") (Option.none) (PySem.Data.func (defAt (i := 13) rfl (PySem.Str.ofString "s_mul") (3) ([]) (PySem.Value.none) (PySem.Value.none) (PySem.Value.none) (PySem.Value.str (PySem.Str.ofString "gmp.signed") 291) (Option.none) (PySem.Value.ref 101) (PySem.Value.none) (0))) (#[])
noncomputable def ob_103_4 : Params → Obj := fun P => PySem.Obj.mk (PySem.Value.type "tuple") Option.none   (PySem.Data.seq #[PySem.Value.int 13 322, PySem.Value.int 591 323, PySem.Value.int 409 324]) #[]
noncomputable def ob_104_4 : Params → Obj := fun P => PySem.Obj.mk (PySem.Value.type "tuple") Option.none   (PySem.Data.seq #[PySem.Value.int 545 326, PySem.Value.int 140 327, PySem.Value.int 134 328]) #[]
noncomputable def ob_105_4 : Params → Obj := fun P => PySem.Obj.mk (PySem.Value.type "tuple") Option.none   (PySem.Data.seq     #[PySem.Value.int 32 330, PySem.Value.int 32 331, PySem.Value.int 32 332, PySem.Value.int 9 333,       PySem.Value.int 125 334, PySem.Value.int 23 335, PySem.Value.int 23 336, PySem.Value.int 23 337,       PySem.Value.int 29 338, PySem.Value.int 29 339, PySem.Value.int 29 340])   #[]
noncomputable def ob_106_4 : Params → Obj := fun P => PySem.Obj.mk (PySem.Value.type "tuple") Option.none (PySem.Data.seq #[]) #[]
noncomputable def ob_107_4 : Params → Obj := fun P => PySem.Obj.mk PySem.Value.none Option.none (PySem.Data.fields #[]) #[]
noncomputable def ob_108_4 : Params → Obj := fun P => PySem.Obj.mk (PySem.Value.type "tuple") Option.none   (PySem.Data.seq     #[PySem.Value.str (PySem.Str.ofString "groups") 345, PySem.Value.str (PySem.Str.ofString "w") 346,       PySem.Value.str (PySem.Str.ofString "mul") 347, PySem.Value.str (PySem.Str.ofString "found") 348,       PySem.Value.str (PySem.Str.ofString "group") 349])   #[]
noncomputable def ob_109_4 : Params → Obj := fun P => PySem.Obj.mk (PySem.Value.type "tuple") Option.none (PySem.Data.seq #[]) #[]
noncomputable def ob_110_4 : Params → Obj := fun P => PySem.Obj.mk (PySem.Value.none) (Option.none) (PySem.Data.func (defAt (i := 18) rfl (PySem.Str.ofString "of_groups") (0) ([]) (PySem.Value.none) (PySem.Value.none) (PySem.Value.none) (PySem.Value.none) (Option.none) (PySem.Value.none) (PySem.Value.none) (0))) (#[])
noncomputable def ob_111_4 : Params → Obj := fun P => PySem.Obj.mk (PySem.Value.type "code") Option.none   (PySem.Data.fields     #[PySem.Value.str (PySem.Str.ofString "of_groups") 342, PySem.Value.str (PySem.Str.ofString "of_groups") 343,       PySem.Value.str (PySem.Str.ofString "/claim/cut.py") 344, PySem.Value.int 73 0, PySem.Value.int 3 0,       PySem.Value.int 0 0, PySem.Value.int 0 0, PySem.Value.int 3 0, PySem.Value.ref 106, PySem.Value.bool Bool.true,       PySem.Value.int 181 0, PySem.Value.ref 107, PySem.Value.none, PySem.Value.ref 108, PySem.Value.ref 109,       PySem.Value.ref 110, PySem.Value.int 350 0, PySem.Value.int 73 0,       PySem.Value.str (PySem.Str.ofString "/claim/cut.py") 351])   #[]
noncomputable def ob_112_4 : Params → Obj := fun P => PySem.Obj.mk (PySem.Value.type "function") (Option.none) (PySem.Data.func (defAt (i := 18) rfl (PySem.Str.ofString "of_groups") (3) ([]) (PySem.Value.none) (PySem.Value.none) (PySem.Value.none) (PySem.Value.str (PySem.Str.ofString "gmp.splitting") 320) (Option.none) (PySem.Value.ref 111) (PySem.Value.none) (0))) (#[])
noncomputable def ob_3_5 : Params → Obj := fun P => PySem.Obj.mk (PySem.Value.type "dict") Option.none   (PySem.Data.dict     #[PySem.DictEntry.mk (PySem.PyData.keyHash P (PySem.Str.ofString "__name__"))         (PySem.Value.str (PySem.Str.ofString "__name__") 165)         (PySem.Value.str (PySem.Str.ofString "gmp.splitting") 320),       PySem.DictEntry.mk (PySem.PyData.keyHash P (PySem.Str.ofString "__doc__"))         (PySem.Value.str (PySem.Str.ofString "__doc__") 166) PySem.Value.none,       PySem.DictEntry.mk (PySem.PyData.keyHash P (PySem.Str.ofString "__package__"))         (PySem.Value.str (PySem.Str.ofString "__package__") 167) PySem.Value.none,       PySem.DictEntry.mk (PySem.PyData.keyHash P (PySem.Str.ofString "__loader__"))         (PySem.Value.str (PySem.Str.ofString "__loader__") 168) (PySem.Value.builtin "__main__.__loader__#opaque"),       PySem.DictEntry.mk (PySem.PyData.keyHash P (PySem.Str.ofString "__spec__"))         (PySem.Value.str (PySem.Str.ofString "__spec__") 169) PySem.Value.none,       PySem.DictEntry.mk (PySem.PyData.keyHash P (PySem.Str.ofString "__annotations__"))         (PySem.Value.str (PySem.Str.ofString "__annotations__") 170) (PySem.Value.ref 6),       PySem.DictEntry.mk (PySem.PyData.keyHash P (PySem.Str.ofString "__builtins__"))         (PySem.Value.str (PySem.Str.ofString "__builtins__") 171) (PySem.Value.ref 4),       PySem.DictEntry.mk (PySem.PyData.keyHash P (PySem.Str.ofString "__file__"))         (PySem.Value.str (PySem.Str.ofString "__file__") 173)         (PySem.Value.str (PySem.Str.ofString "/claim/cut.py") 172),       PySem.DictEntry.mk (PySem.PyData.keyHash P (PySem.Str.ofString "__cached__"))         (PySem.Value.str (PySem.Str.ofString "__cached__") 174) PySem.Value.none,       PySem.DictEntry.mk (PySem.PyData.keyHash P (PySem.Str.ofString "GmpError"))         (PySem.Value.str (PySem.Str.ofString "GmpError") 208) (PySem.Value.ref 24),       PySem.DictEntry.mk (PySem.PyData.keyHash P (PySem.Str.ofString "OutOfRange"))         (PySem.Value.str (PySem.Str.ofString "OutOfRange") 224) (PySem.Value.ref 37),       PySem.DictEntry.mk (PySem.PyData.keyHash P (PySem.Str.ofString "normal"))         (PySem.Value.str (PySem.Str.ofString "normal") 232) (PySem.Value.ref 46),       PySem.DictEntry.mk (PySem.PyData.keyHash P (PySem.Str.ofString "nat_of"))         (PySem.Value.str (PySem.Str.ofString "nat_of") 242) (PySem.Value.ref 53),       PySem.DictEntry.mk (PySem.PyData.keyHash P (PySem.Str.ofString "compare"))         (PySem.Value.str (PySem.Str.ofString "compare") 251) (PySem.Value.ref 60),       PySem.DictEntry.mk (PySem.PyData.keyHash P (PySem.Str.ofString "add"))         (PySem.Value.str (PySem.Str.ofString "add") 264) (PySem.Value.ref 67),       PySem.DictEntry.mk (PySem.PyData.keyHash P (PySem.Str.ofString "sub"))         (PySem.Value.str (PySem.Str.ofString "sub") 278) (PySem.Value.ref 74),       PySem.DictEntry.mk (PySem.PyData.keyHash P (PySem.Str.ofString "product_of_counts"))         (PySem.Value.str (PySem.Str.ofString "product_of_counts") 290) (PySem.Value.ref 81),       PySem.DictEntry.mk (PySem.PyData.keyHash P (PySem.Str.ofString "signed"))         (PySem.Value.str (PySem.Str.ofString "signed") 300) (PySem.Value.ref 88),       PySem.DictEntry.mk (PySem.PyData.keyHash P (PySem.Str.ofString "s_add"))         (PySem.Value.str (PySem.Str.ofString "s_add") 309) (PySem.Value.ref 95),       PySem.DictEntry.mk (PySem.PyData.keyHash P (PySem.Str.ofString "s_mul"))         (PySem.Value.str (PySem.Str.ofString "s_mul") 319) (PySem.Value.ref 102),       PySem.DictEntry.mk (PySem.PyData.keyHash P (PySem.Str.ofString "FIRST_GROUPS"))         (PySem.Value.str (PySem.Str.ofString "FIRST_GROUPS") 325) (PySem.Value.ref 103),       PySem.DictEntry.mk (PySem.PyData.keyHash P (PySem.Str.ofString "STEP_GROUPS"))         (PySem.Value.str (PySem.Str.ofString "STEP_GROUPS") 329) (PySem.Value.ref 104),       PySem.DictEntry.mk (PySem.PyData.keyHash P (PySem.Str.ofString "CUBE_FACTORS"))         (PySem.Value.str (PySem.Str.ofString "CUBE_FACTORS") 341) (PySem.Value.ref 105),       PySem.DictEntry.mk (PySem.PyData.keyHash P (PySem.Str.ofString "of_groups"))         (PySem.Value.str (PySem.Str.ofString "of_groups") 352) (PySem.Value.ref 112),       PySem.DictEntry.mk (PySem.PyData.keyHash P (PySem.Str.ofString "EulerSeries"))         (PySem.Value.str (PySem.Str.ofString "EulerSeries") 382) (PySem.Value.ref 129),       PySem.DictEntry.mk (PySem.PyData.keyHash P (PySem.Str.ofString "ArctanSeries"))         (PySem.Value.str (PySem.Str.ofString "ArctanSeries") 421) (PySem.Value.ref 157)]     26)   #[]
noncomputable def ob_12_5 : Params → Obj := fun P => PySem.Obj.mk PySem.Value.none Option.none   (PySem.Data.fields     #[PySem.Value.int 2 0, PySem.Value.int 0 0, PySem.Value.ref 20, PySem.Value.int 4 0, PySem.Value.int 0 0,       PySem.Value.ref 33, PySem.Value.int 6 0, PySem.Value.int 0 0, PySem.Value.ref 45, PySem.Value.int 11 0,       PySem.Value.int 0 0, PySem.Value.ref 52, PySem.Value.int 19 0, PySem.Value.int 0 0, PySem.Value.ref 59,       PySem.Value.int 26 0, PySem.Value.int 0 0, PySem.Value.ref 66, PySem.Value.int 41 0, PySem.Value.int 0 0,       PySem.Value.ref 73, PySem.Value.int 51 0, PySem.Value.int 0 0, PySem.Value.ref 80, PySem.Value.int 59 0,       PySem.Value.int 0 0, PySem.Value.ref 87, PySem.Value.int 61 0, PySem.Value.int 0 0, PySem.Value.ref 94,       PySem.Value.int 67 0, PySem.Value.int 0 0, PySem.Value.ref 101, PySem.Value.int 73 0, PySem.Value.int 0 0,       PySem.Value.ref 111, PySem.Value.int 78 0, PySem.Value.int 0 0, PySem.Value.ref 118, PySem.Value.int 82 0,       PySem.Value.int 0 0, PySem.Value.ref 139])   #[]
noncomputable def ob_113_5 : Params → Obj := fun P => PySem.Obj.mk (PySem.Value.type "tuple") Option.none (PySem.Data.seq #[]) #[]
noncomputable def ob_114_5 : Params → Obj := fun P => PySem.Obj.mk (PySem.Value.type "builtin_function_or_method") Option.none   (PySem.Data.fields #[PySem.Value.builtin "type.__prepare__", PySem.Value.type "type"]) #[]
noncomputable def ob_115_5 : Params → Obj := fun P => PySem.Obj.mk (PySem.Value.type "dict") Option.none   (PySem.Data.dict     #[PySem.DictEntry.mk (PySem.PyData.keyHash P (PySem.Str.ofString "__module__"))         (PySem.Value.str (PySem.Str.ofString "__module__") 360)         (PySem.Value.str (PySem.Str.ofString "gmp.splitting") 320),       PySem.DictEntry.mk (PySem.PyData.keyHash P (PySem.Str.ofString "__qualname__"))         (PySem.Value.str (PySem.Str.ofString "__qualname__") 362)         (PySem.Value.str (PySem.Str.ofString "EulerSeries") 361),       PySem.DictEntry.mk (PySem.PyData.keyHash P (PySem.Str.ofString "__firstlineno__"))         (PySem.Value.str (PySem.Str.ofString "__firstlineno__") 364) (PySem.Value.int 78 363),       PySem.DictEntry.mk (PySem.PyData.keyHash P (PySem.Str.ofString "at"))         (PySem.Value.str (PySem.Str.ofString "at") 374) (PySem.Value.ref 126),       PySem.DictEntry.mk (PySem.PyData.keyHash P (PySem.Str.ofString "__static_attributes__"))         (PySem.Value.str (PySem.Str.ofString "__static_attributes__") 375) (PySem.Value.ref 127)]     5)   #[]
noncomputable def ob_116_5 : Params → Obj := fun P => PySem.Obj.mk (PySem.Value.type "tuple") Option.none (PySem.Data.seq #[]) #[]
noncomputable def ob_117_5 : Params → Obj := fun P => PySem.Obj.mk PySem.Value.none Option.none   (PySem.Data.fields #[PySem.Value.int 80 0, PySem.Value.int 4 0, PySem.Value.ref 125]) #[]
noncomputable def ob_118_5 : Params → Obj := fun P => PySem.Obj.mk (PySem.Value.type "code") Option.none   (PySem.Data.fields     #[PySem.Value.str (PySem.Str.ofString "EulerSeries") 355, PySem.Value.str (PySem.Str.ofString "EulerSeries") 356,       PySem.Value.str (PySem.Str.ofString "/claim/cut.py") 357, PySem.Value.int 78 0, PySem.Value.int 0 0,       PySem.Value.int 0 0, PySem.Value.int 0 0, PySem.Value.int 0 0, PySem.Value.ref 116, PySem.Value.bool Bool.false,       PySem.Value.int 181 0, PySem.Value.ref 117, PySem.Value.none, PySem.Value.none, PySem.Value.none,       PySem.Value.none, PySem.Value.int 358 0, PySem.Value.int 78 0,       PySem.Value.str (PySem.Str.ofString "/claim/cut.py") 359])   #[]
noncomputable def ob_119_5 : Params → Obj := fun P => PySem.Obj.mk (PySem.Value.type "frame") Option.none PySem.Data.plain   #[Option.some (PySem.Value.ref 118), Option.some (PySem.Value.ref 3), Option.some (PySem.Value.ref 115), Option.none,     Option.some (PySem.Value.str (PySem.Str.ofString "gmp.splitting") 320), Option.none,     Option.some (PySem.Value.ref 0)]
noncomputable def ob_120_5 : Params → Obj := fun P => PySem.Obj.mk (PySem.Value.type "tuple") Option.none (PySem.Data.seq #[]) #[]
noncomputable def ob_121_5 : Params → Obj := fun P => PySem.Obj.mk PySem.Value.none Option.none (PySem.Data.fields #[]) #[]
noncomputable def ob_122_5 : Params → Obj := fun P => PySem.Obj.mk (PySem.Value.type "tuple") Option.none   (PySem.Data.seq     #[PySem.Value.str (PySem.Str.ofString "self") 368, PySem.Value.str (PySem.Str.ofString "k") 369,       PySem.Value.str (PySem.Str.ofString "w") 370, PySem.Value.str (PySem.Str.ofString "mul") 371])   #[]
noncomputable def ob_123_5 : Params → Obj := fun P => PySem.Obj.mk (PySem.Value.type "tuple") Option.none (PySem.Data.seq #[]) #[]
noncomputable def ob_124_5 : Params → Obj := fun P => PySem.Obj.mk (PySem.Value.none) (Option.none) (PySem.Data.func (methAt (i := 19) (j := 0) rfl rfl (PySem.Str.ofString "EulerSeries.at") (0) ([]) (PySem.Value.none) (PySem.Value.none) (PySem.Value.none) (PySem.Value.none) (Option.none) (PySem.Value.none) (PySem.Value.none) (0))) (#[])
noncomputable def ob_125_5 : Params → Obj := fun P => PySem.Obj.mk (PySem.Value.type "code") Option.none   (PySem.Data.fields     #[PySem.Value.str (PySem.Str.ofString "at") 365, PySem.Value.str (PySem.Str.ofString "EulerSeries.at") 366,       PySem.Value.str (PySem.Str.ofString "/claim/cut.py") 367, PySem.Value.int 80 0, PySem.Value.int 4 0,       PySem.Value.int 0 0, PySem.Value.int 0 0, PySem.Value.int 3 0, PySem.Value.ref 120, PySem.Value.bool Bool.true,       PySem.Value.int 181 0, PySem.Value.ref 121, PySem.Value.none, PySem.Value.ref 122, PySem.Value.ref 123,       PySem.Value.ref 124, PySem.Value.int 372 0, PySem.Value.int 80 0,       PySem.Value.str (PySem.Str.ofString "/claim/cut.py") 373])   #[]
noncomputable def ob_126_5 : Params → Obj := fun P => PySem.Obj.mk (PySem.Value.type "function") (Option.none) (PySem.Data.func (methAt (i := 19) (j := 0) rfl rfl (PySem.Str.ofString "EulerSeries.at") (3) ([]) (PySem.Value.none) (PySem.Value.none) (PySem.Value.none) (PySem.Value.str (PySem.Str.ofString "gmp.splitting") 320) (Option.none) (PySem.Value.ref 125) (PySem.Value.none) (0))) (#[])
noncomputable def ob_127_5 : Params → Obj := fun P => PySem.Obj.mk (PySem.Value.type "tuple") Option.none (PySem.Data.seq #[]) #[]
noncomputable def ob_128_5 : Params → Obj := fun P => PySem.Obj.mk (PySem.Value.type "dict") Option.none   (PySem.Data.dict     #[PySem.DictEntry.mk (PySem.PyData.keyHash P (PySem.Str.ofString "__module__"))         (PySem.Value.str (PySem.Str.ofString "__module__") 360)         (PySem.Value.str (PySem.Str.ofString "gmp.splitting") 320),       PySem.DictEntry.mk (PySem.PyData.keyHash P (PySem.Str.ofString "__firstlineno__"))         (PySem.Value.str (PySem.Str.ofString "__firstlineno__") 364) (PySem.Value.int 78 363),       PySem.DictEntry.mk (PySem.PyData.keyHash P (PySem.Str.ofString "at"))         (PySem.Value.str (PySem.Str.ofString "at") 374) (PySem.Value.ref 126),       PySem.DictEntry.mk (PySem.PyData.keyHash P (PySem.Str.ofString "__static_attributes__"))         (PySem.Value.str (PySem.Str.ofString "__static_attributes__") 375) (PySem.Value.ref 127),       PySem.DictEntry.mk (PySem.PyData.keyHash P (PySem.Str.ofString "__dict__"))         (PySem.Value.str (PySem.Str.ofString "__dict__") 377) (PySem.Value.ref 130),       PySem.DictEntry.mk (PySem.PyData.keyHash P (PySem.Str.ofString "__weakref__"))         (PySem.Value.str (PySem.Str.ofString "__weakref__") 379) (PySem.Value.ref 131),       PySem.DictEntry.mk (PySem.PyData.keyHash P (PySem.Str.ofString "__doc__"))         (PySem.Value.str (PySem.Str.ofString "__doc__") 380) PySem.Value.none]     4)   #[]
noncomputable def ob_129_5 : Params → Obj := fun P => PySem.Obj.mk (PySem.Value.type "type") Option.none   (PySem.Data.cls     (PySem.ClassData.mk (PySem.Str.ofString "EulerSeries") [PySem.Value.type "object"]       [PySem.Value.ref 129, PySem.Value.type "object"] 128 (PySem.Str.ofString "EulerSeries") Bool.true [] [] Bool.false       Option.none Bool.false))   #[Option.none, Option.none, Option.some (PySem.Value.str (PySem.Str.ofString "EulerSeries") 353),     Option.some (PySem.Value.str (PySem.Str.ofString "EulerSeries") 361),     Option.some (PySem.Value.builtin "object.__new__"), Option.some (PySem.Value.bool Bool.true)]
noncomputable def ob_130_5 : Params → Obj := fun P => PySem.Obj.mk (PySem.Value.type "getset_descriptor") Option.none   (PySem.Data.fields     #[PySem.Value.str (PySem.Str.ofString "__dict__") 376, PySem.Value.ref 129, PySem.Value.builtin "function.__dict__",       PySem.Value.builtin "function.__dict__#set"])   #[]
noncomputable def ob_131_5 : Params → Obj := fun P => PySem.Obj.mk (PySem.Value.type "getset_descriptor") Option.none   (PySem.Data.fields     #[PySem.Value.str (PySem.Str.ofString "__weakref__") 378, PySem.Value.ref 129,       PySem.Value.builtin "ExceptionGroup.__weakref__", PySem.Value.none])   #[]
noncomputable def ob_132_5 : Params → Obj := fun P => PySem.Obj.mk (PySem.Value.type "super") Option.none   (PySem.Data.fields #[PySem.Value.ref 129, PySem.Value.ref 129, PySem.Value.ref 129]) #[]
noncomputable def ob_133_5 : Params → Obj := fun P => PySem.Obj.mk (PySem.Value.type "builtin_function_or_method") Option.none   (PySem.Data.fields #[PySem.Value.builtin "object.__init_subclass__", PySem.Value.ref 129]) #[]
noncomputable def ob_134_5 : Params → Obj := fun P => PySem.Obj.mk (PySem.Value.type "tuple") Option.none (PySem.Data.seq #[]) #[]
noncomputable def ob_135_5 : Params → Obj := fun P => PySem.Obj.mk (PySem.Value.type "builtin_function_or_method") Option.none   (PySem.Data.fields #[PySem.Value.builtin "type.__prepare__", PySem.Value.type "type"]) #[]
noncomputable def ob_136_5 : Params → Obj := fun P => PySem.Obj.mk (PySem.Value.type "dict") Option.none   (PySem.Data.dict     #[PySem.DictEntry.mk (PySem.PyData.keyHash P (PySem.Str.ofString "__module__"))         (PySem.Value.str (PySem.Str.ofString "__module__") 390)         (PySem.Value.str (PySem.Str.ofString "gmp.splitting") 320),       PySem.DictEntry.mk (PySem.PyData.keyHash P (PySem.Str.ofString "__qualname__"))         (PySem.Value.str (PySem.Str.ofString "__qualname__") 392)         (PySem.Value.str (PySem.Str.ofString "ArctanSeries") 391),       PySem.DictEntry.mk (PySem.PyData.keyHash P (PySem.Str.ofString "__firstlineno__"))         (PySem.Value.str (PySem.Str.ofString "__firstlineno__") 394) (PySem.Value.int 82 393),       PySem.DictEntry.mk (PySem.PyData.keyHash P (PySem.Str.ofString "__init__"))         (PySem.Value.str (PySem.Str.ofString "__init__") 402) (PySem.Value.ref 147),       PySem.DictEntry.mk (PySem.PyData.keyHash P (PySem.Str.ofString "at"))         (PySem.Value.str (PySem.Str.ofString "at") 412) (PySem.Value.ref 154),       PySem.DictEntry.mk (PySem.PyData.keyHash P (PySem.Str.ofString "__static_attributes__"))         (PySem.Value.str (PySem.Str.ofString "__static_attributes__") 414) (PySem.Value.ref 155)]     6)   #[]
noncomputable def ob_137_5 : Params → Obj := fun P => PySem.Obj.mk (PySem.Value.type "tuple") Option.none (PySem.Data.seq #[]) #[]
noncomputable def ob_138_5 : Params → Obj := fun P => PySem.Obj.mk PySem.Value.none Option.none   (PySem.Data.fields     #[PySem.Value.int 84 0, PySem.Value.int 4 0, PySem.Value.ref 146, PySem.Value.int 87 0, PySem.Value.int 4 0,       PySem.Value.ref 153])   #[]
noncomputable def ob_139_5 : Params → Obj := fun P => PySem.Obj.mk (PySem.Value.type "code") Option.none   (PySem.Data.fields     #[PySem.Value.str (PySem.Str.ofString "ArctanSeries") 385, PySem.Value.str (PySem.Str.ofString "ArctanSeries") 386,       PySem.Value.str (PySem.Str.ofString "/claim/cut.py") 387, PySem.Value.int 82 0, PySem.Value.int 0 0,       PySem.Value.int 0 0, PySem.Value.int 0 0, PySem.Value.int 0 0, PySem.Value.ref 137, PySem.Value.bool Bool.false,       PySem.Value.int 181 0, PySem.Value.ref 138, PySem.Value.none, PySem.Value.none, PySem.Value.none,       PySem.Value.none, PySem.Value.int 388 0, PySem.Value.int 82 0,       PySem.Value.str (PySem.Str.ofString "/claim/cut.py") 389])   #[]
noncomputable def ob_140_5 : Params → Obj := fun P => PySem.Obj.mk (PySem.Value.type "frame") Option.none PySem.Data.plain   #[Option.some (PySem.Value.ref 139), Option.some (PySem.Value.ref 3), Option.some (PySem.Value.ref 136), Option.none,     Option.some (PySem.Value.str (PySem.Str.ofString "gmp.splitting") 320), Option.none,     Option.some (PySem.Value.ref 0)]
noncomputable def ob_141_5 : Params → Obj := fun P => PySem.Obj.mk (PySem.Value.type "tuple") Option.none (PySem.Data.seq #[]) #[]
noncomputable def ob_142_5 : Params → Obj := fun P => PySem.Obj.mk PySem.Value.none Option.none (PySem.Data.fields #[]) #[]
noncomputable def ob_143_5 : Params → Obj := fun P => PySem.Obj.mk (PySem.Value.type "tuple") Option.none   (PySem.Data.seq #[PySem.Value.str (PySem.Str.ofString "self") 398, PySem.Value.str (PySem.Str.ofString "x") 399]) #[]
noncomputable def ob_144_5 : Params → Obj := fun P => PySem.Obj.mk (PySem.Value.type "tuple") Option.none (PySem.Data.seq #[]) #[]
noncomputable def ob_145_5 : Params → Obj := fun P => PySem.Obj.mk (PySem.Value.none) (Option.none) (PySem.Data.func (methAt (i := 20) (j := 0) rfl rfl (PySem.Str.ofString "ArctanSeries.__init__") (0) ([]) (PySem.Value.none) (PySem.Value.none) (PySem.Value.none) (PySem.Value.none) (Option.none) (PySem.Value.none) (PySem.Value.none) (0))) (#[])
noncomputable def ob_146_5 : Params → Obj := fun P => PySem.Obj.mk (PySem.Value.type "code") Option.none   (PySem.Data.fields     #[PySem.Value.str (PySem.Str.ofString "__init__") 395,       PySem.Value.str (PySem.Str.ofString "ArctanSeries.__init__") 396,       PySem.Value.str (PySem.Str.ofString "/claim/cut.py") 397, PySem.Value.int 84 0, PySem.Value.int 2 0,       PySem.Value.int 0 0, PySem.Value.int 0 0, PySem.Value.int 3 0, PySem.Value.ref 141, PySem.Value.bool Bool.true,       PySem.Value.int 181 0, PySem.Value.ref 142, PySem.Value.none, PySem.Value.ref 143, PySem.Value.ref 144,       PySem.Value.ref 145, PySem.Value.int 400 0, PySem.Value.int 84 0,       PySem.Value.str (PySem.Str.ofString "/claim/cut.py") 401])   #[]
noncomputable def ob_147_5 : Params → Obj := fun P => PySem.Obj.mk (PySem.Value.type "function") (Option.none) (PySem.Data.func (methAt (i := 20) (j := 0) rfl rfl (PySem.Str.ofString "ArctanSeries.__init__") (3) ([]) (PySem.Value.none) (PySem.Value.none) (PySem.Value.none) (PySem.Value.str (PySem.Str.ofString "gmp.splitting") 320) (Option.none) (PySem.Value.ref 146) (PySem.Value.none) (0))) (#[])
noncomputable def ob_148_5 : Params → Obj := fun P => PySem.Obj.mk (PySem.Value.type "tuple") Option.none (PySem.Data.seq #[]) #[]
noncomputable def ob_149_5 : Params → Obj := fun P => PySem.Obj.mk PySem.Value.none Option.none (PySem.Data.fields #[]) #[]
noncomputable def ob_150_5 : Params → Obj := fun P => PySem.Obj.mk (PySem.Value.type "tuple") Option.none   (PySem.Data.seq     #[PySem.Value.str (PySem.Str.ofString "self") 406, PySem.Value.str (PySem.Str.ofString "k") 407,       PySem.Value.str (PySem.Str.ofString "w") 408, PySem.Value.str (PySem.Str.ofString "mul") 409])   #[]
noncomputable def ob_151_5 : Params → Obj := fun P => PySem.Obj.mk (PySem.Value.type "tuple") Option.none (PySem.Data.seq #[]) #[]
noncomputable def ob_152_5 : Params → Obj := fun P => PySem.Obj.mk (PySem.Value.none) (Option.none) (PySem.Data.func (methAt (i := 20) (j := 1) rfl rfl (PySem.Str.ofString "ArctanSeries.at") (0) ([]) (PySem.Value.none) (PySem.Value.none) (PySem.Value.none) (PySem.Value.none) (Option.none) (PySem.Value.none) (PySem.Value.none) (0))) (#[])
noncomputable def ob_153_5 : Params → Obj := fun P => PySem.Obj.mk (PySem.Value.type "code") Option.none   (PySem.Data.fields     #[PySem.Value.str (PySem.Str.ofString "at") 403, PySem.Value.str (PySem.Str.ofString "ArctanSeries.at") 404,       PySem.Value.str (PySem.Str.ofString "/claim/cut.py") 405, PySem.Value.int 87 0, PySem.Value.int 4 0,       PySem.Value.int 0 0, PySem.Value.int 0 0, PySem.Value.int 3 0, PySem.Value.ref 148, PySem.Value.bool Bool.true,       PySem.Value.int 181 0, PySem.Value.ref 149, PySem.Value.none, PySem.Value.ref 150, PySem.Value.ref 151,       PySem.Value.ref 152, PySem.Value.int 410 0, PySem.Value.int 87 0,       PySem.Value.str (PySem.Str.ofString "/claim/cut.py") 411])   #[]
noncomputable def ob_154_5 : Params → Obj := fun P => PySem.Obj.mk (PySem.Value.type "function") (Option.none) (PySem.Data.func (methAt (i := 20) (j := 1) rfl rfl (PySem.Str.ofString "ArctanSeries.at") (3) ([]) (PySem.Value.none) (PySem.Value.none) (PySem.Value.none) (PySem.Value.str (PySem.Str.ofString "gmp.splitting") 320) (Option.none) (PySem.Value.ref 153) (PySem.Value.none) (0))) (#[])
noncomputable def ob_155_5 : Params → Obj := fun P => PySem.Obj.mk (PySem.Value.type "tuple") Option.none (PySem.Data.seq #[PySem.Value.str (PySem.Str.ofString "x") 413]) #[]
noncomputable def ob_156_5 : Params → Obj := fun P => PySem.Obj.mk (PySem.Value.type "dict") Option.none   (PySem.Data.dict     #[PySem.DictEntry.mk (PySem.PyData.keyHash P (PySem.Str.ofString "__module__"))         (PySem.Value.str (PySem.Str.ofString "__module__") 390)         (PySem.Value.str (PySem.Str.ofString "gmp.splitting") 320),       PySem.DictEntry.mk (PySem.PyData.keyHash P (PySem.Str.ofString "__firstlineno__"))         (PySem.Value.str (PySem.Str.ofString "__firstlineno__") 394) (PySem.Value.int 82 393),       PySem.DictEntry.mk (PySem.PyData.keyHash P (PySem.Str.ofString "__init__"))         (PySem.Value.str (PySem.Str.ofString "__init__") 402) (PySem.Value.ref 147),       PySem.DictEntry.mk (PySem.PyData.keyHash P (PySem.Str.ofString "at"))         (PySem.Value.str (PySem.Str.ofString "at") 412) (PySem.Value.ref 154),       PySem.DictEntry.mk (PySem.PyData.keyHash P (PySem.Str.ofString "__static_attributes__"))         (PySem.Value.str (PySem.Str.ofString "__static_attributes__") 414) (PySem.Value.ref 155),       PySem.DictEntry.mk (PySem.PyData.keyHash P (PySem.Str.ofString "__dict__"))         (PySem.Value.str (PySem.Str.ofString "__dict__") 416) (PySem.Value.ref 158),       PySem.DictEntry.mk (PySem.PyData.keyHash P (PySem.Str.ofString "__weakref__"))         (PySem.Value.str (PySem.Str.ofString "__weakref__") 418) (PySem.Value.ref 159),       PySem.DictEntry.mk (PySem.PyData.keyHash P (PySem.Str.ofString "__doc__"))         (PySem.Value.str (PySem.Str.ofString "__doc__") 419) PySem.Value.none]     4)   #[]
noncomputable def ob_157_5 : Params → Obj := fun P => PySem.Obj.mk (PySem.Value.type "type") Option.none   (PySem.Data.cls     (PySem.ClassData.mk (PySem.Str.ofString "ArctanSeries") [PySem.Value.type "object"]       [PySem.Value.ref 157, PySem.Value.type "object"] 156 (PySem.Str.ofString "ArctanSeries") Bool.true [] []       Bool.false Option.none Bool.false))   #[Option.none, Option.none, Option.some (PySem.Value.str (PySem.Str.ofString "ArctanSeries") 383),     Option.some (PySem.Value.str (PySem.Str.ofString "ArctanSeries") 391),     Option.some (PySem.Value.builtin "object.__new__"), Option.some (PySem.Value.bool Bool.true)]
noncomputable def ob_158_5 : Params → Obj := fun P => PySem.Obj.mk (PySem.Value.type "getset_descriptor") Option.none   (PySem.Data.fields     #[PySem.Value.str (PySem.Str.ofString "__dict__") 415, PySem.Value.ref 157, PySem.Value.builtin "function.__dict__",       PySem.Value.builtin "function.__dict__#set"])   #[]
noncomputable def ob_159_5 : Params → Obj := fun P => PySem.Obj.mk (PySem.Value.type "getset_descriptor") Option.none   (PySem.Data.fields     #[PySem.Value.str (PySem.Str.ofString "__weakref__") 417, PySem.Value.ref 157,       PySem.Value.builtin "ExceptionGroup.__weakref__", PySem.Value.none])   #[]
noncomputable def ob_160_5 : Params → Obj := fun P => PySem.Obj.mk (PySem.Value.type "super") Option.none   (PySem.Data.fields #[PySem.Value.ref 157, PySem.Value.ref 157, PySem.Value.ref 157]) #[]
noncomputable def ob_161_5 : Params → Obj := fun P => PySem.Obj.mk (PySem.Value.type "builtin_function_or_method") Option.none   (PySem.Data.fields #[PySem.Value.builtin "object.__init_subclass__", PySem.Value.ref 157]) #[]
noncomputable def ob_3_6 : Params → Obj := fun P => PySem.Obj.mk (PySem.Value.type "dict") Option.none   (PySem.Data.dict     #[PySem.DictEntry.mk (PySem.PyData.keyHash P (PySem.Str.ofString "__name__"))         (PySem.Value.str (PySem.Str.ofString "__name__") 165)         (PySem.Value.str (PySem.Str.ofString "law_rr0055_01") 505),       PySem.DictEntry.mk (PySem.PyData.keyHash P (PySem.Str.ofString "__doc__"))         (PySem.Value.str (PySem.Str.ofString "__doc__") 166) PySem.Value.none,       PySem.DictEntry.mk (PySem.PyData.keyHash P (PySem.Str.ofString "__package__"))         (PySem.Value.str (PySem.Str.ofString "__package__") 167) PySem.Value.none,       PySem.DictEntry.mk (PySem.PyData.keyHash P (PySem.Str.ofString "__loader__"))         (PySem.Value.str (PySem.Str.ofString "__loader__") 168) (PySem.Value.builtin "__main__.__loader__#opaque"),       PySem.DictEntry.mk (PySem.PyData.keyHash P (PySem.Str.ofString "__spec__"))         (PySem.Value.str (PySem.Str.ofString "__spec__") 169) PySem.Value.none,       PySem.DictEntry.mk (PySem.PyData.keyHash P (PySem.Str.ofString "__annotations__"))         (PySem.Value.str (PySem.Str.ofString "__annotations__") 170) (PySem.Value.ref 6),       PySem.DictEntry.mk (PySem.PyData.keyHash P (PySem.Str.ofString "__builtins__"))         (PySem.Value.str (PySem.Str.ofString "__builtins__") 171) (PySem.Value.ref 4),       PySem.DictEntry.mk (PySem.PyData.keyHash P (PySem.Str.ofString "__file__"))         (PySem.Value.str (PySem.Str.ofString "__file__") 173)         (PySem.Value.str (PySem.Str.ofString "/claim/cut.py") 172),       PySem.DictEntry.mk (PySem.PyData.keyHash P (PySem.Str.ofString "__cached__"))         (PySem.Value.str (PySem.Str.ofString "__cached__") 174) PySem.Value.none,       PySem.DictEntry.mk (PySem.PyData.keyHash P (PySem.Str.ofString "GmpError"))         (PySem.Value.str (PySem.Str.ofString "GmpError") 208) (PySem.Value.ref 24),       PySem.DictEntry.mk (PySem.PyData.keyHash P (PySem.Str.ofString "OutOfRange"))         (PySem.Value.str (PySem.Str.ofString "OutOfRange") 224) (PySem.Value.ref 37),       PySem.DictEntry.mk (PySem.PyData.keyHash P (PySem.Str.ofString "normal"))         (PySem.Value.str (PySem.Str.ofString "normal") 232) (PySem.Value.ref 46),       PySem.DictEntry.mk (PySem.PyData.keyHash P (PySem.Str.ofString "nat_of"))         (PySem.Value.str (PySem.Str.ofString "nat_of") 242) (PySem.Value.ref 53),       PySem.DictEntry.mk (PySem.PyData.keyHash P (PySem.Str.ofString "compare"))         (PySem.Value.str (PySem.Str.ofString "compare") 251) (PySem.Value.ref 60),       PySem.DictEntry.mk (PySem.PyData.keyHash P (PySem.Str.ofString "add"))         (PySem.Value.str (PySem.Str.ofString "add") 264) (PySem.Value.ref 67),       PySem.DictEntry.mk (PySem.PyData.keyHash P (PySem.Str.ofString "sub"))         (PySem.Value.str (PySem.Str.ofString "sub") 278) (PySem.Value.ref 74),       PySem.DictEntry.mk (PySem.PyData.keyHash P (PySem.Str.ofString "product_of_counts"))         (PySem.Value.str (PySem.Str.ofString "product_of_counts") 290) (PySem.Value.ref 81),       PySem.DictEntry.mk (PySem.PyData.keyHash P (PySem.Str.ofString "signed"))         (PySem.Value.str (PySem.Str.ofString "signed") 300) (PySem.Value.ref 88),       PySem.DictEntry.mk (PySem.PyData.keyHash P (PySem.Str.ofString "s_add"))         (PySem.Value.str (PySem.Str.ofString "s_add") 309) (PySem.Value.ref 95),       PySem.DictEntry.mk (PySem.PyData.keyHash P (PySem.Str.ofString "s_mul"))         (PySem.Value.str (PySem.Str.ofString "s_mul") 319) (PySem.Value.ref 102),       PySem.DictEntry.mk (PySem.PyData.keyHash P (PySem.Str.ofString "FIRST_GROUPS"))         (PySem.Value.str (PySem.Str.ofString "FIRST_GROUPS") 325) (PySem.Value.ref 103),       PySem.DictEntry.mk (PySem.PyData.keyHash P (PySem.Str.ofString "STEP_GROUPS"))         (PySem.Value.str (PySem.Str.ofString "STEP_GROUPS") 329) (PySem.Value.ref 104),       PySem.DictEntry.mk (PySem.PyData.keyHash P (PySem.Str.ofString "CUBE_FACTORS"))         (PySem.Value.str (PySem.Str.ofString "CUBE_FACTORS") 341) (PySem.Value.ref 105),       PySem.DictEntry.mk (PySem.PyData.keyHash P (PySem.Str.ofString "of_groups"))         (PySem.Value.str (PySem.Str.ofString "of_groups") 352) (PySem.Value.ref 112),       PySem.DictEntry.mk (PySem.PyData.keyHash P (PySem.Str.ofString "EulerSeries"))         (PySem.Value.str (PySem.Str.ofString "EulerSeries") 382) (PySem.Value.ref 129),       PySem.DictEntry.mk (PySem.PyData.keyHash P (PySem.Str.ofString "ArctanSeries"))         (PySem.Value.str (PySem.Str.ofString "ArctanSeries") 421) (PySem.Value.ref 157),       PySem.DictEntry.mk (PySem.PyData.keyHash P (PySem.Str.ofString "ChudnovskySeries"))         (PySem.Value.str (PySem.Str.ofString "ChudnovskySeries") 454) (PySem.Value.ref 178),       PySem.DictEntry.mk (PySem.PyData.keyHash P (PySem.Str.ofString "split_sum"))         (PySem.Value.str (PySem.Str.ofString "split_sum") 473) (PySem.Value.ref 189),       PySem.DictEntry.mk (PySem.PyData.keyHash P (PySem.Str.ofString "series_fraction"))         (PySem.Value.str (PySem.Str.ofString "series_fraction") 486) (PySem.Value.ref 196),       PySem.DictEntry.mk (PySem.PyData.keyHash P (PySem.Str.ofString "mul_school"))         (PySem.Value.str (PySem.Str.ofString "mul_school") 504) (PySem.Value.ref 203),       PySem.DictEntry.mk (PySem.PyData.keyHash P (PySem.Str.ofString "_law_next"))         (PySem.Value.str (PySem.Str.ofString "_law_next") 515) (PySem.Value.ref 210),       PySem.DictEntry.mk (PySem.PyData.keyHash P (PySem.Str.ofString "_law_row"))         (PySem.Value.str (PySem.Str.ofString "_law_row") 524) (PySem.Value.ref 217)]     32)   #[]
noncomputable def ob_12_6 : Params → Obj := fun P => PySem.Obj.mk PySem.Value.none Option.none   (PySem.Data.fields     #[PySem.Value.int 2 0, PySem.Value.int 0 0, PySem.Value.ref 20, PySem.Value.int 4 0, PySem.Value.int 0 0,       PySem.Value.ref 33, PySem.Value.int 6 0, PySem.Value.int 0 0, PySem.Value.ref 45, PySem.Value.int 11 0,       PySem.Value.int 0 0, PySem.Value.ref 52, PySem.Value.int 19 0, PySem.Value.int 0 0, PySem.Value.ref 59,       PySem.Value.int 26 0, PySem.Value.int 0 0, PySem.Value.ref 66, PySem.Value.int 41 0, PySem.Value.int 0 0,       PySem.Value.ref 73, PySem.Value.int 51 0, PySem.Value.int 0 0, PySem.Value.ref 80, PySem.Value.int 59 0,       PySem.Value.int 0 0, PySem.Value.ref 87, PySem.Value.int 61 0, PySem.Value.int 0 0, PySem.Value.ref 94,       PySem.Value.int 67 0, PySem.Value.int 0 0, PySem.Value.ref 101, PySem.Value.int 73 0, PySem.Value.int 0 0,       PySem.Value.ref 111, PySem.Value.int 78 0, PySem.Value.int 0 0, PySem.Value.ref 118, PySem.Value.int 82 0,       PySem.Value.int 0 0, PySem.Value.ref 139, PySem.Value.int 89 0, PySem.Value.int 0 0, PySem.Value.ref 167,       PySem.Value.int 96 0, PySem.Value.int 0 0, PySem.Value.ref 188, PySem.Value.int 108 0, PySem.Value.int 0 0,       PySem.Value.ref 195, PySem.Value.int 114 0, PySem.Value.int 0 0, PySem.Value.ref 202, PySem.Value.int 125 0,       PySem.Value.int 0 0, PySem.Value.ref 209, PySem.Value.int 129 0, PySem.Value.int 0 0, PySem.Value.ref 216])   #[]
noncomputable def ob_162_6 : Params → Obj := fun P => PySem.Obj.mk (PySem.Value.type "tuple") Option.none (PySem.Data.seq #[]) #[]
noncomputable def ob_163_6 : Params → Obj := fun P => PySem.Obj.mk (PySem.Value.type "builtin_function_or_method") Option.none   (PySem.Data.fields #[PySem.Value.builtin "type.__prepare__", PySem.Value.type "type"]) #[]
noncomputable def ob_164_6 : Params → Obj := fun P => PySem.Obj.mk (PySem.Value.type "dict") Option.none   (PySem.Data.dict     #[PySem.DictEntry.mk (PySem.PyData.keyHash P (PySem.Str.ofString "__module__"))         (PySem.Value.str (PySem.Str.ofString "__module__") 429)         (PySem.Value.str (PySem.Str.ofString "gmp.splitting") 320),       PySem.DictEntry.mk (PySem.PyData.keyHash P (PySem.Str.ofString "__qualname__"))         (PySem.Value.str (PySem.Str.ofString "__qualname__") 431)         (PySem.Value.str (PySem.Str.ofString "ChudnovskySeries") 430),       PySem.DictEntry.mk (PySem.PyData.keyHash P (PySem.Str.ofString "__firstlineno__"))         (PySem.Value.str (PySem.Str.ofString "__firstlineno__") 433) (PySem.Value.int 89 432),       PySem.DictEntry.mk (PySem.PyData.keyHash P (PySem.Str.ofString "at"))         (PySem.Value.str (PySem.Str.ofString "at") 446) (PySem.Value.ref 175),       PySem.DictEntry.mk (PySem.PyData.keyHash P (PySem.Str.ofString "__static_attributes__"))         (PySem.Value.str (PySem.Str.ofString "__static_attributes__") 447) (PySem.Value.ref 176)]     5)   #[]
noncomputable def ob_165_6 : Params → Obj := fun P => PySem.Obj.mk (PySem.Value.type "tuple") Option.none (PySem.Data.seq #[]) #[]
noncomputable def ob_166_6 : Params → Obj := fun P => PySem.Obj.mk PySem.Value.none Option.none   (PySem.Data.fields #[PySem.Value.int 91 0, PySem.Value.int 4 0, PySem.Value.ref 174]) #[]
noncomputable def ob_167_6 : Params → Obj := fun P => PySem.Obj.mk (PySem.Value.type "code") Option.none   (PySem.Data.fields     #[PySem.Value.str (PySem.Str.ofString "ChudnovskySeries") 424,       PySem.Value.str (PySem.Str.ofString "ChudnovskySeries") 425,       PySem.Value.str (PySem.Str.ofString "/claim/cut.py") 426, PySem.Value.int 89 0, PySem.Value.int 0 0,       PySem.Value.int 0 0, PySem.Value.int 0 0, PySem.Value.int 0 0, PySem.Value.ref 165, PySem.Value.bool Bool.false,       PySem.Value.int 181 0, PySem.Value.ref 166, PySem.Value.none, PySem.Value.none, PySem.Value.none,       PySem.Value.none, PySem.Value.int 427 0, PySem.Value.int 89 0,       PySem.Value.str (PySem.Str.ofString "/claim/cut.py") 428])   #[]
noncomputable def ob_168_6 : Params → Obj := fun P => PySem.Obj.mk (PySem.Value.type "frame") Option.none PySem.Data.plain   #[Option.some (PySem.Value.ref 167), Option.some (PySem.Value.ref 3), Option.some (PySem.Value.ref 164), Option.none,     Option.some (PySem.Value.str (PySem.Str.ofString "gmp.splitting") 320), Option.none,     Option.some (PySem.Value.ref 0)]
noncomputable def ob_169_6 : Params → Obj := fun P => PySem.Obj.mk (PySem.Value.type "tuple") Option.none (PySem.Data.seq #[]) #[]
noncomputable def ob_170_6 : Params → Obj := fun P => PySem.Obj.mk PySem.Value.none Option.none (PySem.Data.fields #[]) #[]
noncomputable def ob_171_6 : Params → Obj := fun P => PySem.Obj.mk (PySem.Value.type "tuple") Option.none   (PySem.Data.seq     #[PySem.Value.str (PySem.Str.ofString "self") 437, PySem.Value.str (PySem.Str.ofString "k") 438,       PySem.Value.str (PySem.Str.ofString "w") 439, PySem.Value.str (PySem.Str.ofString "mul") 440,       PySem.Value.str (PySem.Str.ofString "above") 441, PySem.Value.str (PySem.Str.ofString "below") 442,       PySem.Value.str (PySem.Str.ofString "step") 443])   #[]
noncomputable def ob_172_6 : Params → Obj := fun P => PySem.Obj.mk (PySem.Value.type "tuple") Option.none (PySem.Data.seq #[]) #[]
noncomputable def ob_173_6 : Params → Obj := fun P => PySem.Obj.mk (PySem.Value.none) (Option.none) (PySem.Data.func (methAt (i := 21) (j := 0) rfl rfl (PySem.Str.ofString "ChudnovskySeries.at") (0) ([]) (PySem.Value.none) (PySem.Value.none) (PySem.Value.none) (PySem.Value.none) (Option.none) (PySem.Value.none) (PySem.Value.none) (0))) (#[])
noncomputable def ob_174_6 : Params → Obj := fun P => PySem.Obj.mk (PySem.Value.type "code") Option.none   (PySem.Data.fields     #[PySem.Value.str (PySem.Str.ofString "at") 434, PySem.Value.str (PySem.Str.ofString "ChudnovskySeries.at") 435,       PySem.Value.str (PySem.Str.ofString "/claim/cut.py") 436, PySem.Value.int 91 0, PySem.Value.int 4 0,       PySem.Value.int 0 0, PySem.Value.int 0 0, PySem.Value.int 3 0, PySem.Value.ref 169, PySem.Value.bool Bool.true,       PySem.Value.int 181 0, PySem.Value.ref 170, PySem.Value.none, PySem.Value.ref 171, PySem.Value.ref 172,       PySem.Value.ref 173, PySem.Value.int 444 0, PySem.Value.int 91 0,       PySem.Value.str (PySem.Str.ofString "/claim/cut.py") 445])   #[]
noncomputable def ob_175_6 : Params → Obj := fun P => PySem.Obj.mk (PySem.Value.type "function") (Option.none) (PySem.Data.func (methAt (i := 21) (j := 0) rfl rfl (PySem.Str.ofString "ChudnovskySeries.at") (3) ([]) (PySem.Value.none) (PySem.Value.none) (PySem.Value.none) (PySem.Value.str (PySem.Str.ofString "gmp.splitting") 320) (Option.none) (PySem.Value.ref 174) (PySem.Value.none) (0))) (#[])
noncomputable def ob_176_6 : Params → Obj := fun P => PySem.Obj.mk (PySem.Value.type "tuple") Option.none (PySem.Data.seq #[]) #[]
noncomputable def ob_177_6 : Params → Obj := fun P => PySem.Obj.mk (PySem.Value.type "dict") Option.none   (PySem.Data.dict     #[PySem.DictEntry.mk (PySem.PyData.keyHash P (PySem.Str.ofString "__module__"))         (PySem.Value.str (PySem.Str.ofString "__module__") 429)         (PySem.Value.str (PySem.Str.ofString "gmp.splitting") 320),       PySem.DictEntry.mk (PySem.PyData.keyHash P (PySem.Str.ofString "__firstlineno__"))         (PySem.Value.str (PySem.Str.ofString "__firstlineno__") 433) (PySem.Value.int 89 432),       PySem.DictEntry.mk (PySem.PyData.keyHash P (PySem.Str.ofString "at"))         (PySem.Value.str (PySem.Str.ofString "at") 446) (PySem.Value.ref 175),       PySem.DictEntry.mk (PySem.PyData.keyHash P (PySem.Str.ofString "__static_attributes__"))         (PySem.Value.str (PySem.Str.ofString "__static_attributes__") 447) (PySem.Value.ref 176),       PySem.DictEntry.mk (PySem.PyData.keyHash P (PySem.Str.ofString "__dict__"))         (PySem.Value.str (PySem.Str.ofString "__dict__") 449) (PySem.Value.ref 179),       PySem.DictEntry.mk (PySem.PyData.keyHash P (PySem.Str.ofString "__weakref__"))         (PySem.Value.str (PySem.Str.ofString "__weakref__") 451) (PySem.Value.ref 180),       PySem.DictEntry.mk (PySem.PyData.keyHash P (PySem.Str.ofString "__doc__"))         (PySem.Value.str (PySem.Str.ofString "__doc__") 452) PySem.Value.none]     4)   #[]
noncomputable def ob_178_6 : Params → Obj := fun P => PySem.Obj.mk (PySem.Value.type "type") Option.none   (PySem.Data.cls     (PySem.ClassData.mk (PySem.Str.ofString "ChudnovskySeries") [PySem.Value.type "object"]       [PySem.Value.ref 178, PySem.Value.type "object"] 177 (PySem.Str.ofString "ChudnovskySeries") Bool.true [] []       Bool.false Option.none Bool.false))   #[Option.none, Option.none, Option.some (PySem.Value.str (PySem.Str.ofString "ChudnovskySeries") 422),     Option.some (PySem.Value.str (PySem.Str.ofString "ChudnovskySeries") 430),     Option.some (PySem.Value.builtin "object.__new__"), Option.some (PySem.Value.bool Bool.true)]
noncomputable def ob_179_6 : Params → Obj := fun P => PySem.Obj.mk (PySem.Value.type "getset_descriptor") Option.none   (PySem.Data.fields     #[PySem.Value.str (PySem.Str.ofString "__dict__") 448, PySem.Value.ref 178, PySem.Value.builtin "function.__dict__",       PySem.Value.builtin "function.__dict__#set"])   #[]
noncomputable def ob_180_6 : Params → Obj := fun P => PySem.Obj.mk (PySem.Value.type "getset_descriptor") Option.none   (PySem.Data.fields     #[PySem.Value.str (PySem.Str.ofString "__weakref__") 450, PySem.Value.ref 178,       PySem.Value.builtin "ExceptionGroup.__weakref__", PySem.Value.none])   #[]
noncomputable def ob_181_6 : Params → Obj := fun P => PySem.Obj.mk (PySem.Value.type "super") Option.none   (PySem.Data.fields #[PySem.Value.ref 178, PySem.Value.ref 178, PySem.Value.ref 178]) #[]
noncomputable def ob_182_6 : Params → Obj := fun P => PySem.Obj.mk (PySem.Value.type "builtin_function_or_method") Option.none   (PySem.Data.fields #[PySem.Value.builtin "object.__init_subclass__", PySem.Value.ref 178]) #[]
noncomputable def ob_183_6 : Params → Obj := fun P => PySem.Obj.mk (PySem.Value.type "tuple") Option.none (PySem.Data.seq #[]) #[]
noncomputable def ob_184_6 : Params → Obj := fun P => PySem.Obj.mk PySem.Value.none Option.none (PySem.Data.fields #[]) #[]
noncomputable def ob_185_6 : Params → Obj := fun P => PySem.Obj.mk (PySem.Value.type "tuple") Option.none   (PySem.Data.seq     #[PySem.Value.str (PySem.Str.ofString "series") 458, PySem.Value.str (PySem.Str.ofString "begin") 459,       PySem.Value.str (PySem.Str.ofString "end") 460, PySem.Value.str (PySem.Str.ofString "w") 461,       PySem.Value.str (PySem.Str.ofString "mul") 462, PySem.Value.str (PySem.Str.ofString "is_below") 463,       PySem.Value.str (PySem.Str.ofString "above") 464, PySem.Value.str (PySem.Str.ofString "below") 465,       PySem.Value.str (PySem.Str.ofString "front") 466, PySem.Value.str (PySem.Str.ofString "half") 467,       PySem.Value.str (PySem.Str.ofString "one") 468, PySem.Value.str (PySem.Str.ofString "other") 469,       PySem.Value.str (PySem.Str.ofString "told") 470])   #[]
noncomputable def ob_186_6 : Params → Obj := fun P => PySem.Obj.mk (PySem.Value.type "tuple") Option.none (PySem.Data.seq #[]) #[]
noncomputable def ob_187_6 : Params → Obj := fun P => PySem.Obj.mk (PySem.Value.none) (Option.none) (PySem.Data.func (defAt (i := 22) rfl (PySem.Str.ofString "split_sum") (0) ([]) (PySem.Value.none) (PySem.Value.none) (PySem.Value.none) (PySem.Value.none) (Option.none) (PySem.Value.none) (PySem.Value.none) (0))) (#[])
noncomputable def ob_188_6 : Params → Obj := fun P => PySem.Obj.mk (PySem.Value.type "code") Option.none   (PySem.Data.fields     #[PySem.Value.str (PySem.Str.ofString "split_sum") 455, PySem.Value.str (PySem.Str.ofString "split_sum") 456,       PySem.Value.str (PySem.Str.ofString "/claim/cut.py") 457, PySem.Value.int 96 0, PySem.Value.int 5 0,       PySem.Value.int 0 0, PySem.Value.int 0 0, PySem.Value.int 3 0, PySem.Value.ref 183, PySem.Value.bool Bool.true,       PySem.Value.int 181 0, PySem.Value.ref 184, PySem.Value.none, PySem.Value.ref 185, PySem.Value.ref 186,       PySem.Value.ref 187, PySem.Value.int 471 0, PySem.Value.int 96 0,       PySem.Value.str (PySem.Str.ofString "/claim/cut.py") 472])   #[]
noncomputable def ob_189_6 : Params → Obj := fun P => PySem.Obj.mk (PySem.Value.type "function") (Option.none) (PySem.Data.func (defAt (i := 22) rfl (PySem.Str.ofString "split_sum") (3) ([]) (PySem.Value.none) (PySem.Value.none) (PySem.Value.none) (PySem.Value.str (PySem.Str.ofString "gmp.splitting") 320) (Option.none) (PySem.Value.ref 188) (PySem.Value.none) (0))) (#[])
noncomputable def ob_190_6 : Params → Obj := fun P => PySem.Obj.mk (PySem.Value.type "tuple") Option.none (PySem.Data.seq #[]) #[]
noncomputable def ob_191_6 : Params → Obj := fun P => PySem.Obj.mk PySem.Value.none Option.none (PySem.Data.fields #[]) #[]
noncomputable def ob_192_6 : Params → Obj := fun P => PySem.Obj.mk (PySem.Value.type "tuple") Option.none   (PySem.Data.seq     #[PySem.Value.str (PySem.Str.ofString "series") 477, PySem.Value.str (PySem.Str.ofString "many") 478,       PySem.Value.str (PySem.Str.ofString "w") 479, PySem.Value.str (PySem.Str.ofString "mul") 480,       PySem.Value.str (PySem.Str.ofString "products") 481, PySem.Value.str (PySem.Str.ofString "below") 482,       PySem.Value.str (PySem.Str.ofString "told") 483])   #[]
noncomputable def ob_193_6 : Params → Obj := fun P => PySem.Obj.mk (PySem.Value.type "tuple") Option.none (PySem.Data.seq #[]) #[]
noncomputable def ob_194_6 : Params → Obj := fun P => PySem.Obj.mk (PySem.Value.none) (Option.none) (PySem.Data.func (defAt (i := 23) rfl (PySem.Str.ofString "series_fraction") (0) ([]) (PySem.Value.none) (PySem.Value.none) (PySem.Value.none) (PySem.Value.none) (Option.none) (PySem.Value.none) (PySem.Value.none) (0))) (#[])
noncomputable def ob_195_6 : Params → Obj := fun P => PySem.Obj.mk (PySem.Value.type "code") Option.none   (PySem.Data.fields     #[PySem.Value.str (PySem.Str.ofString "series_fraction") 474,       PySem.Value.str (PySem.Str.ofString "series_fraction") 475,       PySem.Value.str (PySem.Str.ofString "/claim/cut.py") 476, PySem.Value.int 108 0, PySem.Value.int 4 0,       PySem.Value.int 0 0, PySem.Value.int 0 0, PySem.Value.int 3 0, PySem.Value.ref 190, PySem.Value.bool Bool.true,       PySem.Value.int 181 0, PySem.Value.ref 191, PySem.Value.none, PySem.Value.ref 192, PySem.Value.ref 193,       PySem.Value.ref 194, PySem.Value.int 484 0, PySem.Value.int 108 0,       PySem.Value.str (PySem.Str.ofString "/claim/cut.py") 485])   #[]
noncomputable def ob_196_6 : Params → Obj := fun P => PySem.Obj.mk (PySem.Value.type "function") (Option.none) (PySem.Data.func (defAt (i := 23) rfl (PySem.Str.ofString "series_fraction") (3) ([]) (PySem.Value.none) (PySem.Value.none) (PySem.Value.none) (PySem.Value.str (PySem.Str.ofString "gmp.splitting") 320) (Option.none) (PySem.Value.ref 195) (PySem.Value.none) (0))) (#[])
noncomputable def ob_197_6 : Params → Obj := fun P => PySem.Obj.mk (PySem.Value.type "tuple") Option.none (PySem.Data.seq #[]) #[]
noncomputable def ob_198_6 : Params → Obj := fun P => PySem.Obj.mk PySem.Value.none Option.none (PySem.Data.fields #[]) #[]
noncomputable def ob_199_6 : Params → Obj := fun P => PySem.Obj.mk (PySem.Value.type "tuple") Option.none   (PySem.Data.seq     #[PySem.Value.str (PySem.Str.ofString "a") 492, PySem.Value.str (PySem.Str.ofString "b") 493,       PySem.Value.str (PySem.Str.ofString "w") 494, PySem.Value.str (PySem.Str.ofString "found") 495,       PySem.Value.str (PySem.Str.ofString "mask") 496, PySem.Value.str (PySem.Str.ofString "at") 497,       PySem.Value.str (PySem.Str.ofString "limb") 498, PySem.Value.str (PySem.Str.ofString "carry") 499,       PySem.Value.str (PySem.Str.ofString "spot") 500, PySem.Value.str (PySem.Str.ofString "other") 501])   #[]
noncomputable def ob_200_6 : Params → Obj := fun P => PySem.Obj.mk (PySem.Value.type "tuple") Option.none (PySem.Data.seq #[]) #[]
noncomputable def ob_201_6 : Params → Obj := fun P => PySem.Obj.mk (PySem.Value.none) (Option.none) (PySem.Data.func (defAt (i := 25) rfl (PySem.Str.ofString "mul_school") (0) ([]) (PySem.Value.none) (PySem.Value.none) (PySem.Value.none) (PySem.Value.none) (Option.none) (PySem.Value.none) (PySem.Value.none) (0))) (#[])
noncomputable def ob_202_6 : Params → Obj := fun P => PySem.Obj.mk (PySem.Value.type "code") Option.none   (PySem.Data.fields     #[PySem.Value.str (PySem.Str.ofString "mul_school") 489, PySem.Value.str (PySem.Str.ofString "mul_school") 490,       PySem.Value.str (PySem.Str.ofString "/claim/cut.py") 491, PySem.Value.int 114 0, PySem.Value.int 3 0,       PySem.Value.int 0 0, PySem.Value.int 0 0, PySem.Value.int 3 0, PySem.Value.ref 197, PySem.Value.bool Bool.true,       PySem.Value.int 181 0, PySem.Value.ref 198, PySem.Value.none, PySem.Value.ref 199, PySem.Value.ref 200,       PySem.Value.ref 201, PySem.Value.int 502 0, PySem.Value.int 114 0,       PySem.Value.str (PySem.Str.ofString "/claim/cut.py") 503])   #[]
noncomputable def ob_203_6 : Params → Obj := fun P => PySem.Obj.mk (PySem.Value.type "function") (Option.none) (PySem.Data.func (defAt (i := 25) rfl (PySem.Str.ofString "mul_school") (3) ([]) (PySem.Value.none) (PySem.Value.none) (PySem.Value.none) (PySem.Value.str (PySem.Str.ofString "gmp.school") 487) (Option.none) (PySem.Value.ref 202) (PySem.Value.none) (0))) (#[])
noncomputable def ob_204_6 : Params → Obj := fun P => PySem.Obj.mk (PySem.Value.type "tuple") Option.none (PySem.Data.seq #[]) #[]
noncomputable def ob_205_6 : Params → Obj := fun P => PySem.Obj.mk PySem.Value.none Option.none (PySem.Data.fields #[]) #[]
noncomputable def ob_206_6 : Params → Obj := fun P => PySem.Obj.mk (PySem.Value.type "tuple") Option.none   (PySem.Data.seq     #[PySem.Value.str (PySem.Str.ofString "rope") 510, PySem.Value.str (PySem.Str.ofString "many") 511,       PySem.Value.str (PySem.Str.ofString "turn") 512])   #[]
noncomputable def ob_207_6 : Params → Obj := fun P => PySem.Obj.mk (PySem.Value.type "tuple") Option.none (PySem.Data.seq #[]) #[]
noncomputable def ob_208_6 : Params → Obj := fun P => PySem.Obj.mk (PySem.Value.none) (Option.none) (PySem.Data.func (defAt (i := 27) rfl (PySem.Str.ofString "_law_next") (0) ([]) (PySem.Value.none) (PySem.Value.none) (PySem.Value.none) (PySem.Value.none) (Option.none) (PySem.Value.none) (PySem.Value.none) (0))) (#[])
noncomputable def ob_209_6 : Params → Obj := fun P => PySem.Obj.mk (PySem.Value.type "code") Option.none   (PySem.Data.fields     #[PySem.Value.str (PySem.Str.ofString "_law_next") 507, PySem.Value.str (PySem.Str.ofString "_law_next") 508,       PySem.Value.str (PySem.Str.ofString "/claim/cut.py") 509, PySem.Value.int 125 0, PySem.Value.int 2 0,       PySem.Value.int 0 0, PySem.Value.int 0 0, PySem.Value.int 3 0, PySem.Value.ref 204, PySem.Value.bool Bool.true,       PySem.Value.int 181 0, PySem.Value.ref 205, PySem.Value.none, PySem.Value.ref 206, PySem.Value.ref 207,       PySem.Value.ref 208, PySem.Value.int 513 0, PySem.Value.int 125 0,       PySem.Value.str (PySem.Str.ofString "/claim/cut.py") 514])   #[]
noncomputable def ob_210_6 : Params → Obj := fun P => PySem.Obj.mk (PySem.Value.type "function") (Option.none) (PySem.Data.func (defAt (i := 27) rfl (PySem.Str.ofString "_law_next") (3) ([]) (PySem.Value.none) (PySem.Value.none) (PySem.Value.none) (PySem.Value.str (PySem.Str.ofString "law_rr0055_01") 505) (Option.none) (PySem.Value.ref 209) (PySem.Value.none) (0))) (#[])
noncomputable def ob_211_6 : Params → Obj := fun P => PySem.Obj.mk (PySem.Value.type "tuple") Option.none (PySem.Data.seq #[]) #[]
noncomputable def ob_212_6 : Params → Obj := fun P => PySem.Obj.mk PySem.Value.none Option.none (PySem.Data.fields #[]) #[]
noncomputable def ob_213_6 : Params → Obj := fun P => PySem.Obj.mk (PySem.Value.type "tuple") Option.none   (PySem.Data.seq     #[PySem.Value.str (PySem.Str.ofString "number") 519, PySem.Value.str (PySem.Str.ofString "w") 520,       PySem.Value.str (PySem.Str.ofString "found") 521])   #[]
noncomputable def ob_214_6 : Params → Obj := fun P => PySem.Obj.mk (PySem.Value.type "tuple") Option.none (PySem.Data.seq #[]) #[]
noncomputable def ob_215_6 : Params → Obj := fun P => PySem.Obj.mk (PySem.Value.none) (Option.none) (PySem.Data.func (defAt (i := 28) rfl (PySem.Str.ofString "_law_row") (0) ([]) (PySem.Value.none) (PySem.Value.none) (PySem.Value.none) (PySem.Value.none) (Option.none) (PySem.Value.none) (PySem.Value.none) (0))) (#[])
noncomputable def ob_216_6 : Params → Obj := fun P => PySem.Obj.mk (PySem.Value.type "code") Option.none   (PySem.Data.fields     #[PySem.Value.str (PySem.Str.ofString "_law_row") 516, PySem.Value.str (PySem.Str.ofString "_law_row") 517,       PySem.Value.str (PySem.Str.ofString "/claim/cut.py") 518, PySem.Value.int 129 0, PySem.Value.int 2 0,       PySem.Value.int 0 0, PySem.Value.int 0 0, PySem.Value.int 3 0, PySem.Value.ref 211, PySem.Value.bool Bool.true,       PySem.Value.int 181 0, PySem.Value.ref 212, PySem.Value.none, PySem.Value.ref 213, PySem.Value.ref 214,       PySem.Value.ref 215, PySem.Value.int 522 0, PySem.Value.int 129 0,       PySem.Value.str (PySem.Str.ofString "/claim/cut.py") 523])   #[]
noncomputable def ob_217_6 : Params → Obj := fun P => PySem.Obj.mk (PySem.Value.type "function") (Option.none) (PySem.Data.func (defAt (i := 28) rfl (PySem.Str.ofString "_law_row") (3) ([]) (PySem.Value.none) (PySem.Value.none) (PySem.Value.none) (PySem.Value.str (PySem.Str.ofString "law_rr0055_01") 505) (Option.none) (PySem.Value.ref 216) (PySem.Value.none) (0))) (#[])
noncomputable def ob_3_7 : Params → Obj := fun P => PySem.Obj.mk (PySem.Value.type "dict") Option.none   (PySem.Data.dict     #[PySem.DictEntry.mk (PySem.PyData.keyHash P (PySem.Str.ofString "__name__"))         (PySem.Value.str (PySem.Str.ofString "__name__") 165)         (PySem.Value.str (PySem.Str.ofString "law_rr0055_01") 505),       PySem.DictEntry.mk (PySem.PyData.keyHash P (PySem.Str.ofString "__doc__"))         (PySem.Value.str (PySem.Str.ofString "__doc__") 166) PySem.Value.none,       PySem.DictEntry.mk (PySem.PyData.keyHash P (PySem.Str.ofString "__package__"))         (PySem.Value.str (PySem.Str.ofString "__package__") 167) PySem.Value.none,       PySem.DictEntry.mk (PySem.PyData.keyHash P (PySem.Str.ofString "__loader__"))         (PySem.Value.str (PySem.Str.ofString "__loader__") 168) (PySem.Value.builtin "__main__.__loader__#opaque"),       PySem.DictEntry.mk (PySem.PyData.keyHash P (PySem.Str.ofString "__spec__"))         (PySem.Value.str (PySem.Str.ofString "__spec__") 169) PySem.Value.none,       PySem.DictEntry.mk (PySem.PyData.keyHash P (PySem.Str.ofString "__annotations__"))         (PySem.Value.str (PySem.Str.ofString "__annotations__") 170) (PySem.Value.ref 6),       PySem.DictEntry.mk (PySem.PyData.keyHash P (PySem.Str.ofString "__builtins__"))         (PySem.Value.str (PySem.Str.ofString "__builtins__") 171) (PySem.Value.ref 4),       PySem.DictEntry.mk (PySem.PyData.keyHash P (PySem.Str.ofString "__file__"))         (PySem.Value.str (PySem.Str.ofString "__file__") 173)         (PySem.Value.str (PySem.Str.ofString "/claim/cut.py") 172),       PySem.DictEntry.mk (PySem.PyData.keyHash P (PySem.Str.ofString "__cached__"))         (PySem.Value.str (PySem.Str.ofString "__cached__") 174) PySem.Value.none,       PySem.DictEntry.mk (PySem.PyData.keyHash P (PySem.Str.ofString "GmpError"))         (PySem.Value.str (PySem.Str.ofString "GmpError") 208) (PySem.Value.ref 24),       PySem.DictEntry.mk (PySem.PyData.keyHash P (PySem.Str.ofString "OutOfRange"))         (PySem.Value.str (PySem.Str.ofString "OutOfRange") 224) (PySem.Value.ref 37),       PySem.DictEntry.mk (PySem.PyData.keyHash P (PySem.Str.ofString "normal"))         (PySem.Value.str (PySem.Str.ofString "normal") 232) (PySem.Value.ref 46),       PySem.DictEntry.mk (PySem.PyData.keyHash P (PySem.Str.ofString "nat_of"))         (PySem.Value.str (PySem.Str.ofString "nat_of") 242) (PySem.Value.ref 53),       PySem.DictEntry.mk (PySem.PyData.keyHash P (PySem.Str.ofString "compare"))         (PySem.Value.str (PySem.Str.ofString "compare") 251) (PySem.Value.ref 60),       PySem.DictEntry.mk (PySem.PyData.keyHash P (PySem.Str.ofString "add"))         (PySem.Value.str (PySem.Str.ofString "add") 264) (PySem.Value.ref 67),       PySem.DictEntry.mk (PySem.PyData.keyHash P (PySem.Str.ofString "sub"))         (PySem.Value.str (PySem.Str.ofString "sub") 278) (PySem.Value.ref 74),       PySem.DictEntry.mk (PySem.PyData.keyHash P (PySem.Str.ofString "product_of_counts"))         (PySem.Value.str (PySem.Str.ofString "product_of_counts") 290) (PySem.Value.ref 81),       PySem.DictEntry.mk (PySem.PyData.keyHash P (PySem.Str.ofString "signed"))         (PySem.Value.str (PySem.Str.ofString "signed") 300) (PySem.Value.ref 88),       PySem.DictEntry.mk (PySem.PyData.keyHash P (PySem.Str.ofString "s_add"))         (PySem.Value.str (PySem.Str.ofString "s_add") 309) (PySem.Value.ref 95),       PySem.DictEntry.mk (PySem.PyData.keyHash P (PySem.Str.ofString "s_mul"))         (PySem.Value.str (PySem.Str.ofString "s_mul") 319) (PySem.Value.ref 102),       PySem.DictEntry.mk (PySem.PyData.keyHash P (PySem.Str.ofString "FIRST_GROUPS"))         (PySem.Value.str (PySem.Str.ofString "FIRST_GROUPS") 325) (PySem.Value.ref 103),       PySem.DictEntry.mk (PySem.PyData.keyHash P (PySem.Str.ofString "STEP_GROUPS"))         (PySem.Value.str (PySem.Str.ofString "STEP_GROUPS") 329) (PySem.Value.ref 104),       PySem.DictEntry.mk (PySem.PyData.keyHash P (PySem.Str.ofString "CUBE_FACTORS"))         (PySem.Value.str (PySem.Str.ofString "CUBE_FACTORS") 341) (PySem.Value.ref 105),       PySem.DictEntry.mk (PySem.PyData.keyHash P (PySem.Str.ofString "of_groups"))         (PySem.Value.str (PySem.Str.ofString "of_groups") 352) (PySem.Value.ref 112),       PySem.DictEntry.mk (PySem.PyData.keyHash P (PySem.Str.ofString "EulerSeries"))         (PySem.Value.str (PySem.Str.ofString "EulerSeries") 382) (PySem.Value.ref 129),       PySem.DictEntry.mk (PySem.PyData.keyHash P (PySem.Str.ofString "ArctanSeries"))         (PySem.Value.str (PySem.Str.ofString "ArctanSeries") 421) (PySem.Value.ref 157),       PySem.DictEntry.mk (PySem.PyData.keyHash P (PySem.Str.ofString "ChudnovskySeries"))         (PySem.Value.str (PySem.Str.ofString "ChudnovskySeries") 454) (PySem.Value.ref 178),       PySem.DictEntry.mk (PySem.PyData.keyHash P (PySem.Str.ofString "split_sum"))         (PySem.Value.str (PySem.Str.ofString "split_sum") 473) (PySem.Value.ref 189),       PySem.DictEntry.mk (PySem.PyData.keyHash P (PySem.Str.ofString "series_fraction"))         (PySem.Value.str (PySem.Str.ofString "series_fraction") 486) (PySem.Value.ref 196),       PySem.DictEntry.mk (PySem.PyData.keyHash P (PySem.Str.ofString "mul_school"))         (PySem.Value.str (PySem.Str.ofString "mul_school") 504) (PySem.Value.ref 203),       PySem.DictEntry.mk (PySem.PyData.keyHash P (PySem.Str.ofString "_law_next"))         (PySem.Value.str (PySem.Str.ofString "_law_next") 515) (PySem.Value.ref 210),       PySem.DictEntry.mk (PySem.PyData.keyHash P (PySem.Str.ofString "_law_row"))         (PySem.Value.str (PySem.Str.ofString "_law_row") 524) (PySem.Value.ref 217),       PySem.DictEntry.mk (PySem.PyData.keyHash P (PySem.Str.ofString "_law_signed"))         (PySem.Value.str (PySem.Str.ofString "_law_signed") 532) (PySem.Value.ref 224),       PySem.DictEntry.mk (PySem.PyData.keyHash P (PySem.Str.ofString "_law_term"))         (PySem.Value.str (PySem.Str.ofString "_law_term") 541) (PySem.Value.ref 231),       PySem.DictEntry.mk (PySem.PyData.keyHash P (PySem.Str.ofString "_law_piece"))         (PySem.Value.str (PySem.Str.ofString "_law_piece") 558) (PySem.Value.ref 238),       PySem.DictEntry.mk (PySem.PyData.keyHash P (PySem.Str.ofString "_law_refused"))         (PySem.Value.str (PySem.Str.ofString "_law_refused") 565) (PySem.Value.ref 245),       PySem.DictEntry.mk (PySem.PyData.keyHash P (PySem.Str.ofString "law"))         (PySem.Value.str (PySem.Str.ofString "law") 589) (PySem.Value.ref 252)]     37)   #[]
noncomputable def ob_12_7 : Params → Obj := fun P => PySem.Obj.mk PySem.Value.none Option.none   (PySem.Data.fields     #[PySem.Value.int 2 0, PySem.Value.int 0 0, PySem.Value.ref 20, PySem.Value.int 4 0, PySem.Value.int 0 0,       PySem.Value.ref 33, PySem.Value.int 6 0, PySem.Value.int 0 0, PySem.Value.ref 45, PySem.Value.int 11 0,       PySem.Value.int 0 0, PySem.Value.ref 52, PySem.Value.int 19 0, PySem.Value.int 0 0, PySem.Value.ref 59,       PySem.Value.int 26 0, PySem.Value.int 0 0, PySem.Value.ref 66, PySem.Value.int 41 0, PySem.Value.int 0 0,       PySem.Value.ref 73, PySem.Value.int 51 0, PySem.Value.int 0 0, PySem.Value.ref 80, PySem.Value.int 59 0,       PySem.Value.int 0 0, PySem.Value.ref 87, PySem.Value.int 61 0, PySem.Value.int 0 0, PySem.Value.ref 94,       PySem.Value.int 67 0, PySem.Value.int 0 0, PySem.Value.ref 101, PySem.Value.int 73 0, PySem.Value.int 0 0,       PySem.Value.ref 111, PySem.Value.int 78 0, PySem.Value.int 0 0, PySem.Value.ref 118, PySem.Value.int 82 0,       PySem.Value.int 0 0, PySem.Value.ref 139, PySem.Value.int 89 0, PySem.Value.int 0 0, PySem.Value.ref 167,       PySem.Value.int 96 0, PySem.Value.int 0 0, PySem.Value.ref 188, PySem.Value.int 108 0, PySem.Value.int 0 0,       PySem.Value.ref 195, PySem.Value.int 114 0, PySem.Value.int 0 0, PySem.Value.ref 202, PySem.Value.int 125 0,       PySem.Value.int 0 0, PySem.Value.ref 209, PySem.Value.int 129 0, PySem.Value.int 0 0, PySem.Value.ref 216,       PySem.Value.int 135 0, PySem.Value.int 0 0, PySem.Value.ref 223, PySem.Value.int 137 0, PySem.Value.int 0 0,       PySem.Value.ref 230, PySem.Value.int 143 0, PySem.Value.int 0 0, PySem.Value.ref 237, PySem.Value.int 150 0,       PySem.Value.int 0 0, PySem.Value.ref 244, PySem.Value.int 156 0, PySem.Value.int 0 0, PySem.Value.ref 251])   #[]
noncomputable def ob_218_7 : Params → Obj := fun P => PySem.Obj.mk (PySem.Value.type "tuple") Option.none (PySem.Data.seq #[]) #[]
noncomputable def ob_219_7 : Params → Obj := fun P => PySem.Obj.mk PySem.Value.none Option.none (PySem.Data.fields #[]) #[]
noncomputable def ob_220_7 : Params → Obj := fun P => PySem.Obj.mk (PySem.Value.type "tuple") Option.none   (PySem.Data.seq #[PySem.Value.str (PySem.Str.ofString "number") 528, PySem.Value.str (PySem.Str.ofString "w") 529])   #[]
noncomputable def ob_221_7 : Params → Obj := fun P => PySem.Obj.mk (PySem.Value.type "tuple") Option.none (PySem.Data.seq #[]) #[]
noncomputable def ob_222_7 : Params → Obj := fun P => PySem.Obj.mk (PySem.Value.none) (Option.none) (PySem.Data.func (defAt (i := 29) rfl (PySem.Str.ofString "_law_signed") (0) ([]) (PySem.Value.none) (PySem.Value.none) (PySem.Value.none) (PySem.Value.none) (Option.none) (PySem.Value.none) (PySem.Value.none) (0))) (#[])
noncomputable def ob_223_7 : Params → Obj := fun P => PySem.Obj.mk (PySem.Value.type "code") Option.none   (PySem.Data.fields     #[PySem.Value.str (PySem.Str.ofString "_law_signed") 525, PySem.Value.str (PySem.Str.ofString "_law_signed") 526,       PySem.Value.str (PySem.Str.ofString "/claim/cut.py") 527, PySem.Value.int 135 0, PySem.Value.int 2 0,       PySem.Value.int 0 0, PySem.Value.int 0 0, PySem.Value.int 3 0, PySem.Value.ref 218, PySem.Value.bool Bool.true,       PySem.Value.int 181 0, PySem.Value.ref 219, PySem.Value.none, PySem.Value.ref 220, PySem.Value.ref 221,       PySem.Value.ref 222, PySem.Value.int 530 0, PySem.Value.int 135 0,       PySem.Value.str (PySem.Str.ofString "/claim/cut.py") 531])   #[]
noncomputable def ob_224_7 : Params → Obj := fun P => PySem.Obj.mk (PySem.Value.type "function") (Option.none) (PySem.Data.func (defAt (i := 29) rfl (PySem.Str.ofString "_law_signed") (3) ([]) (PySem.Value.none) (PySem.Value.none) (PySem.Value.none) (PySem.Value.str (PySem.Str.ofString "law_rr0055_01") 505) (Option.none) (PySem.Value.ref 223) (PySem.Value.none) (0))) (#[])
noncomputable def ob_225_7 : Params → Obj := fun P => PySem.Obj.mk (PySem.Value.type "tuple") Option.none (PySem.Data.seq #[]) #[]
noncomputable def ob_226_7 : Params → Obj := fun P => PySem.Obj.mk PySem.Value.none Option.none (PySem.Data.fields #[]) #[]
noncomputable def ob_227_7 : Params → Obj := fun P => PySem.Obj.mk (PySem.Value.type "tuple") Option.none   (PySem.Data.seq     #[PySem.Value.str (PySem.Str.ofString "form") 536, PySem.Value.str (PySem.Str.ofString "x") 537,       PySem.Value.str (PySem.Str.ofString "k") 538])   #[]
noncomputable def ob_228_7 : Params → Obj := fun P => PySem.Obj.mk (PySem.Value.type "tuple") Option.none (PySem.Data.seq #[]) #[]
noncomputable def ob_229_7 : Params → Obj := fun P => PySem.Obj.mk (PySem.Value.none) (Option.none) (PySem.Data.func (defAt (i := 30) rfl (PySem.Str.ofString "_law_term") (0) ([]) (PySem.Value.none) (PySem.Value.none) (PySem.Value.none) (PySem.Value.none) (Option.none) (PySem.Value.none) (PySem.Value.none) (0))) (#[])
noncomputable def ob_230_7 : Params → Obj := fun P => PySem.Obj.mk (PySem.Value.type "code") Option.none   (PySem.Data.fields     #[PySem.Value.str (PySem.Str.ofString "_law_term") 533, PySem.Value.str (PySem.Str.ofString "_law_term") 534,       PySem.Value.str (PySem.Str.ofString "/claim/cut.py") 535, PySem.Value.int 137 0, PySem.Value.int 3 0,       PySem.Value.int 0 0, PySem.Value.int 0 0, PySem.Value.int 3 0, PySem.Value.ref 225, PySem.Value.bool Bool.true,       PySem.Value.int 181 0, PySem.Value.ref 226, PySem.Value.none, PySem.Value.ref 227, PySem.Value.ref 228,       PySem.Value.ref 229, PySem.Value.int 539 0, PySem.Value.int 137 0,       PySem.Value.str (PySem.Str.ofString "/claim/cut.py") 540])   #[]
noncomputable def ob_231_7 : Params → Obj := fun P => PySem.Obj.mk (PySem.Value.type "function") (Option.none) (PySem.Data.func (defAt (i := 30) rfl (PySem.Str.ofString "_law_term") (3) ([]) (PySem.Value.none) (PySem.Value.none) (PySem.Value.none) (PySem.Value.str (PySem.Str.ofString "law_rr0055_01") 505) (Option.none) (PySem.Value.ref 230) (PySem.Value.none) (0))) (#[])
noncomputable def ob_232_7 : Params → Obj := fun P => PySem.Obj.mk (PySem.Value.type "tuple") Option.none (PySem.Data.seq #[]) #[]
noncomputable def ob_233_7 : Params → Obj := fun P => PySem.Obj.mk PySem.Value.none Option.none (PySem.Data.fields #[]) #[]
noncomputable def ob_234_7 : Params → Obj := fun P => PySem.Obj.mk (PySem.Value.type "tuple") Option.none   (PySem.Data.seq     #[PySem.Value.str (PySem.Str.ofString "form") 545, PySem.Value.str (PySem.Str.ofString "x") 546,       PySem.Value.str (PySem.Str.ofString "begin") 547, PySem.Value.str (PySem.Str.ofString "end") 548,       PySem.Value.str (PySem.Str.ofString "above") 549, PySem.Value.str (PySem.Str.ofString "below") 550,       PySem.Value.str (PySem.Str.ofString "told") 551, PySem.Value.str (PySem.Str.ofString "k") 552,       PySem.Value.str (PySem.Str.ofString "p") 553, PySem.Value.str (PySem.Str.ofString "q") 554,       PySem.Value.str (PySem.Str.ofString "a") 555])   #[]
noncomputable def ob_235_7 : Params → Obj := fun P => PySem.Obj.mk (PySem.Value.type "tuple") Option.none (PySem.Data.seq #[]) #[]
noncomputable def ob_236_7 : Params → Obj := fun P => PySem.Obj.mk (PySem.Value.none) (Option.none) (PySem.Data.func (defAt (i := 31) rfl (PySem.Str.ofString "_law_piece") (0) ([]) (PySem.Value.none) (PySem.Value.none) (PySem.Value.none) (PySem.Value.none) (Option.none) (PySem.Value.none) (PySem.Value.none) (0))) (#[])
noncomputable def ob_237_7 : Params → Obj := fun P => PySem.Obj.mk (PySem.Value.type "code") Option.none   (PySem.Data.fields     #[PySem.Value.str (PySem.Str.ofString "_law_piece") 542, PySem.Value.str (PySem.Str.ofString "_law_piece") 543,       PySem.Value.str (PySem.Str.ofString "/claim/cut.py") 544, PySem.Value.int 143 0, PySem.Value.int 4 0,       PySem.Value.int 0 0, PySem.Value.int 0 0, PySem.Value.int 3 0, PySem.Value.ref 232, PySem.Value.bool Bool.true,       PySem.Value.int 181 0, PySem.Value.ref 233, PySem.Value.none, PySem.Value.ref 234, PySem.Value.ref 235,       PySem.Value.ref 236, PySem.Value.int 556 0, PySem.Value.int 143 0,       PySem.Value.str (PySem.Str.ofString "/claim/cut.py") 557])   #[]
noncomputable def ob_238_7 : Params → Obj := fun P => PySem.Obj.mk (PySem.Value.type "function") (Option.none) (PySem.Data.func (defAt (i := 31) rfl (PySem.Str.ofString "_law_piece") (3) ([]) (PySem.Value.none) (PySem.Value.none) (PySem.Value.none) (PySem.Value.str (PySem.Str.ofString "law_rr0055_01") 505) (Option.none) (PySem.Value.ref 237) (PySem.Value.none) (0))) (#[])
noncomputable def ob_239_7 : Params → Obj := fun P => PySem.Obj.mk (PySem.Value.type "tuple") Option.none (PySem.Data.seq #[]) #[]
noncomputable def ob_240_7 : Params → Obj := fun P => PySem.Obj.mk PySem.Value.none Option.none (PySem.Data.fields #[]) #[]
noncomputable def ob_241_7 : Params → Obj := fun P => PySem.Obj.mk (PySem.Value.type "tuple") Option.none (PySem.Data.seq #[PySem.Value.str (PySem.Str.ofString "work") 562])   #[]
noncomputable def ob_242_7 : Params → Obj := fun P => PySem.Obj.mk (PySem.Value.type "tuple") Option.none (PySem.Data.seq #[]) #[]
noncomputable def ob_243_7 : Params → Obj := fun P => PySem.Obj.mk (PySem.Value.none) (Option.none) (PySem.Data.func (defAt (i := 32) rfl (PySem.Str.ofString "_law_refused") (0) ([]) (PySem.Value.none) (PySem.Value.none) (PySem.Value.none) (PySem.Value.none) (Option.none) (PySem.Value.none) (PySem.Value.none) (0))) (#[])
noncomputable def ob_244_7 : Params → Obj := fun P => PySem.Obj.mk (PySem.Value.type "code") Option.none   (PySem.Data.fields     #[PySem.Value.str (PySem.Str.ofString "_law_refused") 559, PySem.Value.str (PySem.Str.ofString "_law_refused") 560,       PySem.Value.str (PySem.Str.ofString "/claim/cut.py") 561, PySem.Value.int 150 0, PySem.Value.int 1 0,       PySem.Value.int 0 0, PySem.Value.int 0 0, PySem.Value.int 3 0, PySem.Value.ref 239, PySem.Value.bool Bool.true,       PySem.Value.int 181 0, PySem.Value.ref 240, PySem.Value.none, PySem.Value.ref 241, PySem.Value.ref 242,       PySem.Value.ref 243, PySem.Value.int 563 0, PySem.Value.int 150 0,       PySem.Value.str (PySem.Str.ofString "/claim/cut.py") 564])   #[]
noncomputable def ob_245_7 : Params → Obj := fun P => PySem.Obj.mk (PySem.Value.type "function") (Option.none) (PySem.Data.func (defAt (i := 32) rfl (PySem.Str.ofString "_law_refused") (3) ([]) (PySem.Value.none) (PySem.Value.none) (PySem.Value.none) (PySem.Value.str (PySem.Str.ofString "law_rr0055_01") 505) (Option.none) (PySem.Value.ref 244) (PySem.Value.none) (0))) (#[])
noncomputable def ob_246_7 : Params → Obj := fun P => PySem.Obj.mk (PySem.Value.type "tuple") Option.none (PySem.Data.seq #[]) #[]
noncomputable def ob_247_7 : Params → Obj := fun P => PySem.Obj.mk PySem.Value.none Option.none (PySem.Data.fields #[]) #[]
noncomputable def ob_248_7 : Params → Obj := fun P => PySem.Obj.mk (PySem.Value.type "tuple") Option.none   (PySem.Data.seq     #[PySem.Value.str (PySem.Str.ofString "script") 569, PySem.Value.str (PySem.Str.ofString "rope") 570,       PySem.Value.str (PySem.Str.ofString "form") 571, PySem.Value.str (PySem.Str.ofString "x") 572,       PySem.Value.str (PySem.Str.ofString "begin") 573, PySem.Value.str (PySem.Str.ofString "most") 574,       PySem.Value.str (PySem.Str.ofString "middle") 575, PySem.Value.str (PySem.Str.ofString "one") 576,       PySem.Value.str (PySem.Str.ofString "other") 577, PySem.Value.str (PySem.Str.ofString "above") 578,       PySem.Value.str (PySem.Str.ofString "below") 579, PySem.Value.str (PySem.Str.ofString "told") 580,       PySem.Value.str (PySem.Str.ofString "due") 581])   #[]
noncomputable def ob_249_7 : Params → Obj := fun P => PySem.Obj.mk (PySem.Value.type "tuple") Option.none   (PySem.Data.seq     #[PySem.Value.str (PySem.Str.ofString "end") 582, PySem.Value.str (PySem.Str.ofString "fewer") 583,       PySem.Value.str (PySem.Str.ofString "many") 584, PySem.Value.str (PySem.Str.ofString "series") 585,       PySem.Value.str (PySem.Str.ofString "w") 586])   #[]
noncomputable def ob_250_7 : Params → Obj := fun P => PySem.Obj.mk (PySem.Value.none) (Option.none) (PySem.Data.func (defAt (i := 33) rfl (PySem.Str.ofString "law") (0) ([]) (PySem.Value.none) (PySem.Value.none) (PySem.Value.none) (PySem.Value.none) (Option.none) (PySem.Value.none) (PySem.Value.none) (0))) (#[])
noncomputable def ob_251_7 : Params → Obj := fun P => PySem.Obj.mk (PySem.Value.type "code") Option.none   (PySem.Data.fields     #[PySem.Value.str (PySem.Str.ofString "law") 566, PySem.Value.str (PySem.Str.ofString "law") 567,       PySem.Value.str (PySem.Str.ofString "/claim/cut.py") 568, PySem.Value.int 156 0, PySem.Value.int 1 0,       PySem.Value.int 0 0, PySem.Value.int 0 0, PySem.Value.int 3 0, PySem.Value.ref 246, PySem.Value.bool Bool.true,       PySem.Value.int 181 0, PySem.Value.ref 247, PySem.Value.none, PySem.Value.ref 248, PySem.Value.ref 249,       PySem.Value.ref 250, PySem.Value.int 587 0, PySem.Value.int 156 0,       PySem.Value.str (PySem.Str.ofString "/claim/cut.py") 588])   #[]
noncomputable def ob_252_7 : Params → Obj := fun P => PySem.Obj.mk (PySem.Value.type "function") (Option.none) (PySem.Data.func (defAt (i := 33) rfl (PySem.Str.ofString "law") (3) ([]) (PySem.Value.none) (PySem.Value.none) (PySem.Value.none) (PySem.Value.str (PySem.Str.ofString "law_rr0055_01") 505) (Option.none) (PySem.Value.ref 251) (PySem.Value.none) (0))) (#[])
noncomputable def hp_1 : Params → Heap := fun P => Heap.mk (Array.mk (boot_o_0 P :: boot_o_1 P :: boot_o_2 P :: boot_o_3 P :: boot_o_4 P :: boot_o_5 P :: boot_o_6 P :: boot_o_7 P :: boot_o_8 P :: boot_o_9 P :: boot_o_10 P :: ob_11_1 P :: ob_12_1 P :: ob_13_1 P :: ob_14_1 P :: [])) lif
noncomputable def hp_3 : Params → Heap := fun P => Heap.mk (Array.mk (boot_o_0 P :: boot_o_1 P :: ob_2_3 P :: ob_3_3 P :: boot_o_4 P :: boot_o_5 P :: boot_o_6 P :: boot_o_7 P :: boot_o_8 P :: boot_o_9 P :: boot_o_10 P :: ob_11_1 P :: ob_12_3 P :: ob_13_1 P :: ob_14_1 P :: ob_15_3 P :: ob_16_3 P :: ob_17_3 P :: ob_18_3 P :: ob_19_3 P :: ob_20_3 P :: ob_21_3 P :: ob_22_3 P :: ob_23_3 P :: ob_24_3 P :: ob_25_3 P :: ob_26_3 P :: ob_27_3 P :: ob_28_3 P :: ob_29_3 P :: ob_30_3 P :: ob_31_3 P :: ob_32_3 P :: ob_33_3 P :: ob_34_3 P :: ob_35_3 P :: ob_36_3 P :: ob_37_3 P :: ob_38_3 P :: ob_39_3 P :: [])) lif
noncomputable def hp_4 : Params → Heap := fun P => Heap.mk (Array.mk (boot_o_0 P :: boot_o_1 P :: ob_2_3 P :: ob_3_4 P :: boot_o_4 P :: boot_o_5 P :: boot_o_6 P :: boot_o_7 P :: boot_o_8 P :: boot_o_9 P :: boot_o_10 P :: ob_11_1 P :: ob_12_4 P :: ob_13_1 P :: ob_14_1 P :: ob_15_3 P :: ob_16_3 P :: ob_17_3 P :: ob_18_3 P :: ob_19_3 P :: ob_20_3 P :: ob_21_3 P :: ob_22_3 P :: ob_23_3 P :: ob_24_3 P :: ob_25_3 P :: ob_26_3 P :: ob_27_3 P :: ob_28_3 P :: ob_29_3 P :: ob_30_3 P :: ob_31_3 P :: ob_32_3 P :: ob_33_3 P :: ob_34_3 P :: ob_35_3 P :: ob_36_3 P :: ob_37_3 P :: ob_38_3 P :: ob_39_3 P :: ob_40_4 P :: ob_41_4 P :: ob_42_4 P :: ob_43_4 P :: ob_44_4 P :: ob_45_4 P :: ob_46_4 P :: ob_47_4 P :: ob_48_4 P :: ob_49_4 P :: ob_50_4 P :: ob_51_4 P :: ob_52_4 P :: ob_53_4 P :: ob_54_4 P :: ob_55_4 P :: ob_56_4 P :: ob_57_4 P :: ob_58_4 P :: ob_59_4 P :: ob_60_4 P :: ob_61_4 P :: ob_62_4 P :: ob_63_4 P :: ob_64_4 P :: ob_65_4 P :: ob_66_4 P :: ob_67_4 P :: ob_68_4 P :: ob_69_4 P :: ob_70_4 P :: ob_71_4 P :: ob_72_4 P :: ob_73_4 P :: ob_74_4 P :: ob_75_4 P :: ob_76_4 P :: ob_77_4 P :: ob_78_4 P :: ob_79_4 P :: ob_80_4 P :: ob_81_4 P :: ob_82_4 P :: ob_83_4 P :: ob_84_4 P :: ob_85_4 P :: ob_86_4 P :: ob_87_4 P :: ob_88_4 P :: ob_89_4 P :: ob_90_4 P :: ob_91_4 P :: ob_92_4 P :: ob_93_4 P :: ob_94_4 P :: ob_95_4 P :: ob_96_4 P :: ob_97_4 P :: ob_98_4 P :: ob_99_4 P :: ob_100_4 P :: ob_101_4 P :: ob_102_4 P :: ob_103_4 P :: ob_104_4 P :: ob_105_4 P :: ob_106_4 P :: ob_107_4 P :: ob_108_4 P :: ob_109_4 P :: ob_110_4 P :: ob_111_4 P :: ob_112_4 P :: [])) lif
noncomputable def hp_5 : Params → Heap := fun P => Heap.mk (Array.mk (boot_o_0 P :: boot_o_1 P :: ob_2_3 P :: ob_3_5 P :: boot_o_4 P :: boot_o_5 P :: boot_o_6 P :: boot_o_7 P :: boot_o_8 P :: boot_o_9 P :: boot_o_10 P :: ob_11_1 P :: ob_12_5 P :: ob_13_1 P :: ob_14_1 P :: ob_15_3 P :: ob_16_3 P :: ob_17_3 P :: ob_18_3 P :: ob_19_3 P :: ob_20_3 P :: ob_21_3 P :: ob_22_3 P :: ob_23_3 P :: ob_24_3 P :: ob_25_3 P :: ob_26_3 P :: ob_27_3 P :: ob_28_3 P :: ob_29_3 P :: ob_30_3 P :: ob_31_3 P :: ob_32_3 P :: ob_33_3 P :: ob_34_3 P :: ob_35_3 P :: ob_36_3 P :: ob_37_3 P :: ob_38_3 P :: ob_39_3 P :: ob_40_4 P :: ob_41_4 P :: ob_42_4 P :: ob_43_4 P :: ob_44_4 P :: ob_45_4 P :: ob_46_4 P :: ob_47_4 P :: ob_48_4 P :: ob_49_4 P :: ob_50_4 P :: ob_51_4 P :: ob_52_4 P :: ob_53_4 P :: ob_54_4 P :: ob_55_4 P :: ob_56_4 P :: ob_57_4 P :: ob_58_4 P :: ob_59_4 P :: ob_60_4 P :: ob_61_4 P :: ob_62_4 P :: ob_63_4 P :: ob_64_4 P :: ob_65_4 P :: ob_66_4 P :: ob_67_4 P :: ob_68_4 P :: ob_69_4 P :: ob_70_4 P :: ob_71_4 P :: ob_72_4 P :: ob_73_4 P :: ob_74_4 P :: ob_75_4 P :: ob_76_4 P :: ob_77_4 P :: ob_78_4 P :: ob_79_4 P :: ob_80_4 P :: ob_81_4 P :: ob_82_4 P :: ob_83_4 P :: ob_84_4 P :: ob_85_4 P :: ob_86_4 P :: ob_87_4 P :: ob_88_4 P :: ob_89_4 P :: ob_90_4 P :: ob_91_4 P :: ob_92_4 P :: ob_93_4 P :: ob_94_4 P :: ob_95_4 P :: ob_96_4 P :: ob_97_4 P :: ob_98_4 P :: ob_99_4 P :: ob_100_4 P :: ob_101_4 P :: ob_102_4 P :: ob_103_4 P :: ob_104_4 P :: ob_105_4 P :: ob_106_4 P :: ob_107_4 P :: ob_108_4 P :: ob_109_4 P :: ob_110_4 P :: ob_111_4 P :: ob_112_4 P :: ob_113_5 P :: ob_114_5 P :: ob_115_5 P :: ob_116_5 P :: ob_117_5 P :: ob_118_5 P :: ob_119_5 P :: ob_120_5 P :: ob_121_5 P :: ob_122_5 P :: ob_123_5 P :: ob_124_5 P :: ob_125_5 P :: ob_126_5 P :: ob_127_5 P :: ob_128_5 P :: ob_129_5 P :: ob_130_5 P :: ob_131_5 P :: ob_132_5 P :: ob_133_5 P :: ob_134_5 P :: ob_135_5 P :: ob_136_5 P :: ob_137_5 P :: ob_138_5 P :: ob_139_5 P :: ob_140_5 P :: ob_141_5 P :: ob_142_5 P :: ob_143_5 P :: ob_144_5 P :: ob_145_5 P :: ob_146_5 P :: ob_147_5 P :: ob_148_5 P :: ob_149_5 P :: ob_150_5 P :: ob_151_5 P :: ob_152_5 P :: ob_153_5 P :: ob_154_5 P :: ob_155_5 P :: ob_156_5 P :: ob_157_5 P :: ob_158_5 P :: ob_159_5 P :: ob_160_5 P :: ob_161_5 P :: [])) lif
noncomputable def hp_6 : Params → Heap := fun P => Heap.mk (Array.mk (boot_o_0 P :: boot_o_1 P :: ob_2_3 P :: ob_3_6 P :: boot_o_4 P :: boot_o_5 P :: boot_o_6 P :: boot_o_7 P :: boot_o_8 P :: boot_o_9 P :: boot_o_10 P :: ob_11_1 P :: ob_12_6 P :: ob_13_1 P :: ob_14_1 P :: ob_15_3 P :: ob_16_3 P :: ob_17_3 P :: ob_18_3 P :: ob_19_3 P :: ob_20_3 P :: ob_21_3 P :: ob_22_3 P :: ob_23_3 P :: ob_24_3 P :: ob_25_3 P :: ob_26_3 P :: ob_27_3 P :: ob_28_3 P :: ob_29_3 P :: ob_30_3 P :: ob_31_3 P :: ob_32_3 P :: ob_33_3 P :: ob_34_3 P :: ob_35_3 P :: ob_36_3 P :: ob_37_3 P :: ob_38_3 P :: ob_39_3 P :: ob_40_4 P :: ob_41_4 P :: ob_42_4 P :: ob_43_4 P :: ob_44_4 P :: ob_45_4 P :: ob_46_4 P :: ob_47_4 P :: ob_48_4 P :: ob_49_4 P :: ob_50_4 P :: ob_51_4 P :: ob_52_4 P :: ob_53_4 P :: ob_54_4 P :: ob_55_4 P :: ob_56_4 P :: ob_57_4 P :: ob_58_4 P :: ob_59_4 P :: ob_60_4 P :: ob_61_4 P :: ob_62_4 P :: ob_63_4 P :: ob_64_4 P :: ob_65_4 P :: ob_66_4 P :: ob_67_4 P :: ob_68_4 P :: ob_69_4 P :: ob_70_4 P :: ob_71_4 P :: ob_72_4 P :: ob_73_4 P :: ob_74_4 P :: ob_75_4 P :: ob_76_4 P :: ob_77_4 P :: ob_78_4 P :: ob_79_4 P :: ob_80_4 P :: ob_81_4 P :: ob_82_4 P :: ob_83_4 P :: ob_84_4 P :: ob_85_4 P :: ob_86_4 P :: ob_87_4 P :: ob_88_4 P :: ob_89_4 P :: ob_90_4 P :: ob_91_4 P :: ob_92_4 P :: ob_93_4 P :: ob_94_4 P :: ob_95_4 P :: ob_96_4 P :: ob_97_4 P :: ob_98_4 P :: ob_99_4 P :: ob_100_4 P :: ob_101_4 P :: ob_102_4 P :: ob_103_4 P :: ob_104_4 P :: ob_105_4 P :: ob_106_4 P :: ob_107_4 P :: ob_108_4 P :: ob_109_4 P :: ob_110_4 P :: ob_111_4 P :: ob_112_4 P :: ob_113_5 P :: ob_114_5 P :: ob_115_5 P :: ob_116_5 P :: ob_117_5 P :: ob_118_5 P :: ob_119_5 P :: ob_120_5 P :: ob_121_5 P :: ob_122_5 P :: ob_123_5 P :: ob_124_5 P :: ob_125_5 P :: ob_126_5 P :: ob_127_5 P :: ob_128_5 P :: ob_129_5 P :: ob_130_5 P :: ob_131_5 P :: ob_132_5 P :: ob_133_5 P :: ob_134_5 P :: ob_135_5 P :: ob_136_5 P :: ob_137_5 P :: ob_138_5 P :: ob_139_5 P :: ob_140_5 P :: ob_141_5 P :: ob_142_5 P :: ob_143_5 P :: ob_144_5 P :: ob_145_5 P :: ob_146_5 P :: ob_147_5 P :: ob_148_5 P :: ob_149_5 P :: ob_150_5 P :: ob_151_5 P :: ob_152_5 P :: ob_153_5 P :: ob_154_5 P :: ob_155_5 P :: ob_156_5 P :: ob_157_5 P :: ob_158_5 P :: ob_159_5 P :: ob_160_5 P :: ob_161_5 P :: ob_162_6 P :: ob_163_6 P :: ob_164_6 P :: ob_165_6 P :: ob_166_6 P :: ob_167_6 P :: ob_168_6 P :: ob_169_6 P :: ob_170_6 P :: ob_171_6 P :: ob_172_6 P :: ob_173_6 P :: ob_174_6 P :: ob_175_6 P :: ob_176_6 P :: ob_177_6 P :: ob_178_6 P :: ob_179_6 P :: ob_180_6 P :: ob_181_6 P :: ob_182_6 P :: ob_183_6 P :: ob_184_6 P :: ob_185_6 P :: ob_186_6 P :: ob_187_6 P :: ob_188_6 P :: ob_189_6 P :: ob_190_6 P :: ob_191_6 P :: ob_192_6 P :: ob_193_6 P :: ob_194_6 P :: ob_195_6 P :: ob_196_6 P :: ob_197_6 P :: ob_198_6 P :: ob_199_6 P :: ob_200_6 P :: ob_201_6 P :: ob_202_6 P :: ob_203_6 P :: ob_204_6 P :: ob_205_6 P :: ob_206_6 P :: ob_207_6 P :: ob_208_6 P :: ob_209_6 P :: ob_210_6 P :: ob_211_6 P :: ob_212_6 P :: ob_213_6 P :: ob_214_6 P :: ob_215_6 P :: ob_216_6 P :: ob_217_6 P :: [])) lif
noncomputable def hp_7 : Params → Heap := fun P => Heap.mk (Array.mk (boot_o_0 P :: boot_o_1 P :: ob_2_3 P :: ob_3_7 P :: boot_o_4 P :: boot_o_5 P :: boot_o_6 P :: boot_o_7 P :: boot_o_8 P :: boot_o_9 P :: boot_o_10 P :: ob_11_1 P :: ob_12_7 P :: ob_13_1 P :: ob_14_1 P :: ob_15_3 P :: ob_16_3 P :: ob_17_3 P :: ob_18_3 P :: ob_19_3 P :: ob_20_3 P :: ob_21_3 P :: ob_22_3 P :: ob_23_3 P :: ob_24_3 P :: ob_25_3 P :: ob_26_3 P :: ob_27_3 P :: ob_28_3 P :: ob_29_3 P :: ob_30_3 P :: ob_31_3 P :: ob_32_3 P :: ob_33_3 P :: ob_34_3 P :: ob_35_3 P :: ob_36_3 P :: ob_37_3 P :: ob_38_3 P :: ob_39_3 P :: ob_40_4 P :: ob_41_4 P :: ob_42_4 P :: ob_43_4 P :: ob_44_4 P :: ob_45_4 P :: ob_46_4 P :: ob_47_4 P :: ob_48_4 P :: ob_49_4 P :: ob_50_4 P :: ob_51_4 P :: ob_52_4 P :: ob_53_4 P :: ob_54_4 P :: ob_55_4 P :: ob_56_4 P :: ob_57_4 P :: ob_58_4 P :: ob_59_4 P :: ob_60_4 P :: ob_61_4 P :: ob_62_4 P :: ob_63_4 P :: ob_64_4 P :: ob_65_4 P :: ob_66_4 P :: ob_67_4 P :: ob_68_4 P :: ob_69_4 P :: ob_70_4 P :: ob_71_4 P :: ob_72_4 P :: ob_73_4 P :: ob_74_4 P :: ob_75_4 P :: ob_76_4 P :: ob_77_4 P :: ob_78_4 P :: ob_79_4 P :: ob_80_4 P :: ob_81_4 P :: ob_82_4 P :: ob_83_4 P :: ob_84_4 P :: ob_85_4 P :: ob_86_4 P :: ob_87_4 P :: ob_88_4 P :: ob_89_4 P :: ob_90_4 P :: ob_91_4 P :: ob_92_4 P :: ob_93_4 P :: ob_94_4 P :: ob_95_4 P :: ob_96_4 P :: ob_97_4 P :: ob_98_4 P :: ob_99_4 P :: ob_100_4 P :: ob_101_4 P :: ob_102_4 P :: ob_103_4 P :: ob_104_4 P :: ob_105_4 P :: ob_106_4 P :: ob_107_4 P :: ob_108_4 P :: ob_109_4 P :: ob_110_4 P :: ob_111_4 P :: ob_112_4 P :: ob_113_5 P :: ob_114_5 P :: ob_115_5 P :: ob_116_5 P :: ob_117_5 P :: ob_118_5 P :: ob_119_5 P :: ob_120_5 P :: ob_121_5 P :: ob_122_5 P :: ob_123_5 P :: ob_124_5 P :: ob_125_5 P :: ob_126_5 P :: ob_127_5 P :: ob_128_5 P :: ob_129_5 P :: ob_130_5 P :: ob_131_5 P :: ob_132_5 P :: ob_133_5 P :: ob_134_5 P :: ob_135_5 P :: ob_136_5 P :: ob_137_5 P :: ob_138_5 P :: ob_139_5 P :: ob_140_5 P :: ob_141_5 P :: ob_142_5 P :: ob_143_5 P :: ob_144_5 P :: ob_145_5 P :: ob_146_5 P :: ob_147_5 P :: ob_148_5 P :: ob_149_5 P :: ob_150_5 P :: ob_151_5 P :: ob_152_5 P :: ob_153_5 P :: ob_154_5 P :: ob_155_5 P :: ob_156_5 P :: ob_157_5 P :: ob_158_5 P :: ob_159_5 P :: ob_160_5 P :: ob_161_5 P :: ob_162_6 P :: ob_163_6 P :: ob_164_6 P :: ob_165_6 P :: ob_166_6 P :: ob_167_6 P :: ob_168_6 P :: ob_169_6 P :: ob_170_6 P :: ob_171_6 P :: ob_172_6 P :: ob_173_6 P :: ob_174_6 P :: ob_175_6 P :: ob_176_6 P :: ob_177_6 P :: ob_178_6 P :: ob_179_6 P :: ob_180_6 P :: ob_181_6 P :: ob_182_6 P :: ob_183_6 P :: ob_184_6 P :: ob_185_6 P :: ob_186_6 P :: ob_187_6 P :: ob_188_6 P :: ob_189_6 P :: ob_190_6 P :: ob_191_6 P :: ob_192_6 P :: ob_193_6 P :: ob_194_6 P :: ob_195_6 P :: ob_196_6 P :: ob_197_6 P :: ob_198_6 P :: ob_199_6 P :: ob_200_6 P :: ob_201_6 P :: ob_202_6 P :: ob_203_6 P :: ob_204_6 P :: ob_205_6 P :: ob_206_6 P :: ob_207_6 P :: ob_208_6 P :: ob_209_6 P :: ob_210_6 P :: ob_211_6 P :: ob_212_6 P :: ob_213_6 P :: ob_214_6 P :: ob_215_6 P :: ob_216_6 P :: ob_217_6 P :: ob_218_7 P :: ob_219_7 P :: ob_220_7 P :: ob_221_7 P :: ob_222_7 P :: ob_223_7 P :: ob_224_7 P :: ob_225_7 P :: ob_226_7 P :: ob_227_7 P :: ob_228_7 P :: ob_229_7 P :: ob_230_7 P :: ob_231_7 P :: ob_232_7 P :: ob_233_7 P :: ob_234_7 P :: ob_235_7 P :: ob_236_7 P :: ob_237_7 P :: ob_238_7 P :: ob_239_7 P :: ob_240_7 P :: ob_241_7 P :: ob_242_7 P :: ob_243_7 P :: ob_244_7 P :: ob_245_7 P :: ob_246_7 P :: ob_247_7 P :: ob_248_7 P :: ob_249_7 P :: ob_250_7 P :: ob_251_7 P :: ob_252_7 P :: [])) lif
theorem t_open : ∀ w, (fencedOpening treeTable prg w 3902).map (fun s => (s.heap, s.gens, s.drawn, s.toks)) = some (boot_heap w.params, Array.mk [], boot_drawn, boot_toks) := boot_open rfl (by decide) (fun _ => rfl)
theorem t_size : ∀ w : World, ((boot_heap w.params).isNs mainGlobals && (Array.mk [] : Array GenState).size == 0, (boot_heap w.params).objs.size, (boot_heap w.params).nsMap mainGlobals "__annotations__") = (true, 11, some (.ref 6)) := fun w => by kernel_rfl
theorem t_pre : ∀ (w : World) (os : OsState), topGo treeTable prg w 11 (some (.ref 6)) 12 ⟨boot_heap w.params, Array.mk [], boot_drawn, boot_toks, os⟩ (topStub prg) = some (⟨hp_1 w.params, Array.mk [], ⟨0, 0, 0, 0⟩, 187, os⟩, ⟨denote treeTable cdT, cdT, posAt 0 0 0 0, [topFrame (posAt 0 0 0 0)]⟩) := fun w os => by kernel_rfl
theorem t_blk : ∀ (w : World) (os : OsState), segRun treeTable prg w 11 (some (.ref 6)) 1 1 ⟨hp_1 w.params, Array.mk [], ⟨0, 0, 0, 0⟩, 187, os⟩ (blockOf bdy envT cdT (posAt 0 0 0 0) [topFrame (posAt 0 0 0 0)]) = some (.next, ⟨hp_1 w.params, Array.mk [], ⟨0, 0, 0, 0⟩, 187, os⟩, cdT, posAt 0 0 0 0) := fun w os => by kernel_rfl
noncomputable def sts_0 : List Stmt := (bdy.drop 0).take 3
theorem t_p0 : ∀ (w : World) (os : OsState), segRun treeTable prg w 11 (some (.ref 6)) 1 419 ⟨hp_1 w.params, Array.mk [], ⟨0, 0, 0, 0⟩, 187, os⟩ (piecesOf sts_0 envT cdT (posAt 0 0 0 0) [topFrame (posAt 0 0 0 0)]) = some (.next, ⟨hp_3 w.params, Array.mk [], ⟨0, 0, 0, 0⟩, 225, os⟩, cdT, posAt 4 0 5 8) := fun w os => by kernel_rfl
noncomputable def sts_1 : List Stmt := (bdy.drop 3).take 16
theorem t_p1 : ∀ (w : World) (os : OsState), segRun treeTable prg w 11 (some (.ref 6)) 1 397 ⟨hp_3 w.params, Array.mk [], ⟨0, 0, 0, 0⟩, 225, os⟩ (piecesOf sts_1 envT cdT (posAt 4 0 5 8) [topFrame (posAt 0 0 0 0)]) = some (.next, ⟨hp_4 w.params, Array.mk [], ⟨0, 0, 0, 0⟩, 353, os⟩, cdT, posAt 73 0 77 16) := fun w os => by kernel_rfl
noncomputable def sts_2 : List Stmt := (bdy.drop 19).take 2
theorem t_p2 : ∀ (w : World) (os : OsState), segRun treeTable prg w 11 (some (.ref 6)) 1 480 ⟨hp_4 w.params, Array.mk [], ⟨0, 0, 0, 0⟩, 353, os⟩ (piecesOf sts_2 envT cdT (posAt 73 0 77 16) [topFrame (posAt 0 0 0 0)]) = some (.next, ⟨hp_5 w.params, Array.mk [], ⟨0, 0, 0, 0⟩, 422, os⟩, cdT, posAt 82 0 88 104) := fun w os => by kernel_rfl
noncomputable def sts_3 : List Stmt := (bdy.drop 21).take 8
theorem t_p3 : ∀ (w : World) (os : OsState), segRun treeTable prg w 11 (some (.ref 6)) 1 421 ⟨hp_5 w.params, Array.mk [], ⟨0, 0, 0, 0⟩, 422, os⟩ (piecesOf sts_3 envT cdT (posAt 82 0 88 104) [topFrame (posAt 0 0 0 0)]) = some (.next, ⟨hp_6 w.params, Array.mk [], ⟨0, 0, 0, 0⟩, 525, os⟩, cdT, posAt 129 0 134 16) := fun w os => by kernel_rfl
noncomputable def sts_4 : List Stmt := (bdy.drop 29).take 5
theorem t_p4 : ∀ (w : World) (os : OsState), segRun treeTable prg w 11 (some (.ref 6)) 1 176 ⟨hp_6 w.params, Array.mk [], ⟨0, 0, 0, 0⟩, 525, os⟩ (piecesOf sts_4 envT cdT (posAt 129 0 134 16) [topFrame (posAt 0 0 0 0)]) = some (.next, ⟨hp_7 w.params, Array.mk [], ⟨0, 0, 0, 0⟩, 590, os⟩, cdT, posAt 156 0 174 106) := fun w os => by kernel_rfl
theorem t_fin : ∀ (w : World) (os : OsState), topRun treeTable prg w 11 (some (.ref 6)) 2 ⟨hp_7 w.params, Array.mk [], ⟨0, 0, 0, 0⟩, 590, os⟩ ⟨doneF .next, cdT, posAt 156 0 174 106, [topFrame (posAt 0 0 0 0)]⟩ = some ⟨hp_7 w.params, Array.mk [], ⟨0, 0, 0, 0⟩, 590, os⟩ := fun w os => by kernel_rfl
theorem t_bdy : bdy = sts_0 ++ (sts_1 ++ (sts_2 ++ (sts_3 ++ (sts_4 ++ [])))) := by kernel_rfl
theorem t_run : ∀ (w : World) (os : OsState), topRun treeTable prg w 11 (some (.ref 6)) (12 + (1 + (419 + (397 + (480 + (421 + (176 + 2))))))) ⟨boot_heap w.params, Array.mk [], boot_drawn, boot_toks, os⟩ (topStub prg) = some ⟨hp_7 w.params, Array.mk [], ⟨0, 0, 0, 0⟩, 590, os⟩ := fun w os => by
  refine go_top (t_pre w os) (piece_block (t_blk w os) ?_)
  rw [t_bdy]
  exact piece_app (t_p0 w os) (piece_app (t_p1 w os) (piece_app (t_p2 w os) (piece_app (t_p3 w os) (piece_app (t_p4 w os) (piece_nil (t_fin w os))))))
theorem t_looks1 : ∀ (w : World) (os : OsState), (staticsOk (importedModules prg.main.body) (boot_heap w.params) (hp_7 w.params) && namesBound prg (hp_7 w.params) && gensDone ⟨hp_7 w.params, Array.mk [], ⟨0, 0, 0, 0⟩, 590, os⟩ && laidKept (boot_heap w.params) (hp_7 w.params)) = true := fun w os => by kernel_rfl
theorem t_looks2 : ∀ (w : World) (os : OsState), openSeen hd.view_39 [] (importedModules prg.main.body) (fun s => xlAt hd.view_39 [] s && recOk (RowW.records PySem.Challenge.rw_rr0055_01.row.toRowW) s) true ⟨hp_7 w.params, Array.mk [], ⟨0, 0, 0, 0⟩, 590, os⟩ = openGood hd.view_39 [] := fun w os => by kernel_rfl
theorem t_looks3 : ∀ (w : World) (os : OsState), hook.obs ⟨hp_7 w.params, Array.mk [], ⟨0, 0, 0, 0⟩, 590, os⟩ = hook.val w := fun w os => by kernel_rfl
theorem left_once : LeftO prg hd.view_39 [] (fun s => xlAt hd.view_39 [] s && recOk (RowW.records PySem.Challenge.rw_rr0055_01.row.toRowW) s) hook.obs hook.val 3902 :=
  LeftO.of_pieces t_open t_size t_run rfl (fun w => funext fun os => Prod.ext (t_looks1 w os) (Prod.ext (t_looks2 w os) (t_looks3 w os)))
theorem said : PySem.Challenge.rw_rr0055_01.wellSaid = true := by kernel_rfl
theorem hd {nm : Str} {ps : Arguments} {bd : List Stmt} {dl : List Expr} {rt : Option Expr} {tp : List TypeParam} {sc : Scope} {ts : Option Scope} {bi : Str} {po : Pos}
    (h : cells[33]? = some (Stmt.FunctionDef nm ps bd dl rt tp sc ts bi po))
    (walk : WalkO hd.view_39 [] (XL hd.view_39 []) (kmHook hd.heap_39 as39 as_eq [247]).says PySem.Challenge.rw_rr0055_01.row.toRowW ⟨Str.ofString "law", ps, bd, sc, po⟩ [] (fun f vs => PySem.call f vs)) : PySem.Challenge.rw_rr0055_01.Holds := by
  cases h
  refine holds_law said fun said => ?_
  refine holds_open (q := hd.view_39) (loose := []) (Xt := fun s => xlAt hd.view_39 [] s && recOk (RowW.records PySem.Challenge.rw_rr0055_01.row.toRowW) s) (XP := XL hd.view_39 []) (Yf := hook.obs) (Ya := hook.val) (YP := hook.says) (N := 3902) left_once hook.of hook.keeps (fun s e => xl_of s (Bool.and_eq_true_iff.mp e).1) XL.keeps (by rfl) (by rfl) (by rfl) (fun s e => recFacts_of (Bool.and_eq_true_iff.mp e).2) (by first | rfl | fail "wr") (by first | assumption | decide +kernel) (by decide +kernel) ⟨rfl, rfl, rfl, rfl, rfl, by decide +kernel⟩ ?hw walk
  (case hw => w_witness2)
end
section
/-! ## limbs: the plain law -/
/-- no list is longer; no number has more bits -/
@[irreducible] def cap : Nat := 2000
structure Small (n : Int) : Prop where
  lt : n < 2 ^ cap
theorem cap_lt : cap < 4096 := by unfold cap; decide

def val (b : Int) : List Int → Int
  | [] => 0
  | x :: r => x + b * val b r
def trim : List Int → List Int
  | [] => []
  | x :: r => if trim r = [] ∧ x = 0 then [] else x :: trim r
def Lim (b : Int) (l : List Int) : Prop := ∀ x ∈ l, 0 ≤ x ∧ x < b
def rowF (b : Int) : Nat → Int → List Int
  | 0, _ => []
  | f + 1, n => if n ≤ 0 then [] else n % b :: rowF b f (n / b)
def row (b n : Int) : List Int := rowF b n.toNat n

theorem div_lt {b n : Int} (hb : 2 ≤ b) (hn : 0 < n) : 0 ≤ n / b ∧ (n / b).toNat < n.toNat := by
  have h1 : 0 ≤ n / b := Int.ediv_nonneg (by omega) (by omega)
  have h2 : n / b < n := Int.ediv_lt_self_of_pos_of_ne_one hn (by omega)
  omega
theorem rowF_ge {b : Int} (hb : 2 ≤ b) : ∀ (f : Nat) (n : Int), n.toNat ≤ f → rowF b f n = rowF b n.toNat n
  | 0, n, h => by
    have : n.toNat = 0 := by omega
    rw [this]
  | f + 1, n, h => by
    by_cases hn : n ≤ 0
    · have : n.toNat = 0 := by omega
      rw [this]; simp [rowF, hn]
    · have ⟨h1, h2⟩ := div_lt hb (n := n) (by omega)
      obtain ⟨k, hk⟩ : ∃ k, n.toNat = k + 1 := ⟨n.toNat - 1, by omega⟩
      rw [hk]
      simp only [rowF, hn, if_false]
      rw [rowF_ge hb f (n / b) (by omega), rowF_ge hb k (n / b) (by omega)]
theorem row_pos {b n : Int} (hb : 2 ≤ b) (hn : 0 < n) : row b n = n % b :: row b (n / b) := by
  have ⟨h1, h2⟩ := div_lt hb hn
  obtain ⟨k, hk⟩ : ∃ k, n.toNat = k + 1 := ⟨n.toNat - 1, by omega⟩
  unfold row
  rw [hk]
  simp only [rowF, show ¬ n ≤ 0 by omega, if_false]
  rw [rowF_ge hb k (n / b) (by omega)]
theorem row_zero {b n : Int} (hn : n ≤ 0) : row b n = [] := by
  have : n.toNat = 0 := by omega
  unfold row; rw [this]; rfl

theorem val_append (b : Int) : ∀ (l r : List Int), val b (l ++ r) = val b l + b ^ l.length * val b r
  | [], r => by simp [val]
  | x :: l, r => by
    simp only [List.cons_append, val, List.length_cons, val_append b l r, Int.pow_succ, Int.mul_add]
    rw [Int.mul_comm (b ^ l.length) b, Int.mul_assoc, Int.add_assoc]
theorem lim_nil {b : Int} : Lim b [] := fun _ h => nomatch h
theorem lim_cons {b x : Int} {r : List Int} (h : 0 ≤ x ∧ x < b) (hr : Lim b r) : Lim b (x :: r) := fun y hy => by
  rcases List.mem_cons.mp hy with rfl | hy
  · exact h
  · exact hr y hy
theorem lim_append {b : Int} {l r : List Int} (hl : Lim b l) (hr : Lim b r) : Lim b (l ++ r) := fun y hy => by
  rcases List.mem_append.mp hy with hy | hy
  · exact hl y hy
  · exact hr y hy
theorem lim_take {b : Int} {l : List Int} (h : Lim b l) (k : Nat) : Lim b (l.take k) := fun x hx => h x (List.mem_of_mem_take hx)
theorem lim_getD {b : Int} (hb : 0 < b) {l : List Int} (h : Lim b l) (k : Nat) : 0 ≤ l.getD k 0 ∧ l.getD k 0 < b := by
  rw [List.getD_eq_getElem?_getD]
  cases q : l[k]? with
  | none => exact ⟨Int.le_refl _, hb⟩
  | some x => exact h x (List.mem_of_getElem? q)
theorem val_nonneg {b : Int} (hb : 0 ≤ b) : ∀ {l : List Int}, Lim b l → 0 ≤ val b l
  | [], _ => Int.le_refl _
  | x :: r, h => by
    have h1 := (h x (.head _)).1
    have h2 := val_nonneg hb (l := r) fun y hy => h y (.tail _ hy)
    have := Int.mul_nonneg hb h2
    simp only [val]; omega
theorem val_lt {b : Int} (hb : 1 ≤ b) : ∀ {l : List Int}, Lim b l → val b l < b ^ l.length
  | [], _ => by simp [val]
  | x :: r, h => by
    have h1 := (h x (.head _)).2
    have h2 := val_lt hb (l := r) fun y hy => h y (.tail _ hy)
    simp only [val, List.length_cons, Int.pow_succ]
    have h3 : b * (val b r + 1) ≤ b * b ^ r.length := Int.mul_le_mul_of_nonneg_left (by omega) (by omega)
    rw [Int.mul_add] at h3
    rw [Int.mul_comm (b ^ r.length) b]
    omega
theorem lim_row {b : Int} (hb : 2 ≤ b) (n : Int) : Lim b (row b n) := by
  have : ∀ f n, Lim b (rowF b f n) := by
    intro f
    induction f with
    | zero => intro n; exact lim_nil
    | succ f ih =>
      intro n
      simp only [rowF]
      split
      · exact lim_nil
      · exact lim_cons ⟨Int.emod_nonneg _ (by omega), Int.emod_lt_of_pos _ (by omega)⟩ (ih _)
  exact this _ _
theorem val_row {b : Int} (hb : 2 ≤ b) : ∀ {n : Int}, 0 ≤ n → val b (row b n) = n := by
  have : ∀ f n, 0 ≤ n → n.toNat ≤ f → val b (rowF b f n) = n := by
    intro f
    induction f with
    | zero => intro n h1 h2; have : n = 0 := by omega
              subst this; rfl
    | succ f ih =>
      intro n h1 h2
      simp only [rowF]
      split
      · have : n = 0 := by omega
        subst this; rfl
      · have ⟨h3, h4⟩ := div_lt hb (n := n) (by omega)
        simp only [val, ih _ h3 (by omega)]
        exact Int.emod_add_mul_ediv n b
  exact fun {n} h => this _ _ h (Nat.le_refl _)
theorem trim_nil_val {b : Int} : ∀ {l : List Int}, trim l = [] → val b l = 0
  | [], _ => rfl
  | x :: r, h => by
    simp only [trim] at h
    split at h
    · rename_i q
      simp only [val, q.2, trim_nil_val q.1, Int.mul_zero, Int.add_zero]
    · cases h
theorem val_trim {b : Int} : ∀ (l : List Int), val b (trim l) = val b l
  | [] => rfl
  | x :: r => by
    simp only [trim]
    split
    · rename_i q
      simp only [val, q.2, trim_nil_val q.1, Int.mul_zero, Int.add_zero]
    · simp only [val, val_trim r]
theorem row_val {b : Int} (hb : 2 ≤ b) : ∀ {l : List Int}, Lim b l → row b (val b l) = trim l
  | [], _ => rfl
  | x :: r, h => by
    have hx := h x (.head _)
    have hr : Lim b r := fun y hy => h y (.tail _ hy)
    have hv := val_nonneg (by omega : 0 ≤ b) hr
    have ih := row_val hb hr
    simp only [trim]
    by_cases q : trim r = [] ∧ x = 0
    · rw [if_pos q, row_zero]
      simp only [val, q.2, trim_nil_val q.1, Int.mul_zero, Int.add_zero, Int.le_refl]
    · rw [if_neg q]
      have hpos : 0 < val b (x :: r) := by
        have h3 : 0 ≤ b * val b r := Int.mul_nonneg (by omega) hv
        simp only [val]
        by_cases hx0 : x = 0
        · have hne : val b r ≠ 0 := by
            intro e
            apply q
            refine ⟨?_, hx0⟩
            rw [← ih, e]; rfl
          have : 0 < b * val b r := Int.mul_pos (by omega) (by omega)
          omega
        · omega
      rw [row_pos hb hpos]
      have e1 : val b (x :: r) % b = x := by
        simp only [val]
        rw [Int.add_mul_emod_self_left, Int.emod_eq_of_lt hx.1 hx.2]
      have e2 : val b (x :: r) / b = val b r := by
        simp only [val]
        rw [Int.add_mul_ediv_left _ _ (by omega), Int.ediv_eq_zero_of_lt hx.1 hx.2, Int.zero_add]
      rw [e1, e2, ih]
theorem trim_row {b : Int} (hb : 2 ≤ b) {n : Int} (hn : 0 ≤ n) : trim (row b n) = row b n := by
  rw [← row_val hb (lim_row hb n), val_row hb hn]
theorem trim_zeros (l : List Int) : trim (l ++ [0]) = trim l := by
  induction l with
  | nil => rfl
  | cons x r ih => simp only [List.cons_append, trim, ih]
theorem trim_last {x : Int} (hx : x ≠ 0) (l : List Int) : trim (l ++ [x]) = l ++ [x] := by
  induction l with
  | nil => simp [trim, hx]
  | cons y r ih =>
    simp only [List.cons_append, trim, ih]
    simp
/-- a trimmed row is at least the power of its length less one -/
theorem val_ge {b : Int} (hb : 1 ≤ b) : ∀ {l : List Int}, Lim b l → trim l = l → l ≠ [] → b ^ (l.length - 1) ≤ val b l
  | [], _, _, h => absurd rfl h
  | [x], h, t, _ => by
    have hx : x ≠ 0 := by intro e; subst e; simp [trim] at t
    have := h x (.head _)
    simp [val]; omega
  | x :: y :: r, h, t, _ => by
    have hr : Lim b (y :: r) := fun z hz => h z (.tail _ hz)
    have t' : trim (y :: r) = y :: r := by
      rw [trim] at t
      split at t
      · cases t
      · exact List.cons.inj t |>.2
    have ih := val_ge hb hr t' (by simp)
    have hx := h x (.head _)
    have e : val b (x :: y :: r) = x + b * val b (y :: r) := rfl
    rw [e]
    have e2 : (x :: y :: r).length - 1 = ((y :: r).length - 1) + 1 := by simp
    rw [e2, Int.pow_succ, Int.mul_comm]
    have := Int.mul_le_mul_of_nonneg_left ih (by omega : 0 ≤ b)
    omega
/-- and the other way -/
theorem trim_of_ge {b : Int} (hb : 1 ≤ b) {l : List Int} (h : Lim b l) (x : Int) (hx : b ^ l.length ≤ val b (l ++ [x])) : trim (l ++ [x]) = l ++ [x] := by
  refine trim_last (fun e => ?_) l
  subst e
  have h1 := val_lt hb h
  rw [val_append] at hx
  simp [val] at hx
  omega
theorem row_length {b : Int} (hb : 2 ≤ b) : ∀ (k : Nat) {n : Int}, n < 2 ^ k → (row b n).length ≤ k := by
  intro k
  induction k with
  | zero => intro n h; rw [row_zero (by simp at h; omega)]; simp
  | succ k ih =>
    intro n h
    by_cases hn : n ≤ 0
    · rw [row_zero hn]; simp
    · rw [row_pos hb (by omega)]
      simp only [List.length_cons]
      have h1 : n / b < 2 ^ k := by
        refine Int.ediv_lt_of_lt_mul (by omega) ?_
        have h2 : (2 : Int) ^ k * 2 ≤ 2 ^ k * b := Int.mul_le_mul_of_nonneg_left hb (Int.pow_nonneg (by decide))
        rw [Int.pow_succ] at h
        omega
      have := ih h1
      omega

/-! ## normal -/
theorem take_last {l : List Int} {e : Int} (h0 : 0 < e) (h1 : e ≤ l.length) : l.take e.toNat = l.take (e - 1).toNat ++ [l.getD (e - 1).toNat 0] := by
  obtain ⟨k, hk⟩ : ∃ k : Nat, e = k + 1 := ⟨(e - 1).toNat, by omega⟩
  subst hk
  have h : k < l.length := by omega
  have e1 : ((k : Int) + 1).toNat = k + 1 := by omega
  have e2 : ((k : Int) + 1 - 1).toNat = k := by omega
  rw [e1, e2, List.take_add_one, List.getD_eq_getElem?_getD, List.getElem?_eq_getElem h]
  rfl
theorem normal_step {l : List Int} {e : Int} (h0 : 0 < e) (h1 : e ≤ l.length) (hz : l.getD (e - 1).toNat 0 = 0) (hP : trim (l.take e.toNat) = trim l) : trim (l.take (e - 1).toNat) = trim l := by
  rw [← hP, take_last h0 h1, hz, trim_zeros]
theorem normal_done {l : List Int} {e : Int} (h0 : 0 < e) (h1 : e ≤ l.length) (hz : l.getD (e - 1).toNat 0 ≠ 0) (hP : trim (l.take e.toNat) = trim l) : l.take e.toNat = trim l := by
  rw [← hP, take_last h0 h1, trim_last hz]
theorem normal_none {l : List Int} {e : Int} (h0 : ¬ 0 < e) (hP : trim (l.take e.toNat) = trim l) : l.take e.toNat = trim l := by
  have : e.toNat = 0 := by omega
  rw [this] at hP ⊢
  exact hP
@[irreducible] def hcap : Nat := 1000
theorem hcap_le : hcap + hcap ≤ cap := by unfold hcap cap; decide
/-- a number that the rows can bear, a product of two of them too -/
structure Num (n : Int) : Prop where
  nn : 0 ≤ n
  lt : n < 2 ^ hcap
theorem pow_le_pow {a b : Nat} (h : a ≤ b) : (2 : Int) ^ a ≤ 2 ^ b := by
  obtain ⟨k, rfl⟩ : ∃ k, b = a + k := ⟨b - a, by omega⟩
  rw [Int.pow_add]
  have h1 : (0 : Int) < 2 ^ a := kbt_pos a
  have h2 : (0 : Int) < 2 ^ k := kbt_pos k
  have := Int.mul_le_mul_of_nonneg_left (show 1 ≤ (2 : Int) ^ k by omega) (Int.le_of_lt h1)
  omega
theorem Num.small {n : Int} (h : Num n) : Small n := ⟨Int.lt_of_lt_of_le h.lt (pow_le_pow (by have := hcap_le; omega))⟩
theorem Num.of {n : Int} (k : Nat) (h0 : 0 ≤ n) (h : n < 2 ^ k) (hk : k ≤ 1000) : Num n := ⟨h0, Int.lt_of_lt_of_le h (pow_le_pow (by unfold hcap; exact hk))⟩

/-! ## nat_of -/
theorem fdB (x : Int) (k : Nat) : x.fdiv (2 ^ k) = x / 2 ^ k := Int.fdiv_eq_ediv_of_nonneg _ (Int.pow_nonneg (by decide))
theorem fmB (x : Int) (k : Nat) : x.fmod (2 ^ k) = x % 2 ^ k := Int.fmod_eq_emod_of_nonneg _ (Int.pow_nonneg (by decide))
theorem two_le {w : Int} (h : 1 ≤ w) : (2 : Int) ≤ 2 ^ w.toNat := by
  obtain ⟨k, hk⟩ : ∃ k, w.toNat = k + 1 := ⟨w.toNat - 1, by omega⟩
  have := kbt_pos k
  rw [hk, Int.pow_succ]; omega
theorem nat_step {B k n : Int} {f : List Int} (hB : 2 ≤ B) (hk : 0 < k) (hn : Small n) (h : f ++ row B k = row B n) :
    0 ≤ k / B ∧ (f ++ [k % B]) ++ row B (k / B) = row B n ∧ (f ++ [k % B]).length ≤ cap := by
  have e : (f ++ [k % B]) ++ row B (k / B) = row B n := by rw [← h, row_pos hB hk]; simp
  refine ⟨Int.ediv_nonneg (by omega) (by omega), e, ?_⟩
  have h1 := row_length hB cap hn.lt
  rw [← e, List.length_append] at h1
  omega
theorem nat_done {B k n : Int} {f : List Int} (hk : ¬ 0 < k) (h : f ++ row B k = row B n) : f = row B n := by
  rw [row_zero (by omega), List.append_nil] at h; exact h
theorem nat_less {B k : Int} (hB : 2 ≤ B) (hk : 0 < k) : (k / B).toNat < k.toNat := (div_lt hB hk).2

/-! ## compare -/
def cmpI (x y : Int) : Int := if x < y then -1 else if y < x then 1 else 0
/-- a row as it should be: limbs in range, no nought on top -/
structure Can (b : Int) (l : List Int) : Prop where
  lim : Lim b l
  top : trim l = l
theorem can_row {b : Int} (hb : 2 ≤ b) {n : Int} (hn : 0 ≤ n) : Can b (row b n) := ⟨lim_row hb n, trim_row hb hn⟩
theorem len_lt {B : Int} (hB : 2 ≤ B) {a b : List Int} (ha : Lim B a) (hb : Can B b) (h : a.length < b.length) : val B a < val B b := by
  have h1 := val_lt (by omega : 1 ≤ B) ha
  have h2 := val_ge (by omega : 1 ≤ B) hb.lim hb.top (by intro e; subst e; simp at h)
  have h3 : B ^ a.length ≤ B ^ (b.length - 1) := by
    obtain ⟨k, hk⟩ : ∃ k, b.length - 1 = a.length + k := ⟨b.length - 1 - a.length, by omega⟩
    rw [hk, Int.pow_add]
    have h4 : 0 < B ^ k := Int.pow_pos (by omega)
    have h5 : 0 ≤ B ^ a.length := Int.pow_nonneg (by omega)
    have := Int.mul_le_mul_of_nonneg_left (show 1 ≤ B ^ k by omega) h5
    omega
  omega
theorem split_at {l : List Int} {k : Nat} (h : k < l.length) : l = l.take k ++ l.getD k 0 :: l.drop (k + 1) := by
  rw [List.getD_eq_getElem?_getD, List.getElem?_eq_getElem h]
  simp
theorem val_at (B : Int) {l : List Int} {k : Nat} (h : k < l.length) : val B l = val B (l.take k) + B ^ k * (l.getD k 0 + B * val B (l.drop (k + 1))) := by
  have e := congrArg (val B) (split_at h)
  rw [val_append, List.length_take, Nat.min_eq_left (by omega)] at e
  exact e
theorem cmp_at {B : Int} (hB : 2 ≤ B) {a b : List Int} (ha : Lim B a) (hb : Lim B b) {k : Nat} (h1 : k < a.length) (h2 : k < b.length) (hd : a.drop (k + 1) = b.drop (k + 1)) (hlt : a.getD k 0 < b.getD k 0) : val B a < val B b := by
  rw [val_at B h1, val_at B h2, hd]
  have h3 := val_lt (by omega : 1 ≤ B) (lim_take ha k)
  rw [List.length_take, Nat.min_eq_left (by omega)] at h3
  have h4 := val_nonneg (by omega : 0 ≤ B) (lim_take hb k)
  have h5 : 0 ≤ B ^ k := Int.pow_nonneg (by omega)
  have h6 := Int.mul_le_mul_of_nonneg_left (show a.getD k 0 + B * val B (b.drop (k + 1)) + 1 ≤ b.getD k 0 + B * val B (b.drop (k + 1)) by omega) h5
  rw [Int.mul_add, Int.mul_one] at h6
  omega
/-- what the loop of compare keeps: above the place, the rows are the same -/
def Same (a b : List Int) (k : Nat) : Prop := a.drop (a.length - k) = b.drop (b.length - k)
theorem same_start (a b : List Int) : Same a b 0 := by simp [Same]
theorem same_step {a b : List Int} {k : Int} {j : Nat} (hl : a.length = b.length) (hk : k = (a.length : Int) - 1 - j) (hj : j < a.length) (hs : Same a b j) (he : a.getD k.toNat 0 = b.getD k.toNat 0) : Same a b (j + 1) := by
  have e1 : k.toNat = a.length - (j + 1) := by omega
  have h1 : a.length - (j + 1) < a.length := by omega
  have h2 : b.length - (j + 1) < b.length := by omega
  unfold Same at *
  rw [e1] at he
  rw [List.drop_eq_getElem_cons h1, List.drop_eq_getElem_cons h2]
  have e2 : a.length - (j + 1) + 1 = a.length - j := by omega
  have e3 : b.length - (j + 1) + 1 = b.length - j := by omega
  rw [e2, e3, hs]
  have e4 : a.getD (a.length - (j + 1)) 0 = a[a.length - (j + 1)] := by rw [List.getD_eq_getElem?_getD, List.getElem?_eq_getElem h1]; rfl
  have e5 : b.getD (a.length - (j + 1)) 0 = b[b.length - (j + 1)] := by
    have : a.length - (j + 1) = b.length - (j + 1) := by omega
    rw [this, List.getD_eq_getElem?_getD, List.getElem?_eq_getElem h2]; rfl
  rw [e4, e5] at he
  rw [he]
theorem same_all {a b : List Int} (hl : a.length = b.length) {k : Nat} (hk : k = a.length) (hs : Same a b k) : a = b := by
  unfold Same at hs
  subst hk
  simpa [hl] using hs
theorem cmp_lt' {B : Int} (hB : 2 ≤ B) {a b : List Int} (ha : Can B a) (hb : Can B b) {k : Int} {j : Nat} (hl : a.length = b.length) (hk : k = (a.length : Int) - 1 - j) (hj : j < a.length) (hs : Same a b j) (he : a.getD k.toNat 0 < b.getD k.toNat 0) :
    cmpI (val B a) (val B b) = -1 := by
  have e1 : k.toNat + 1 = a.length - j := by omega
  have h := cmp_at hB ha.lim hb.lim (k := k.toNat) (by omega) (by omega) (by unfold Same at hs; rw [e1]; rw [show b.length - j = a.length - j by omega] at hs; exact hs) he
  unfold cmpI; rw [if_pos h]
theorem cmp_gt' {B : Int} (hB : 2 ≤ B) {a b : List Int} (ha : Can B a) (hb : Can B b) {k : Int} {j : Nat} (hl : a.length = b.length) (hk : k = (a.length : Int) - 1 - j) (hj : j < a.length) (hs : Same a b j) (he : b.getD k.toNat 0 < a.getD k.toNat 0) :
    cmpI (val B a) (val B b) = 1 := by
  have e1 : k.toNat + 1 = a.length - j := by omega
  have h := cmp_at hB hb.lim ha.lim (k := k.toNat) (by omega) (by omega) (by unfold Same at hs; rw [e1]; rw [show b.length - j = a.length - j by omega] at hs; exact hs.symm) he
  unfold cmpI; rw [if_neg (by omega), if_pos h]
theorem cmp_eq' {B : Int} {a b : List Int} {k : Nat} (hs : Same a b k) (hl : a.length = b.length) (hk : k = a.length) : cmpI (val B a) (val B b) = 0 := by
  rw [same_all hl hk hs]; unfold cmpI; rw [if_neg (by omega), if_neg (by omega)]
theorem cmp_short {B : Int} (hB : 2 ≤ B) {a b : List Int} (ha : Can B a) (hb : Can B b) (h : a.length < b.length) : cmpI (val B a) (val B b) = -1 := by
  have := len_lt hB ha.lim hb h
  unfold cmpI; rw [if_pos this]
theorem cmp_long {B : Int} (hB : 2 ≤ B) {a b : List Int} (ha : Can B a) (hb : Can B b) (h : b.length < a.length) : cmpI (val B a) (val B b) = 1 := by
  have := len_lt hB hb.lim ha h
  unfold cmpI; rw [if_neg (by omega), if_pos this]

/-! ## add -/
theorem val_snoc (B : Int) (l : List Int) (x : Int) : val B (l ++ [x]) = val B l + B ^ l.length * x := by
  rw [val_append]; simp [val]
theorem take_succ_getD {l : List Int} {k : Nat} (h : k < l.length) : l.take (k + 1) = l.take k ++ [l.getD k 0] := by
  rw [List.take_add_one, List.getD_eq_getElem?_getD, List.getElem?_eq_getElem h]; rfl
theorem val_take_succ (B : Int) {l : List Int} {k : Nat} (h : k < l.length) : val B (l.take (k + 1)) = val B (l.take k) + B ^ k * l.getD k 0 := by
  rw [take_succ_getD h, val_snoc, List.length_take, Nat.min_eq_left (by omega)]
theorem getD_out {l : List Int} {k : Nat} (h : l.length ≤ k) : l.getD k 0 = 0 := by
  rw [List.getD_eq_getElem?_getD, List.getElem?_eq_none h]; rfl
theorem val_take_succ' (B : Int) (l : List Int) (k : Nat) : val B (l.take (k + 1)) = val B (l.take k) + B ^ k * l.getD k 0 := by
  by_cases h : k < l.length
  · exact val_take_succ B h
  · rw [getD_out (by omega), List.take_of_length_le (by omega), List.take_of_length_le (by omega), Int.mul_zero, Int.add_zero]
/-- one limb of a sum: what was carried, the sum's value -/
structure Carry (B : Int) (f : List Int) (c : Int) (j : Nat) (S : Int) : Prop where
  lim : Lim B f
  len : f.length = j
  lo : 0 ≤ c
  hi : c ≤ 1
  eq : val B f + B ^ j * c = S
theorem carry_start {B : Int} : Carry B [] 0 0 0 := ⟨lim_nil, rfl, by omega, by omega, by simp [val]⟩
theorem carry_step {B : Int} (hB : 2 ≤ B) {f : List Int} {c : Int} {j : Nat} {S x S' : Int} (h : Carry B f c j S) (hx0 : 0 ≤ x) (hx1 : x ≤ 2 * (B - 1)) (hS : S' = S + B ^ j * x) :
    Carry B (f ++ [(c + x) % B]) ((c + x) / B) (j + 1) S' := by
  obtain ⟨h1, h2, h3, h4, h5⟩ := h
  have h6 : 0 ≤ (c + x) / B := Int.ediv_nonneg (by omega) (by omega)
  have h7 : (c + x) / B < 2 := Int.ediv_lt_of_lt_mul (by omega) (by omega)
  refine ⟨lim_append h1 (lim_cons ⟨Int.emod_nonneg _ (by omega), Int.emod_lt_of_pos _ (by omega)⟩ lim_nil), by simp [h2], h6, by omega, ?_⟩
  rw [val_snoc, h2, hS, ← h5, Int.pow_succ, Int.mul_assoc, Int.add_assoc, ← Int.mul_add, Int.emod_add_mul_ediv, Int.mul_add, Int.add_assoc]
theorem carry_none {B : Int} (hB : 2 ≤ B) {f a : List Int} {c : Int} {j : Nat} {S : Int} (h : Carry B f c j S) (hc : ¬ 0 < c) (ha : Can B a) (hj : j = a.length) (hS : val B a ≤ S) : f = row B S := by
  obtain ⟨h1, h2, h3, h4, h5⟩ := h
  have hc0 : c = 0 := by omega
  subst hc0
  rw [Int.mul_zero, Int.add_zero] at h5
  rw [← h5, row_val hB h1]
  by_cases e : a = []
  · subst e
    have : f = [] := List.length_eq_zero_iff.mp (by simpa [hj] using h2)
    rw [this]; rfl
  · have hpos : 0 < a.length := List.length_pos_iff.mpr e
    obtain ⟨g, x, rfl⟩ : ∃ g x, f = g ++ [x] := by
      have hne : f ≠ [] := by intro q; rw [q] at h2; simp at h2; omega
      exact ⟨f.dropLast, f.getLast hne, (List.dropLast_concat_getLast hne).symm⟩
    refine (trim_of_ge (b := B) (by omega) (fun y hy => h1 y (List.mem_append_left _ hy)) x ?_).symm
    have h6 := val_ge (by omega : 1 ≤ B) ha.lim ha.top e
    have h7 : g.length = a.length - 1 := by simp at h2; omega
    rw [h7, h5]; omega
theorem carry_some {B : Int} (hB : 2 ≤ B) {f : List Int} {c : Int} {j : Nat} {S : Int} (h : Carry B f c j S) (hc : 0 < c) : f ++ [c] = row B S := by
  obtain ⟨h1, h2, h3, h4, h5⟩ := h
  have e : val B (f ++ [c]) = S := by rw [val_snoc, h2, h5]
  rw [← e, row_val hB (lim_append h1 (lim_cons ⟨h3, by omega⟩ lim_nil)), trim_last (by omega)]

theorem add_step1 {B : Int} (hB : 2 ≤ B) {na nb f : List Int} {c k : Int} {j : Nat} (la : Lim B na) (lb : Lim B nb) (hk : k = 0 + (j : Int)) (h : Carry B f c j (val B (na.take j) + val B (nb.take j))) :
    Carry B (f ++ [(c + (na.getD k.toNat 0 + nb.getD k.toNat 0)) % B]) ((c + (na.getD k.toNat 0 + nb.getD k.toNat 0)) / B) (j + 1) (val B (na.take (j + 1)) + val B (nb.take (j + 1))) := by
  have e : k.toNat = j := by omega
  rw [e]
  have h1 := lim_getD (by omega : 0 < B) la j
  have h2 := lim_getD (by omega : 0 < B) lb j
  refine carry_step hB h (by omega) (by omega) ?_
  rw [val_take_succ', val_take_succ', Int.mul_add]; omega
theorem add_mid {B : Int} {na nb f : List Int} {c : Int} {n : Nat} (h : Carry B f c n (val B (na.take n) + val B (nb.take n))) (hn : n = nb.length) : Carry B f c (nb.length + 0) (val B (na.take (nb.length + 0)) + val B nb) := by
  subst hn
  rw [List.take_of_length_le (l := nb) (Nat.le_refl _)] at h
  exact h
theorem add_step2 {B : Int} (hB : 2 ≤ B) {na nb f : List Int} {c k : Int} {j : Nat} (la : Lim B na) (hk : k = (nb.length : Int) + (j : Int)) (h : Carry B f c (nb.length + j) (val B (na.take (nb.length + j)) + val B nb)) :
    Carry B (f ++ [(c + na.getD k.toNat 0) % B]) ((c + na.getD k.toNat 0) / B) (nb.length + (j + 1)) (val B (na.take (nb.length + (j + 1))) + val B nb) := by
  have e : k.toNat = nb.length + j := by omega
  rw [e, ← Nat.add_assoc]
  have h1 := lim_getD (by omega : 0 < B) la (nb.length + j)
  refine carry_step hB h (by omega) (by omega) ?_
  rw [val_take_succ']; omega
theorem add_some {B : Int} (hB : 2 ≤ B) {na nb f : List Int} {c : Int} {n : Nat} (h : Carry B f c (nb.length + n) (val B (na.take (nb.length + n)) + val B nb)) (hn : nb.length + n = na.length) (hc : 0 < c) : f ++ [c] = row B (val B na + val B nb) := by
  rw [hn, List.take_of_length_le (l := na) (Nat.le_refl _)] at h
  exact carry_some hB h hc
theorem add_none {B : Int} (hB : 2 ≤ B) {na nb f : List Int} {c : Int} {n : Nat} (h : Carry B f c (nb.length + n) (val B (na.take (nb.length + n)) + val B nb)) (hn : nb.length + n = na.length) (ca : Can B na) (cb : Lim B nb) (hc : ¬ 0 < c) : f = row B (val B na + val B nb) := by
  rw [hn, List.take_of_length_le (l := na) (Nat.le_refl _)] at h
  have := val_nonneg (by omega : 0 ≤ B) cb
  exact carry_none hB h hc ca rfl (by omega)

/-! ## sub -/
structure Borrow (B : Int) (f : List Int) (c : Int) (j : Nat) (S : Int) : Prop where
  lim : Lim B f
  len : f.length = j
  lo : 0 ≤ c
  hi : c ≤ 1
  eq : val B f = S + B ^ j * c
theorem borrow_start {B : Int} : Borrow B [] 0 0 0 := ⟨lim_nil, rfl, by omega, by omega, by simp [val]⟩
theorem borrow_neg {B : Int} {f : List Int} {c : Int} {j : Nat} {S x y S' : Int} (h : Borrow B f c j S) (hx : 0 ≤ x ∧ x < B) (hy : 0 ≤ y ∧ y < B) (hS : S' = S + B ^ j * (x - y)) (hn : x - c - y < 0) :
    Borrow B (f ++ [x - c - y + B]) 1 (j + 1) S' := by
  obtain ⟨h1, h2, h3, h4, h5⟩ := h
  refine ⟨lim_append h1 (lim_cons ⟨by omega, by omega⟩ lim_nil), by simp [h2], by omega, by omega, ?_⟩
  rw [val_snoc, h2, hS, h5, Int.pow_succ, Int.mul_one]
  simp only [Int.mul_sub, Int.mul_add]
  omega
theorem borrow_pos {B : Int} {f : List Int} {c : Int} {j : Nat} {S x y S' : Int} (h : Borrow B f c j S) (hx : 0 ≤ x ∧ x < B) (hy : 0 ≤ y ∧ y < B) (hS : S' = S + B ^ j * (x - y)) (hn : ¬ x - c - y < 0) :
    Borrow B (f ++ [x - c - y]) 0 (j + 1) S' := by
  obtain ⟨h1, h2, h3, h4, h5⟩ := h
  refine ⟨lim_append h1 (lim_cons ⟨by omega, by omega⟩ lim_nil), by simp [h2], by omega, by omega, ?_⟩
  rw [val_snoc, h2, hS, h5, Int.mul_zero, Int.add_zero]
  simp only [Int.mul_sub, Int.mul_add]
  omega
theorem borrow_done {B : Int} (hB : 2 ≤ B) {f : List Int} {c : Int} {j : Nat} {S : Int} (h : Borrow B f c j S) (hS : 0 ≤ S) : trim f = row B S := by
  obtain ⟨h1, h2, h3, h4, h5⟩ := h
  have h6 := val_lt (by omega : 1 ≤ B) h1
  rw [h2] at h6
  have hc : c = 0 := by
    rcases Int.lt_or_le 0 c with h | h
    · have : c = 1 := by omega
      subst this; omega
    · omega
  subst hc
  rw [Int.mul_zero, Int.add_zero] at h5
  rw [← h5, row_val hB h1]
theorem sub_neg {B : Int} (hB : 2 ≤ B) {na nb f : List Int} {c k : Int} {j : Nat} (la : Lim B na) (lb : Lim B nb) (hk : k = 0 + (j : Int)) (h : Borrow B f c j (val B (na.take j) - val B (nb.take j))) (hn : na.getD k.toNat 0 - c - nb.getD k.toNat 0 < 0) :
    Borrow B (f ++ [na.getD k.toNat 0 - c - nb.getD k.toNat 0 + B]) 1 (j + 1) (val B (na.take (j + 1)) - val B (nb.take (j + 1))) := by
  have e : k.toNat = j := by omega
  rw [e] at hn ⊢
  refine borrow_neg h (lim_getD (by omega) la j) (lim_getD (by omega) lb j) ?_ hn
  rw [val_take_succ', val_take_succ', Int.mul_sub]; omega
theorem sub_pos {B : Int} (hB : 2 ≤ B) {na nb f : List Int} {c k : Int} {j : Nat} (la : Lim B na) (lb : Lim B nb) (hk : k = 0 + (j : Int)) (h : Borrow B f c j (val B (na.take j) - val B (nb.take j))) (hn : ¬ na.getD k.toNat 0 - c - nb.getD k.toNat 0 < 0) :
    Borrow B (f ++ [na.getD k.toNat 0 - c - nb.getD k.toNat 0]) 0 (j + 1) (val B (na.take (j + 1)) - val B (nb.take (j + 1))) := by
  have e : k.toNat = j := by omega
  rw [e] at hn ⊢
  refine borrow_pos h (lim_getD (by omega) la j) (lim_getD (by omega) lb j) ?_ hn
  rw [val_take_succ', val_take_succ', Int.mul_sub]; omega
theorem sub_neg0 {B : Int} (hB : 2 ≤ B) {na nb f : List Int} {c k : Int} {j : Nat} (la : Lim B na) (lb : Lim B nb) (hk : k = 0 + (j : Int)) (h : Borrow B f c j (val B (na.take j) - val B (nb.take j))) (ho : ¬ k < nb.length) (hn : na.getD k.toNat 0 - c - 0 < 0) :
    Borrow B (f ++ [na.getD k.toNat 0 - c - 0 + B]) 1 (j + 1) (val B (na.take (j + 1)) - val B (nb.take (j + 1))) := by
  have e : nb.getD k.toNat 0 = 0 := getD_out (by omega)
  have := sub_neg hB la lb hk h (by rw [e]; exact hn)
  rw [e] at this; exact this
theorem sub_pos0 {B : Int} (hB : 2 ≤ B) {na nb f : List Int} {c k : Int} {j : Nat} (la : Lim B na) (lb : Lim B nb) (hk : k = 0 + (j : Int)) (h : Borrow B f c j (val B (na.take j) - val B (nb.take j))) (ho : ¬ k < nb.length) (hn : ¬ na.getD k.toNat 0 - c - 0 < 0) :
    Borrow B (f ++ [na.getD k.toNat 0 - c - 0]) 0 (j + 1) (val B (na.take (j + 1)) - val B (nb.take (j + 1))) := by
  have e : nb.getD k.toNat 0 = 0 := getD_out (by omega)
  have := sub_pos hB la lb hk h (by rw [e]; exact hn)
  rw [e] at this; exact this
theorem sub_done {B : Int} (hB : 2 ≤ B) {na nb f : List Int} {c : Int} {n : Nat} (h : Borrow B f c n (val B (na.take n) - val B (nb.take n))) (hn : n = na.length) (ca : Can B na) (cb : Can B nb) (hS : val B nb ≤ val B na) : trim f = row B (val B na - val B nb) := by
  have hl : nb.length ≤ na.length := by
    rcases Nat.lt_or_ge na.length nb.length with q | q
    · have := len_lt hB ca.lim cb q; omega
    · exact q
  subst hn
  rw [List.take_of_length_le (l := na) (Nat.le_refl _), List.take_of_length_le (l := nb) hl] at h
  exact borrow_done hB h (by omega)

/-! ## mul_school -/
theorem getD_split {l p q : List Int} {n : Int} (h : l = p ++ n :: q) : l.getD p.length 0 = n := by
  subst h; rw [List.getD_eq_getElem?_getD, List.getElem?_append_right (Nat.le_refl _)]; simp
theorem lim_split {B : Int} {l p q : List Int} {n : Int} (hl : Lim B l) (h : l = p ++ n :: q) : 0 ≤ n ∧ n < B := hl n (by rw [h]; simp)
theorem len_split {l p q : List Int} {n : Int} (h : l = p ++ n :: q) : p.length < l.length := by rw [h]; simp
theorem getD_set {l : List Int} {k j : Nat} {x : Int} (h : j ≠ k) : (l.set k x).getD j 0 = l.getD j 0 := by
  rw [List.getD_eq_getElem?_getD, List.getD_eq_getElem?_getD, List.getElem?_set_ne (by omega)]
theorem val_set (B : Int) (x : Int) : ∀ {l : List Int} {k : Nat}, k < l.length → val B (l.set k x) = val B l + B ^ k * (x - l.getD k 0)
  | y :: r, 0, _ => by simp [val]; omega
  | y :: r, k + 1, h => by
    have ih := val_set B x (l := r) (k := k) (by simpa using h)
    simp only [List.set_cons_succ, val, ih, List.getD_cons_succ]
    rw [Int.mul_add, Int.pow_succ, Int.mul_comm (B ^ k) B, Int.mul_assoc]; omega
theorem lim_set {B : Int} {l : List Int} (h : Lim B l) (k : Nat) {x : Int} (hx : 0 ≤ x ∧ x < B) : Lim B (l.set k x) := fun y hy => by
  rcases List.mem_or_eq_of_mem_set hy with q | q
  · exact h y q
  · exact q ▸ hx
structure MulO (B : Int) (f a b : List Int) (i : Nat) : Prop where
  lim : Lim B f
  top : ∀ j, i + b.length ≤ j → f.getD j 0 = 0
  eq : val B f = val B (a.take i) * val B b
structure MulI (B : Int) (f : List Int) (c : Int) (a b : List Int) (i s : Nat) : Prop where
  lim : Lim B f
  lo : 0 ≤ c
  hi : c < B
  top : ∀ j, i + b.length ≤ j → f.getD j 0 = 0
  eq : val B f + B ^ (i + s) * c = val B (a.take i) * val B b + B ^ i * (a.getD i 0 * val B (b.take s))
theorem mulO_start {B : Int} {a b : List Int} (hB : 2 ≤ B) (k : Nat) : MulO B (List.replicate k [(0 : Int)]).flatten a b 0 := by
  have hz : ∀ k, val B (List.replicate k [(0 : Int)]).flatten = 0 := by
    intro k; induction k with
    | zero => rfl
    | succ k ih => rw [List.replicate_succ, List.flatten_cons, List.cons_append, List.nil_append, val, ih, Int.mul_zero, Int.add_zero]
  have hm : ∀ x ∈ (List.replicate k [(0 : Int)]).flatten, x = 0 := by
    intro x hx
    obtain ⟨l, hl, hx⟩ := List.mem_flatten.mp hx
    rw [List.eq_of_mem_replicate hl] at hx
    simpa using hx
  refine ⟨fun x hx => by rw [hm x hx]; omega, fun j _ => ?_, by rw [hz]; simp [val]⟩
  rw [List.getD_eq_getElem?_getD]
  cases q : (List.replicate k [(0 : Int)]).flatten[j]? with
  | none => rfl
  | some x => exact hm x (List.mem_of_getElem? q)
theorem mulI_start {B : Int} {f a b : List Int} {i : Nat} (hB : 2 ≤ B) (h : MulO B f a b i) : MulI B f 0 a b i 0 := by
  refine ⟨h.lim, by omega, by omega, h.top, ?_⟩
  rw [h.eq]; simp [val]
theorem mulI_step {B : Int} (hB : 2 ≤ B) {f a b : List Int} {c x y k : Int} {i s : Nat} (h : MulI B f c a b i s) (hf : f.length = a.length + b.length) (hi : i < a.length) (hs : s < b.length) (hx : a.getD i 0 = x) (hy : b.getD s 0 = y) (hx' : 0 ≤ x ∧ x < B) (hy' : 0 ≤ y ∧ y < B) (hk : k = (i : Int) + (s : Int)) :
    MulI B (f.set k.toNat ((c + (f.getD k.toNat 0 + x * y)) % B)) ((c + (f.getD k.toNat 0 + x * y)) / B) a b i (s + 1) := by
  have ek : k.toNat = i + s := by omega
  rw [ek]
  obtain ⟨h1, h2, h3, h4, h5⟩ := h
  have hg := lim_getD (by omega : 0 < B) h1 (i + s)
  have hxy0 : 0 ≤ x * y := Int.mul_nonneg hx'.1 hy'.1
  have hxy1 : x * y ≤ (B - 1) * (B - 1) := Int.mul_le_mul (by omega) (by omega) hy'.1 (by omega)
  have e2 : (B - 1) * (B - 1) = B * B - 2 * B + 1 := by rw [Int.sub_mul, Int.mul_sub]; omega
  have hd0 : 0 ≤ (c + (f.getD (i + s) 0 + x * y)) / B := Int.ediv_nonneg (by omega) (by omega)
  have hd1 : (c + (f.getD (i + s) 0 + x * y)) / B < B := Int.ediv_lt_of_lt_mul (by omega) (by omega)
  refine ⟨lim_set h1 _ ⟨Int.emod_nonneg _ (by omega), Int.emod_lt_of_pos _ (by omega)⟩, hd0, hd1, fun j hj => by rw [getD_set (by omega)]; exact h4 j hj, ?_⟩
  rw [val_set B _ (by omega), val_take_succ', hx, hy]
  have e3 := Int.emod_add_mul_ediv (c + (f.getD (i + s) 0 + x * y)) B
  have e4 : B ^ (i + (s + 1)) * ((c + (f.getD (i + s) 0 + x * y)) / B) = B ^ (i + s) * (B * ((c + (f.getD (i + s) 0 + x * y)) / B)) := by
    rw [← Nat.add_assoc, Int.pow_succ, Int.mul_assoc]
  rw [e4, Int.add_assoc, ← Int.mul_add]
  have e5 : (c + (f.getD (i + s) 0 + x * y)) % B - f.getD (i + s) 0 + B * ((c + (f.getD (i + s) 0 + x * y)) / B) = c + x * y := by omega
  rw [e5, Int.mul_add, ← Int.add_assoc, h5, hx, Int.mul_add, Int.mul_add, Int.pow_add]
  have e6 : B ^ i * B ^ s * (x * y) = B ^ i * (x * (B ^ s * y)) := by
    rw [Int.mul_assoc, Int.mul_left_comm (B ^ s) x y]
  rw [e6]; omega
theorem mulI_done {B : Int} (hB : 2 ≤ B) {f a b : List Int} {c k : Int} {i s : Nat} (h : MulI B f c a b i s) (hf : f.length = a.length + b.length) (hi : i < a.length) (hs : s = b.length) (hk : k = (i : Int) + (b.length : Int)) : MulO B (f.set k.toNat c) a b (i + 1) := by
  have ek : k.toNat = i + b.length := by omega
  rw [ek]
  subst hs
  obtain ⟨h1, h2, h3, h4, h5⟩ := h
  refine ⟨lim_set h1 _ ⟨h2, h3⟩, fun j hj => by rw [getD_set (by omega)]; exact h4 j (by omega), ?_⟩
  rw [val_set B _ (by omega), h4 _ (Nat.le_refl _), Int.sub_zero, h5, val_take_succ', List.take_of_length_le (l := b) (Nat.le_refl _), Int.add_mul, Int.mul_assoc]
theorem mulO_done {B : Int} (hB : 2 ≤ B) {f a b : List Int} {i : Nat} (h : MulO B f a b i) (hi : i = a.length) : trim f = row B (val B a * val B b) := by
  subst hi
  rw [← row_val hB h.lim, h.eq, List.take_of_length_le (l := a) (Nat.le_refl _)]
theorem flat_len (k : Nat) : (List.replicate k [(0 : Int)]).flatten.length = k := by simp
theorem pow_512 {w : Int} (h : w ≤ 9) : (2 : Int) ^ w.toNat ≤ 512 := by
  have h1 : w.toNat ≤ 9 := by omega
  obtain ⟨k, hk⟩ : ∃ k, 9 = w.toNat + k := ⟨9 - w.toNat, by omega⟩
  have e : (512 : Int) = 2 ^ w.toNat * 2 ^ k := by rw [← Int.pow_add, ← hk]; decide
  have h2 := kbt_pos k
  have h3 := kbt_pos w.toNat
  have := Int.mul_le_mul_of_nonneg_left (show 1 ≤ (2 : Int) ^ k by omega) (Int.le_of_lt h3)
  omega

/-! ## rows -/
theorem row_num {B n : Int} (hB : 2 ≤ B) (h : Num n) : (row B n).length ≤ hcap := row_length hB hcap h.lt
theorem row_cap {B n : Int} (hB : 2 ≤ B) (h : Num n) : (row B n).length ≤ cap := Nat.le_trans (row_num hB h) (by have := hcap_le; omega)
theorem row_one {B : Int} (hB : 2 ≤ B) : row B 1 = [1] := by
  rw [row_pos hB (by omega), Int.emod_eq_of_lt (by omega) (by omega), row_zero]
  rw [Int.ediv_eq_zero_of_lt (by omega) (by omega)]; omega
theorem row_nil {B n : Int} (hB : 2 ≤ B) (hn : 0 ≤ n) : (row B n).length = 0 ↔ n = 0 := by
  constructor
  · intro h
    have h1 := val_row hB hn
    rw [List.length_eq_zero_iff.mp h] at h1
    exact h1.symm
  · intro h; subst h; rw [row_zero (by omega)]; rfl
theorem num_one : Num 1 := Num.of 1 (by omega) (by decide) (by decide)
theorem num_zero : Num 0 := Num.of 1 (by omega) (by decide) (by decide)
theorem num_lit {n : Int} (h0 : 0 ≤ n) (h : n < 1099511627776) : Num n :=
  Num.of 40 h0 (by rw [show (2 : Int) ^ 40 = 1099511627776 by decide]; exact h) (by decide)

/-! ## signed numbers -/
def smulB (b₁ : Bool) (x : Int) (b₂ : Bool) (y : Int) : Bool := (b₁ != b₂) && decide (0 < x * y)
def saddB (b₁ : Bool) (x : Int) (b₂ : Bool) (y : Int) : Bool := if b₁ = b₂ then b₁ && decide (0 < x + y) else if x < y then b₂ && decide (0 < y - x) else b₁ && decide (0 < x - y)
def saddM (b₁ : Bool) (x : Int) (b₂ : Bool) (y : Int) : Int := if b₁ = b₂ then x + y else if x < y then y - x else x - y
/-- the pair (b, x) is the number z -/
structure SV (b : Bool) (x z : Int) : Prop where
  sign : b = decide (z < 0)
  abs : x = z.natAbs
theorem sv_of (z : Int) : SV (decide (z < 0)) (z.natAbs : Int) z := ⟨rfl, rfl⟩
theorem sv_nn {z : Int} (h : 0 ≤ z) : SV false z z := ⟨by simp; omega, by omega⟩
theorem sv_neg {z : Int} (h : 0 < z) : SV true z (-z) := ⟨by simp; omega, by omega⟩
theorem sv_mul {b₁ b₂ : Bool} {x y z₁ z₂ : Int} (h₁ : SV b₁ x z₁) (h₂ : SV b₂ y z₂) : SV (smulB b₁ x b₂ y) (x * y) (z₁ * z₂) := by
  obtain ⟨rfl, rfl⟩ := h₁
  obtain ⟨rfl, rfl⟩ := h₂
  refine ⟨?_, by rw [Int.natAbs_mul, Int.natCast_mul]⟩
  unfold smulB
  have key : (z₁ * z₂ < 0) ↔ (decide (z₁ < 0) != decide (z₂ < 0)) = true ∧ 0 < (z₁.natAbs : Int) * (z₂.natAbs : Int) := by
    rcases Int.lt_trichotomy z₁ 0 with a | a | a <;> rcases Int.lt_trichotomy z₂ 0 with c | c | c
    · have h := Int.mul_pos_of_neg_of_neg a c
      simp [a, c]; omega
    · subst c; simp
    · have h := Int.mul_neg_of_neg_of_pos a c
      have h2 : 0 < (z₁.natAbs : Int) * (z₂.natAbs : Int) := Int.mul_pos (by omega) (by omega)
      simp [a, show ¬ z₂ < 0 by omega, h]; omega
    · subst a; simp
    · subst a; simp
    · subst a; simp
    · have h := Int.mul_neg_of_pos_of_neg a c
      have h2 : 0 < (z₁.natAbs : Int) * (z₂.natAbs : Int) := Int.mul_pos (by omega) (by omega)
      simp [c, show ¬ z₁ < 0 by omega, h]; omega
    · subst c; simp
    · have h := Int.mul_pos a c
      simp [show ¬ z₁ < 0 by omega, show ¬ z₂ < 0 by omega]; omega
  rw [Bool.eq_iff_iff, decide_eq_true_eq, key, Bool.and_eq_true, decide_eq_true_eq]
theorem sv_add {b₁ b₂ : Bool} {x y z₁ z₂ : Int} (h₁ : SV b₁ x z₁) (h₂ : SV b₂ y z₂) : SV (saddB b₁ x b₂ y) (saddM b₁ x b₂ y) (z₁ + z₂) := by
  obtain ⟨rfl, rfl⟩ := h₁
  obtain ⟨rfl, rfl⟩ := h₂
  unfold saddB saddM
  by_cases e : decide (z₁ < 0) = decide (z₂ < 0)
  · rw [if_pos e, if_pos e]
    have e' : z₁ < 0 ↔ z₂ < 0 := by simpa using e
    refine ⟨?_, by omega⟩
    rw [Bool.eq_iff_iff, Bool.and_eq_true, decide_eq_true_eq, decide_eq_true_eq, decide_eq_true_eq]
    omega
  · rw [if_neg e, if_neg e]
    have e' : ¬ (z₁ < 0 ↔ z₂ < 0) := by simpa using e
    by_cases q : (z₁.natAbs : Int) < z₂.natAbs
    · rw [if_pos q, if_pos q]
      refine ⟨?_, by omega⟩
      rw [Bool.eq_iff_iff, Bool.and_eq_true, decide_eq_true_eq, decide_eq_true_eq, decide_eq_true_eq]
      omega
    · rw [if_neg q, if_neg q]
      refine ⟨?_, by omega⟩
      rw [Bool.eq_iff_iff, Bool.and_eq_true, decide_eq_true_eq, decide_eq_true_eq, decide_eq_true_eq]
      omega
end
section
/-- the contract of a def: called over arguments that 'Pre' speaks of, it ends, keeps every object that stood, and hands back what 'Post' says. -/
def CT (w : World) (d : Nat) (f : Addr) (vs : List Value) (Pre : Heap → Prop) (Post : Heap → Value → Heap → Prop) : Prop :=
  ∀ (pp : Program) (lo : List Str) (mean : ExcName → Option Value) (mg mb : Str → Option Value) (dp un : Nat) (gd : Option (List Code)) (cn : Str) (cs : Scope) (a : Addr) (ccd : Value) (cl : List (Str × Addr)) (outer : List Env) (A₀ : Around) (base h₀ : Heap) (L : Addr) (m : Str → Option Value) (s : Shared)
    (Q E : Value → Shared → Prop),
    Below A₀ base outer h₀ → Fr h₀ L s.heap m → (hd.heap_39 w.params).In h₀ → Top pp lo mean mg mb h₀ → cs.kind = .function → Pre s.heap → dp + d < recursionLimit → un + 8 * d < cLine →
    (∀ r h' tk', s.heap.StaysIn h' → Post s.heap r h' → Q r { s with heap := h', toks := tk' }) →
    wpAny (model PySem.Challenge.rw_rr0055_01.row.prog w) (ktrTop dp un gd cn cs L a ccd cl outer) (call (.ref f) vs) Q E s

section
variable {prog : Program} {w : World} {A A₀ : Around} {E : Value → Shared → Prop} {s : Shared} {K : Frag} {C L : Addr} {h₀ base : Heap} {m mg mb : Str → Option Value} {news : List (Addr × Obj)} {p : Program} {loose : List Str} {pp : Program} {lo : List Str} {mean : ExcName → Option Value} {Q : Value → Shared → Prop}

/-- a def entered over the whole heap as it stands: its own ledger is empty. -/
theorem enter0 {env : Env} {outer : List Env} {R : Result → Shared → Prop} {name qual : Str} {params : Arguments} {body : List Stmt} {scope : Scope} {dV kV doc pm cdv ct oc : Value} {an od : Option Addr} {osl : Array (Option Value)} {f : Addr} {args : Args} {binds : List (Str × Value)}
    (B : Below A₀ base outer h₀) (F : Fr h₀ L s.heap m) (X₀ : K.In h₀) (T : Top p loose mean mg mb h₀) (hA : A.frames = some (env :: outer)) (hf : env.frame = some L) (hke : env.scope.kind = .function)
    (ho : K.lookup f = some ⟨oc, od, .func (fnOf name qual params body scope dV kV doc pm an cdv ct), osl⟩) (hcd : codeIn K cdv qual = true) (hroom : A.depth < recursionLimit)
    (hbind : BindsTo s (fnOf name qual params body scope dV kV doc pm an cdv ct) args binds) (hloc : ∀ y ∈ binds, scope.names.lookup y.1 = some .local)
    (h : ∀ L' h₁, Fr s.heap L' h₁ (fun y => binds.reverse.lookup y) → News s.heap L' h₁ [] → Below A base (env :: outer) s.heap → K.In s.heap → Top p loose mean mg mb s.heap →
      wpAny (model prog w) (A.deeper (envOf qual scope L' f cdv)) (execs body (envOf qual scope L' f cdv))
        (fun fl s' => R (.ok (.ret (match fl with | .ret v => v | _ => .none))) s')
        (fun e s' => wpAny (model prog w) (A.deeper (envOf qual scope L' f cdv)) (leaving (envOf qual scope L' f cdv) e) (fun _ s'' => R (.error e) s'') (fun e' s'' => R (.error e') s'') s')
        { s with heap := h₁, toks := s.toks + binds.length })
    (hco : scope.isCoroutine = false) (hgen : scope.isGenerator = false) (hk : scope.kind = .function)
    (hcell : ∀ x ∈ scope.names, x.2 ≠ .cell) : codeAny (model prog w) A (.call (.ref f) args) R s := by
  refine codeAny_call_def (fd := fnOf name qual params body scope dV kV doc pm an cdv ct) (body := body) (binds := binds) hroom (X₀.keeps F.keep _ _ ho) rfl (T.nolimit.keeps F.keep) (codeRec_of (X₀.keeps F.keep) hcd) rfl hbind hcell hloc (fun h₁ hns hk₁ => ?_) hco hgen hk
  have B₁ := pushX B F hf hke
  refine h _ h₁ ⟨hns, hk₁, Nat.le_refl _⟩ (fun _ hp => nomatch hp) ⟨hA, B₁.stays, B₁.frames⟩ (X₀.keeps F.keep) (T.keeps F.keep)
end

/-- a list of these ints has been made -/
def RetL (ns : List Int) (h : Heap) (r : Value) (h' : Heap) : Prop := ∃ l vs c, r = .ref l ∧ h.get? l = none ∧ h'.get? l = some (listOf (List.toArray vs) c) ∧ IntsAre vs ns
/-- a list of ints stands there -/
def LstAt (h : Heap) (l : Addr) (ns : List Int) : Prop := ∃ vs, h.IsList l (List.toArray vs) ∧ IntsAre vs ns

def AllNe (d : Nat) : List (Addr × Obj) → Prop
  | [] => True
  | p :: r => @Ne Nat p.1 d ∧ AllNe d r
theorem allNe_of {h₀ h h' : Heap} {L d : Addr} (hd : h.get? d = none) : ∀ {news : List (Addr × Obj)}, News h₀ L h news → AllNe d news
  | [], _ => trivial
  | p :: r, N => ⟨fun e => absurd ((N p (.head _)).1) (by rw [show p.1 = d from e, hd]; intro q; cases q), allNe_of (h' := h') hd fun q hq => N q (.tail _ hq)⟩
theorem fr_stays {h₀ h h' : Heap} {L : Addr} {m : Str → Option Value} (F : Fr h₀ L h m) (st : h.StaysIn h') : Fr h₀ L h' m := by
  obtain ⟨oL, es, ep, hL, r⟩ := F.ns
  exact ⟨⟨oL, es, ep, st _ _ hL, r⟩, fun b o e => st _ _ (F.keep b o e), F.above⟩
theorem news_stays {h₀ h h' : Heap} {L : Addr} {news : List (Addr × Obj)} (N : News h₀ L h news) (st : h.StaysIn h') : News h₀ L h' news := fun p hp => ⟨st _ _ (N p hp).1, (N p hp).2⟩
theorem news_more {h₀ h h' : Heap} {L d : Addr} {o : Obj} {m : Str → Option Value} {news : List (Addr × Obj)} (F : Fr h₀ L h m) (hn : h.get? d = none) (hd : h'.get? d = some o) (N : News h₀ L h' news) : News h₀ L h' ((d, o) :: news) := by
  intro p hp
  rcases List.mem_cons.mp hp with rfl | hp
  · refine ⟨hd, fun e => ?_, ?_⟩
    · obtain ⟨oL, es, ep, hL, r⟩ := F.ns
      have e' : d = L := e
      rw [← e', hn] at hL; cases hL
    · cases q : h₀.get? d with
      | none => rfl
      | some o' => have := F.keep _ _ q; rw [hn] at this; cases this
  · exact N p hp

theorem ct_list {w : World} {d : Nat} {f : Addr} {vs : List Value} {Pre : Heap → Prop} {ns : List Int} (C : CT w d f vs Pre (RetL ns))
    {pp : Program} {lo : List Str} {mean : ExcName → Option Value} {mg mb : Str → Option Value} {dp un : Nat} {gd : Option (List Code)} {cn : Str} {cs : Scope} {a : Addr} {ccd : Value} {cl : List (Str × Addr)} {outer : List Env} {A₀ : Around} {base h₀ : Heap} {L : Addr} {m : Str → Option Value} {s : Shared}
    {Q E : Value → Shared → Prop} {news : List (Addr × Obj)} (B : Below A₀ base outer h₀) (F : Fr h₀ L s.heap m) (X : (hd.heap_39 w.params).In h₀) (T : Top pp lo mean mg mb h₀) (hk : cs.kind = .function) (N : News h₀ L s.heap news)
    (hp : Pre s.heap) (hd : dp + d < recursionLimit) (hu : un + 8 * d < cLine)
    (ret : ∀ l us c h' tk', Fr h₀ L h' m → News h₀ L h' ((l, listOf (List.toArray us) c) :: news) → AllNe l news → IntsAre us ns → Q (.ref l) { s with heap := h', toks := tk' }) :
    wpAny (model PySem.Challenge.rw_rr0055_01.row.prog w) (ktrTop dp un gd cn cs L a ccd cl outer) (call (.ref f) vs) Q E s := by
  refine C _ _ _ _ _ _ _ _ _ _ _ _ _ _ _ _ _ _ _ _ _ _ B F X T hk hp hd hu ?_
  rintro r h' tk' st ⟨l, us, c, rfl, hn, hl, hi⟩
  exact ret l us c h' tk' (fr_stays F st) (news_more F hn hl (news_stays N st)) (allNe_of (h' := h') hn N) hi

theorem retL_of {h₀ h' : Heap} {L D : Addr} {m : Str → Option Value} {news : List (Addr × Obj)} {s : Shared} {Q : Value → Shared → Prop} {ns ms : List Int} {ws : List Value} {c tk : Nat}
    (hret : ∀ r h' tk', h₀.StaysIn h' → RetL ns h₀ r h' → Q r { s with heap := h', toks := tk' }) (F : Fr h₀ L h' m) (N : News h₀ L h' news) (hm : (D, listOf (List.toArray ws) c) ∈ news) (hi : IntsAre ws ms) (e : ms = ns) :
    Q (.ref D) { s with heap := h', toks := tk } := by
  subst e
  exact hret _ _ _ F.keep ⟨_, _, _, rfl, (N _ hm).2.2, (N _ hm).1, hi⟩
def RetV (v : Tok → Value) (_h : Heap) (r : Value) (_h' : Heap) : Prop := ∃ t, r = v t
theorem retV_of {h₀ h' : Heap} {L : Addr} {m : Str → Option Value} {s : Shared} {Q : Value → Shared → Prop} {v : Tok → Value} {tk : Nat} (t : Tok) {r : Value}
    (hret : ∀ r h' tk', h₀.StaysIn h' → RetV v h₀ r h' → Q r { s with heap := h', toks := tk' }) (F : Fr h₀ L h' m) (e : r = v t) :
    Q r { s with heap := h', toks := tk } := by
  subst e
  exact hret _ _ _ F.keep ⟨_, rfl⟩

theorem ct_val {w : World} {d : Nat} {f : Addr} {vs : List Value} {Pre : Heap → Prop} {v : Tok → Value} (C : CT w d f vs Pre (RetV v))
    {pp : Program} {lo : List Str} {mean : ExcName → Option Value} {mg mb : Str → Option Value} {dp un : Nat} {gd : Option (List Code)} {cn : Str} {cs : Scope} {a : Addr} {ccd : Value} {cl : List (Str × Addr)} {outer : List Env} {A₀ : Around} {base h₀ : Heap} {L : Addr} {m : Str → Option Value} {s : Shared}
    {Q E : Value → Shared → Prop} {news : List (Addr × Obj)} (B : Below A₀ base outer h₀) (F : Fr h₀ L s.heap m) (X : (hd.heap_39 w.params).In h₀) (T : Top pp lo mean mg mb h₀) (hk : cs.kind = .function) (N : News h₀ L s.heap news)
    (hp : Pre s.heap) (hd : dp + d < recursionLimit) (hu : un + 8 * d < cLine)
    (ret : ∀ t h' tk', Fr h₀ L h' m → News h₀ L h' news → Q (v t) { s with heap := h', toks := tk' }) :
    wpAny (model PySem.Challenge.rw_rr0055_01.row.prog w) (ktrTop dp un gd cn cs L a ccd cl outer) (call (.ref f) vs) Q E s := by
  refine C _ _ _ _ _ _ _ _ _ _ _ _ _ _ _ _ _ _ _ _ _ _ B F X T hk hp hd hu ?_
  rintro r h' tk' st ⟨t, rfl⟩
  exact ret t h' tk' (fr_stays F st) (news_stays N st)
end
section
section
variable {prog : Program} {w : World} {A : Around} {E : Value → Shared → Prop} {s : Shared} {env : Env} {h₀ : Heap} {xi xc : Str} {body : List Stmt} {Q : Flow → Shared → Prop}
/-- a loop over enumerate of a list of ints, by an invariant over its whole state -/
theorem kst_enum {σ : Type} {e : Addr} {ns : List Int} {m₀ : Str → Option Value} (Led : σ → List (Addr × Obj)) (ps : σ → List (Str × Value)) (Facts : σ → Prop) (stored : List Str) (P : List Int → σ → Prop) (c₀ : σ)
    (S : PairSrc prog w A E h₀ env ItemKind.int ns (.ref e) s m₀ (Led c₀)) (hf : Facts c₀) (hk : ∀ p ∈ ps c₀, m₀ p.1 = some p.2) (hp : P [] c₀)
    (turn : ∀ (c : σ) pre post n ti t (u : Str → Option Value) h tk own, ns = pre ++ n :: post → OwnOff own ((Led c₀).map (·.1)) → Facts c → P pre c →
      Fr h₀ env.locals h (fun y => if y = xc then some (.int n t) else if y = xi then some (.int (pre.length : Nat) ti) else kstB (fun z => if stored.contains z then u z else m₀ z) (ps c) y) → News h₀ env.locals h (Led c ++ own) →
      wpAny (model prog w) A (execs body env) (InvPostN h₀ env.locals (KstS Led ps Facts xc stored m₀ P (pre ++ [n])) own ((Led c₀).map (·.1)) { s with heap := h, toks := tk } Q) E { s with heap := h, toks := tk })
    (done : ∀ (c : σ) (u : Str → Option Value) h tk, Facts c → P ns c → Fr h₀ env.locals h (fun y => if y = xc then u y else kstB (fun z => if stored.contains z then u z else m₀ z) (ps c) y) → News h₀ env.locals h (Led c) → Q .next { s with heap := h, toks := tk }) :
    wpAny (model prog w) A (pyIter (.ref e)) (fun it s₂ => PairAt3 prog w A h₀ env xi xc body Q E it s₂) E s := by
  refine S xi xc body Q (fun i m nx => KstS Led ps Facts xc stored m₀ P (ns.take i) m nx) ⟨c₀, rfl, hf, hk, fun _ _ _ _ => rfl, by simpa using hp⟩ ?_ ?_
  · rintro i n t v m₁ news₁ s₁ own ⟨h, tk, rfl⟩ hn hv ⟨c, rfl, hf', h1, h2, hp'⟩ hadr hoff F₁ N₁
    obtain ⟨tn, rfl⟩ := ItemKind.int_is hv
    have hs : ns.take (i + 1) = ns.take i ++ [n] := by simp [List.take_add_one, hn]
    have e : ns = ns.take i ++ n :: ns.drop (i + 1) := by
      have ht := List.take_append_drop (i + 1) ns
      rw [hs, List.append_assoc] at ht
      exact ht.symm
    have hlt : i < ns.length := (List.getElem?_eq_some_iff.mp hn).1
    have hlen : (ns.take i).length = i := by rw [List.length_take]; omega
    have hoff' : OwnOff own ((Led c₀).map (·.1)) := fun p hp b hb => by
      obtain ⟨q, hq, rfl⟩ := List.mem_map.mp hb
      exact hoff p hp q hq
    have em : (fun y => if y = xc then some (Value.int n tn) else if y = xi then some (Value.int ((i : Nat) : Int) t) else kstB (fun z => if stored.contains z then m₁ z else m₀ z) (ps c) y) = fun y => if y = xc then some (Value.int n tn) else if y = xi then some (Value.int ((i : Nat) : Int) t) else m₁ y := by
      funext y
      by_cases hy : y = xc
      · rw [if_pos hy, if_pos hy]
      · rw [if_neg hy, if_neg hy, kst_off h1 h2 hy]
    have F₂ : Fr h₀ env.locals h (fun y => if y = xc then some (.int n tn) else if y = xi then some (.int ((ns.take i).length : Nat) t) else kstB (fun z => if stored.contains z then m₁ z else m₀ z) (ps c) y) := by
      rw [hlen, em]; exact F₁
    rw [hs]
    refine wpAny_mono (turn c _ _ n t tn m₁ h tk own e hoff' hf' hp' F₂ (fun p hp => N₁ p ((List.mem_append.mp hp).elim (fun q => List.mem_append.mpr (.inr q)) fun q => List.mem_append.mpr (.inl q)))) (fun f s₂ p => ?_) fun _ _ x => x
    have up : InvEndN h₀ env.locals (KstS Led ps Facts xc stored m₀ P (ns.take i ++ [n])) own ((Led c₀).map (·.1)) { s with heap := h, toks := tk } s₂ →
        LoopStep2 h₀ env.locals own (Led c) (fun m nx => KstS Led ps Facts xc stored m₀ P (ns.take i ++ [n]) m nx) { s with heap := h, toks := tk } .next s₂ := by
      rintro ⟨h', tk', m', news', nx', e', F', N', hn', ho', ha, hS⟩
      refine ⟨rfl, h', tk', m', nx', e', F', fun p hp => N' p ((List.mem_append.mp hp).elim (ho' p) (hn' p)), ?_, hS⟩
      rw [ha]; exact hadr.symm
    cases f with
    | ret v => exact p
    | brk => exact p
    | next => exact up p
    | cont => exact up p
  · rintro h' tk m' news' F' N' ha ⟨c, rfl, hf', h1, h2, hp'⟩
    rw [List.take_length] at hp'
    exact done c m' h' tk hf' hp' (kst_frOut h1 h2 F') N'

/-- .. its state one list of ints of the ledger -/
theorem enum_outer {e : Addr} {ns : List Int} {m₀ : Str → Option Value} (pre post : List (Addr × Obj)) {D : Addr} {us₀ : List Value} {ms₀ : List Int} {n₀ : Nat} (stored : List Str) (P : List Int → List Int → Prop)
    (S : PairSrc prog w A E h₀ env ItemKind.int ns (.ref e) s m₀ (pre ++ (D, listOf (List.toArray us₀) n₀) :: post)) (hi : IntsAre us₀ ms₀) (hp : P [] ms₀)
    (turn : ∀ us ms nn pr po n ti t (u : Str → Option Value) h tk own, ns = pr ++ n :: po → OwnOff own ((pre ++ (D, listOf (List.toArray us₀) n₀) :: post).map (·.1)) → IntsAre us ms → P pr ms →
      Fr h₀ env.locals h (fun y => if y = xc then some (.int n t) else if y = xi then some (.int (pr.length : Nat) ti) else if stored.contains y then u y else m₀ y) → News h₀ env.locals h ((pre ++ (D, listOf (List.toArray us) nn) :: post) ++ own) →
      wpAny (model prog w) A (execs body env) (InvPostN h₀ env.locals (KstS (fun (c : List Value × List Int × Nat) => pre ++ (D, listOf (List.toArray c.1) c.2.2) :: post) (fun _ => []) (fun c => IntsAre c.1 c.2.1) xc stored m₀ (fun pr c => P pr c.2.1) (pr ++ [n])) own ((pre ++ (D, listOf (List.toArray us₀) n₀) :: post).map (·.1)) { s with heap := h, toks := tk } Q) E { s with heap := h, toks := tk })
    (done : ∀ us ms nn (u : Str → Option Value) h tk, IntsAre us ms → P ns ms → Fr h₀ env.locals h (fun y => if y = xc then u y else if stored.contains y then u y else m₀ y) → News h₀ env.locals h (pre ++ (D, listOf (List.toArray us) nn) :: post) → Q .next { s with heap := h, toks := tk }) :
    wpAny (model prog w) A (pyIter (.ref e)) (fun it s₂ => PairAt3 prog w A h₀ env xi xc body Q E it s₂) E s :=
  kst_enum (fun (c : List Value × List Int × Nat) => pre ++ (D, listOf (List.toArray c.1) c.2.2) :: post) (fun _ => []) (fun c => IntsAre c.1 c.2.1) stored (fun pr c => P pr c.2.1) (us₀, ms₀, n₀) S hi (fun _ hp => nomatch hp) hp
    (fun ⟨us, ms, nn⟩ pr po n ti t u h tk own h1 h2 h3 h4 h5 h6 => turn us ms nn pr po n ti t u h tk own h1 h2 h3 h4 h5 h6) (fun ⟨us, ms, nn⟩ u h tk h1 h2 h3 h4 => done us ms nn u h tk h1 h2 h3 h4)
/-- .. its state one int of the frame's and one list of ints of the ledger -/
theorem enum_inner {e : Addr} {ns : List Int} {m₀ : Str → Option Value} (y : Str) (pre post : List (Addr × Obj)) {D : Addr} {us₀ : List Value} {ms₀ : List Int} {n₀ : Nat} {c₀ : Int} {t₀ : Tok} (stored : List Str) (P : List Int → Int → List Int → Prop)
    (S : PairSrc prog w A E h₀ env ItemKind.int ns (.ref e) s m₀ (pre ++ (D, listOf (List.toArray us₀) n₀) :: post)) (hy : m₀ y = some (.int c₀ t₀)) (hi : IntsAre us₀ ms₀) (hp : P [] c₀ ms₀)
    (turn : ∀ c tc us ms nn pr po n ti t (u : Str → Option Value) h tk own, ns = pr ++ n :: po → OwnOff own ((pre ++ (D, listOf (List.toArray us₀) n₀) :: post).map (·.1)) → IntsAre us ms → P pr c ms →
      Fr h₀ env.locals h (fun z => if z = xc then some (.int n t) else if z = xi then some (.int (pr.length : Nat) ti) else if z = y then some (.int c tc) else if stored.contains z then u z else m₀ z) → News h₀ env.locals h ((pre ++ (D, listOf (List.toArray us) nn) :: post) ++ own) →
      wpAny (model prog w) A (execs body env) (InvPostN h₀ env.locals (KstS (fun (c : Int × Tok × List Value × List Int × Nat) => pre ++ (D, listOf (List.toArray c.2.2.1) c.2.2.2.2) :: post) (fun c => [(y, .int c.1 c.2.1)]) (fun c => IntsAre c.2.2.1 c.2.2.2.1) xc stored m₀ (fun pr c => P pr c.1 c.2.2.2.1) (pr ++ [n])) own ((pre ++ (D, listOf (List.toArray us₀) n₀) :: post).map (·.1)) { s with heap := h, toks := tk } Q) E { s with heap := h, toks := tk })
    (done : ∀ c tc us ms nn (u : Str → Option Value) h tk, IntsAre us ms → P ns c ms → Fr h₀ env.locals h (fun z => if z = xc then u z else if z = y then some (.int c tc) else if stored.contains z then u z else m₀ z) → News h₀ env.locals h (pre ++ (D, listOf (List.toArray us) nn) :: post) → Q .next { s with heap := h, toks := tk }) :
    wpAny (model prog w) A (pyIter (.ref e)) (fun it s₂ => PairAt3 prog w A h₀ env xi xc body Q E it s₂) E s :=
  kst_enum (fun (c : Int × Tok × List Value × List Int × Nat) => pre ++ (D, listOf (List.toArray c.2.2.1) c.2.2.2.2) :: post) (fun c => [(y, .int c.1 c.2.1)]) (fun c => IntsAre c.2.2.1 c.2.2.2.1) stored (fun pr c => P pr c.1 c.2.2.2.1) (c₀, t₀, us₀, ms₀, n₀) S hi
    (fun p hp => by rw [List.mem_singleton.mp hp]; exact hy) hp
    (fun ⟨c, tc, us, ms, nn⟩ pr po n ti t u h tk own h1 h2 h3 h4 h5 h6 => turn c tc us ms nn pr po n ti t u h tk own h1 h2 h3 h4 h5 h6) (fun ⟨c, tc, us, ms, nn⟩ u h tk h1 h2 h3 h4 => done c tc us ms nn u h tk h1 h2 h3 h4)
end
end
local macro_rules | `(tactic| walk_at $s:str) => do let t := Lean.Syntax.mkStrLit ("m " ++ s.getString); `(tactic| k_extra $t)
local macro_rules | `(tactic| wrow_close) => `(tactic| k_extra "m close")
section
theorem c_normal (w : World) (l : Addr) (vs : List Value) (ns : List Int) (hi : IntsAre vs ns) (hb : ns.length < 4096) :
    CT w 1 46 [.ref l] (fun h => h.IsList l (List.toArray vs)) (RetL (trim ns)) := by
  unfold CT
  w_top off
  k_with_none
  (k_with "m mine enter" => ((case kA => exact rfl); (case kF => exact rfl); (case kK => assumption); (case k1 => k_asm); (case k2 => k_asm); (case k3 => k_asm); (case k5 => k_asm); (case k6 => k_is); (case k7 => k_is); (case k8 => ktr_room); (case k9 => exact BindsTo.of_eq rfl); (case c5 => decide); (case kB => exact locs rfl); (case c2 => exact rfl); (case c3 => exact rfl); (case c4 => exact rfl); k_whole; intro L' h' F' N' B' X' T'; (try dsimp only); (try k_fold)))
  (k_with "m close" => ((rename News _ _ _ _ => nE'); (try simp only [List.push_toArray] at nE'); refine' retL_of ?h_z9 ?F_z9 ?N_z9 ?m_z9 ?i_z9 ?e_z9; (case h_z9 => assumption); (case N_z9 => exact nE'); (case F_z9 => assumption); (case m_z9 => k_mem); (case i_z9 => first | with_reducible assumption | exact IntsAre.cons _ _ IntsAre.nil | k_intsEnd); (case e_z9 => k_extra "ret")))
  (k_with "m close" => (refine' retV_of _ ?h_z9 ?F_z9 ?e_z9; (case h_z9 => assumption); (case F_z9 => assumption); (case e_z9 => first | rfl | k_extra "ret")))
  (k_with "m exec" => ((with_reducible show wpAny _ _ (exec (PySem.Stmt.While _ _ _ _) _) _ _ _); k_extra "mine while"))
  k_fill
  intro pp lo mean mg mb dp un gd cn cs a ccd cl outer A₀ base h₀ L m s Q E B F X T hk hP hd hu hret
  refine wpAny_call ?_
  k_dflt (refine' enter0 (binds := [(Str.ofString "a", .ref l)]) ?k1 ?k2 ?k3 ?k5 ?kA ?kF ?kK ?k6 ?k7 ?k8 ?k9 ?kB ?_ ?c2 ?c3 ?c4 ?c5; walk_at "mine enter")
  (k_with "exec While BoolOp cons nil" => k_while (fun script e => 0 ≤ e ∧ e ≤ (ns.length : Int) ∧ trim (ns.take e.toNat) = trim ns) (fun script e => e.toNat) "end")
  (k_with "state" => first | exact ⟨by omega, by omega, normal_step (by assumption) (by assumption) (by assumption) (by assumption)⟩ | exact ⟨by omega, by omega, by simp⟩)
  (k_with "ret" => first | exact normal_done (by assumption) (by assumption) (by assumption) (by assumption) | exact normal_none (by omega) (by assumption))
  k_steps

end
section
theorem c_compare (w : World) (B₁ : Int) (la lb : Addr) (va vb : List Value) (na nb : List Int) (hia : IntsAre va na) (hib : IntsAre vb nb) (hB : 2 ≤ B₁) (ca : Can B₁ na) (cb : Can B₁ nb) (hla : na.length ≤ cap) (hlb : nb.length ≤ cap) :
    CT w 1 60 [.ref la, .ref lb] (fun h => h.IsList la (List.toArray va) ∧ h.IsList lb (List.toArray vb)) (RetV (fun t => .int (cmpI (val B₁ na) (val B₁ nb)) t)) := by
  unfold CT
  w_top off
  k_with_none
  (k_with "m mine enter" => ((case kA => exact rfl); (case kF => exact rfl); (case kK => assumption); (case k1 => k_asm); (case k2 => k_asm); (case k3 => k_asm); (case k5 => k_asm); (case k6 => k_is); (case k7 => k_is); (case k8 => ktr_room); (case k9 => exact BindsTo.of_eq rfl); (case c5 => decide); (case kB => exact locs rfl); (case c2 => exact rfl); (case c3 => exact rfl); (case c4 => exact rfl); k_whole; intro L' h' F' N' B' X' T'; (try dsimp only); (try k_fold)))
  (k_with "m close" => ((rename News _ _ _ _ => nE'); (try simp only [List.push_toArray] at nE'); refine' retL_of ?h_z9 ?F_z9 ?N_z9 ?m_z9 ?i_z9 ?e_z9; (case h_z9 => assumption); (case N_z9 => exact nE'); (case F_z9 => assumption); (case m_z9 => k_mem); (case i_z9 => first | with_reducible assumption | exact IntsAre.cons _ _ IntsAre.nil | k_intsEnd); (case e_z9 => k_extra "ret")))
  (k_with "m close" => (refine' retV_of _ ?h_z9 ?F_z9 ?e_z9; (case h_z9 => assumption); (case F_z9 => assumption); (case e_z9 => first | rfl | k_extra "ret")))
  (k_with "m exec" => ((with_reducible show wpAny _ _ (exec (PySem.Stmt.While _ _ _ _) _) _ _ _); k_extra "mine while"))
  (k_with "m InvEndN" => ((rename News _ _ _ _ => nE'); (refine kst_end () (by assumption) nE' (by first | kst_in | kst_inAny) (by first | (intro p hp; kst_mem) | kst_anyIn) (by rfl) True.intro (by kst_all) (by kst_same) (by kst_p))))
  k_fill
  intro pp lo mean mg mb dp un gd cn cs a ccd cl outer A₀ base h₀ L m s Q E B F X T hk hP hd hu hret
  obtain ⟨hPa, hPb⟩ := hP
  have hcap := cap_lt
  refine wpAny_call ?_
  k_dflt (refine' enter0 (binds := [(Str.ofString "a", .ref la), (Str.ofString "b", .ref lb)]) ?k1 ?k2 ?k3 ?k5 ?kA ?kF ?kK ?k6 ?k7 ?k8 ?k9 ?kB ?_ ?c2 ?c3 ?c4 ?c5; walk_at "mine enter")
  (k_with "pyIter ref" =>
    first
    | ((rename Fr _ _ _ _ => lF'); (rename News _ _ _ _ => lN'); (rename IsRange _ _ _ _ _ _ _ _ => rgX); (with_unfolding_all refine' kst_rangeD (fun (_ : Unit) => []) (fun _ => []) (fun _ => True) [] (fun pre _ => Same na nb pre.length) () (by rfl) rgX (small_down (by omega) (by omega) (by omega) (by omega)) (rangeSize_downNat _ _) lF' lN' True.intro (fun _ hp => nomatch hp) (same_start na nb) (fun c pre k t u h' tk own hk hlt hoff hf hP F' N' => ?_) (fun c u h' tk hf hP F' N' => ?_)); (all_goals (try clear lF' lN')); (all_goals (have kMark := kstMark)); (all_goals (try dsimp only [kstB] at F')); (all_goals (try dsimp only at N')); (all_goals (try simp only [List.nil_append, List.cons_append, List.append_nil] at N')); (all_goals (try k_fold)))
    | fail)
  (k_with "state" => first | (simp only [List.length_append, List.length_cons, List.length_nil]; exact same_step (by omega) (by with_reducible assumption) (by omega) (by with_reducible assumption) (by with_reducible assumption)) | fail)
  (k_with "ret" =>
    first
    | exact congrArg (fun z => Value.int z _) (cmp_short hB ca cb (by omega)).symm
    | exact congrArg (fun z => Value.int z _) (cmp_long hB ca cb (by omega)).symm
    | exact congrArg (fun z => Value.int z _) (cmp_lt' hB ca cb (by omega) (by with_reducible assumption) (by omega) (by with_reducible assumption) (by omega)).symm
    | exact congrArg (fun z => Value.int z _) (cmp_gt' hB ca cb (by omega) (by with_reducible assumption) (by omega) (by with_reducible assumption) (by omega)).symm
    | exact congrArg (fun z => Value.int z _) (cmp_eq' (B := B₁) (by with_reducible assumption) (by omega) (by rw [downKs_length]; omega)).symm
    | fail)
  k_steps

end
section
theorem c_nat_of (w : World) (n wv : Int) (tn tw : Tok) (h0 : 0 ≤ n) (hn : Small n) (hw : 2 ≤ wv) (hw2 : wv ≤ 9) :
    CT w 1 53 [.int n tn, .int wv tw] (fun _ => True) (RetL (row (2 ^ wv.toNat) n)) := by
  unfold CT
  w_top off
  k_with_none
  (k_with "m mine enter" => ((case kA => exact rfl); (case kF => exact rfl); (case kK => assumption); (case k1 => k_asm); (case k2 => k_asm); (case k3 => k_asm); (case k5 => k_asm); (case k6 => k_is); (case k7 => k_is); (case k8 => ktr_room); (case k9 => exact BindsTo.of_eq rfl); (case c5 => decide); (case kB => exact locs rfl); (case c2 => exact rfl); (case c3 => exact rfl); (case c4 => exact rfl); k_whole; intro L' h' F' N' B' X' T'; (try dsimp only); (try k_fold)))
  (k_with "m close" => ((rename News _ _ _ _ => nE'); (try simp only [List.push_toArray] at nE'); refine' retL_of ?h_z9 ?F_z9 ?N_z9 ?m_z9 ?i_z9 ?e_z9; (case h_z9 => assumption); (case N_z9 => exact nE'); (case F_z9 => assumption); (case m_z9 => k_mem); (case i_z9 => first | with_reducible assumption | exact IntsAre.cons _ _ IntsAre.nil | k_intsEnd); (case e_z9 => k_extra "ret")))
  (k_with "m close" => (refine' retV_of _ ?h_z9 ?F_z9 ?e_z9; (case h_z9 => assumption); (case F_z9 => assumption); (case e_z9 => first | rfl | k_extra "ret")))
  (k_with "m exec" => ((with_reducible show wpAny _ _ (exec (PySem.Stmt.While _ _ _ _) _) _ _ _); k_extra "mine while"))
  k_fill
  intro pp lo mean mg mb dp un gd cn cs a ccd cl outer A₀ base h₀ L m s Q E B F X T hk hP hd hu hret
  have hnil := IntsAre.nil
  have hcap := cap_lt
  have hB := two_le (w := wv) (by omega)
  refine wpAny_call ?_
  k_dflt (refine' enter0 (binds := [(Str.ofString "number", .int n tn), (Str.ofString "w", .int wv tw)]) ?k1 ?k2 ?k3 ?k5 ?kA ?kF ?kK ?k6 ?k7 ?k8 ?k9 ?kB ?_ ?c2 ?c3 ?c4 ?c5; walk_at "mine enter")
  (k_with "exec While Compare cons nil" => k_while (fun script k f => 0 ≤ k ∧ f ++ row (2 ^ wv.toNat) k = row (2 ^ wv.toNat) n ∧ f.length ≤ cap) (fun script k f => k.toNat) "number" "found")
  (k_with "state" => first | exact ⟨h0, by simp, by simp⟩ | ((try simp only [Int.one_mul, kbt_mask, fdB, fmB]); exact nat_step (by with_reducible assumption) (by with_reducible assumption) (by with_reducible assumption) (by with_reducible assumption)) | fail)
  (k_with "measure" => first | ((try simp only [Int.one_mul, kbt_mask, fdB, fmB]); exact nat_less (by with_reducible assumption) (by with_reducible assumption)) | fail)
  (k_with "ret" => first | exact nat_done (by with_reducible assumption) (by with_reducible assumption) | fail)
  k_steps
end
section
theorem c_add (w : World) (wv : Int) (la lb : Addr) (tw : Tok) (va vb : List Value) (na nb : List Int) (hia : IntsAre va na) (hib : IntsAre vb nb) (hw : 2 ≤ wv) (hw2 : wv ≤ 9) (ca : Can (2 ^ wv.toNat) na) (cb : Can (2 ^ wv.toNat) nb) (hla : na.length ≤ cap) (hlb : nb.length ≤ cap) :
    CT w 1 67 [.ref la, .ref lb, .int wv tw] (fun h => h.IsList la (List.toArray va) ∧ h.IsList lb (List.toArray vb)) (RetL (row (2 ^ wv.toNat) (val (2 ^ wv.toNat) na + val (2 ^ wv.toNat) nb))) := by
  unfold CT
  w_top off
  k_with_none
  (k_with "m mine enter" => ((case kA => exact rfl); (case kF => exact rfl); (case kK => assumption); (case k1 => k_asm); (case k2 => k_asm); (case k3 => k_asm); (case k5 => k_asm); (case k6 => k_is); (case k7 => k_is); (case k8 => ktr_room); (case k9 => exact BindsTo.of_eq rfl); (case c5 => decide); (case kB => exact locs rfl); (case c2 => exact rfl); (case c3 => exact rfl); (case c4 => exact rfl); k_whole; intro L' h' F' N' B' X' T'; (try dsimp only); (try k_fold)))
  (k_with "m close" => ((rename News _ _ _ _ => nE'); (try simp only [List.push_toArray] at nE'); refine' retL_of ?h_z9 ?F_z9 ?N_z9 ?m_z9 ?i_z9 ?e_z9; (case h_z9 => assumption); (case N_z9 => exact nE'); (case F_z9 => assumption); (case m_z9 => k_mem); (case i_z9 => first | with_reducible assumption | exact IntsAre.cons _ _ IntsAre.nil | k_intsEnd); (case e_z9 => k_extra "ret")))
  (k_with "m close" => (refine' retV_of _ ?h_z9 ?F_z9 ?e_z9; (case h_z9 => assumption); (case F_z9 => assumption); (case e_z9 => first | rfl | k_extra "ret")))
  (k_with "m exec" => ((with_reducible show wpAny _ _ (exec (PySem.Stmt.While _ _ _ _) _) _ _ _); k_extra "mine while"))
  k_fill
  intro pp lo mean mg mb dp un gd cn cs a ccd cl outer A₀ base h₀ L m s Q E B F X T hk hP hd hu hret
  obtain ⟨hPa, hPb⟩ := hP
  have hcap := cap_lt
  have hB := two_le (w := wv) (by omega)
  have hnil := IntsAre.nil
  refine wpAny_call ?_
  k_dflt (refine' enter0 (binds := [(Str.ofString "a", .ref la), (Str.ofString "b", .ref lb), (Str.ofString "w", .int wv tw)]) ?k1 ?k2 ?k3 ?k5 ?kA ?kF ?kK ?k6 ?k7 ?k8 ?k9 ?kB ?_ ?c2 ?c3 ?c4 ?c5; walk_at "mine enter")
  (k_with "pyIter ref" =>
    first
    | ((have hab9 : nb.length ≤ na.length := by omega); first | ((with_reducible rename Carry _ _ _ _ _ => c9); k_state (fun pre c f => nb.length ≤ na.length ∧ f.length = nb.length + pre.length ∧ Carry (2 ^ wv.toNat) f c (nb.length + pre.length) (val (2 ^ wv.toNat) (na.take (nb.length + pre.length)) + val (2 ^ wv.toNat) nb)) "carry" "found") | k_state (fun pre c f => nb.length ≤ na.length ∧ f.length = pre.length ∧ Carry (2 ^ wv.toNat) f c pre.length (val (2 ^ wv.toNat) (na.take pre.length) + val (2 ^ wv.toNat) (nb.take pre.length))) "carry" "found")
    | ((have hab9 : na.length ≤ nb.length := by omega); first | ((with_reducible rename Carry _ _ _ _ _ => c9); k_state (fun pre c f => na.length ≤ nb.length ∧ f.length = na.length + pre.length ∧ Carry (2 ^ wv.toNat) f c (na.length + pre.length) (val (2 ^ wv.toNat) (nb.take (na.length + pre.length)) + val (2 ^ wv.toNat) na)) "carry" "found") | k_state (fun pre c f => na.length ≤ nb.length ∧ f.length = pre.length ∧ Carry (2 ^ wv.toNat) f c pre.length (val (2 ^ wv.toNat) (nb.take pre.length) + val (2 ^ wv.toNat) (na.take pre.length))) "carry" "found"))
  (k_with "state" =>
    first
    | exact ⟨by omega, rfl, carry_start⟩
    | exact ⟨by omega, by simp [rangeKs_length] at *; omega, add_mid (by with_reducible assumption) (by rw [rangeKs_length]; omega)⟩
    | (simp only [List.length_append, List.length_cons, List.length_nil, Int.one_mul, kbt_mask, kbt_maskF, fdB, fmB];
       first
       | exact ⟨by omega, by omega, add_step1 hB ca.lim cb.lim (by with_reducible assumption) (by with_reducible assumption)⟩
       | exact ⟨by omega, by omega, add_step1 hB cb.lim ca.lim (by with_reducible assumption) (by with_reducible assumption)⟩
       | exact ⟨by omega, by omega, add_step2 hB ca.lim (by with_reducible assumption) (by with_reducible assumption)⟩
       | exact ⟨by omega, by omega, add_step2 hB cb.lim (by with_reducible assumption) (by with_reducible assumption)⟩
       | fail)
    | fail)
  (k_with "ret" =>
    first
    | exact add_some hB (by with_reducible assumption) (by rw [rangeKs_length]; omega) (by with_reducible assumption)
    | exact (add_some hB (by with_reducible assumption) (by rw [rangeKs_length]; omega) (by with_reducible assumption)).trans (by rw [Int.add_comm])
    | exact add_none hB (by with_reducible assumption) (by rw [rangeKs_length]; omega) (by with_reducible assumption) (Can.lim (by with_reducible assumption)) (by with_reducible assumption)
    | exact (add_none hB (by with_reducible assumption) (by rw [rangeKs_length]; omega) (by with_reducible assumption) (Can.lim (by with_reducible assumption)) (by with_reducible assumption)).trans (by rw [Int.add_comm])
    | fail)
  k_steps

end
section
theorem c_mul (w : World) (wv : Int) (la lb : Addr) (tw : Tok) (va vb : List Value) (na nb : List Int) (hia : IntsAre va na) (hib : IntsAre vb nb) (hw : 2 ≤ wv) (hw2 : wv ≤ 9) (ca : Lim (2 ^ wv.toNat) na) (cb : Lim (2 ^ wv.toNat) nb) (hla : na.length + nb.length ≤ cap) :
    CT w 2 203 [.ref la, .ref lb, .int wv tw] (fun h => h.IsList la (List.toArray va) ∧ h.IsList lb (List.toArray vb)) (RetL (row (2 ^ wv.toNat) (val (2 ^ wv.toNat) na * val (2 ^ wv.toNat) nb))) := by
  unfold CT
  w_top off
  k_with_none
  (k_with "m mine enter" => ((case kA => exact rfl); (case kF => exact rfl); (case kK => assumption); (case k1 => k_asm); (case k2 => k_asm); (case k3 => k_asm); (case k5 => k_asm); (case k6 => k_is); (case k7 => k_is); (case k8 => ktr_room); (case k9 => exact BindsTo.of_eq rfl); (case c5 => decide); (case kB => exact locs rfl); (case c2 => exact rfl); (case c3 => exact rfl); (case c4 => exact rfl); k_whole; intro L' h' F' N' B' X' T'; (try dsimp only); (try k_fold)))
  (k_with "m close" => ((rename News _ _ _ _ => nE'); (try simp only [List.push_toArray] at nE'); refine' retL_of ?h_z9 ?F_z9 ?N_z9 ?m_z9 ?i_z9 ?e_z9; (case h_z9 => assumption); (case N_z9 => exact nE'); (case F_z9 => assumption); (case m_z9 => k_mem); (case i_z9 => first | with_reducible assumption | exact IntsAre.cons _ _ IntsAre.nil | k_intsEnd); (case e_z9 => k_extra "ret")))
  (k_with "m close" => (refine' retV_of _ ?h_z9 ?F_z9 ?e_z9; (case h_z9 => assumption); (case F_z9 => assumption); (case e_z9 => first | rfl | k_extra "ret")))
  (k_with "m exec" => ((with_reducible show wpAny _ _ (exec (PySem.Stmt.While _ _ _ _) _) _ _ _); k_extra "mine while"))
  (k_with "m call ref" => (k_here; (with_reducible show wpAny _ _ (call (Value.ref 46) _) _ _ _); k_dflt (refine' ct_list (c_normal _ _ _ _ ?ia_z9 ?la_z9) ?B_z9 ?F_z9 ?X_z9 ?T_z9 ?k_z9 ?N_z9 ?p_z9 ?d_z9 ?u_z9 ?_; (case B_z9 => k_asm); (case F_z9 => k_asm); (case X_z9 => k_asm); (case T_z9 => k_asm); (case k_z9 => first | exact rfl | assumption); (case N_z9 => k_asm); (case p_z9 => kmk_list); (case ia_z9 => l_ints); (case la_z9 => first | omega | (simp only [rangeKs_length] at *; omega)); (case d_z9 => ktr_room); (case u_z9 => ktr_units)); intro l9 us9 c9 h9 tk9 F9 N9 ne9 I9; (try dsimp only); (try k_fold)))
  k_fill
  intro pp lo mean mg mb dp un gd cn cs a ccd cl outer A₀ base h₀ L m s Q E B F X T hk hP hd hu hret
  obtain ⟨hPa, hPb⟩ := hP
  have hcap := cap_lt
  have hB := two_le (w := wv) (by omega)
  have hB9 := pow_512 hw2
  have hnil := IntsAre.nil
  refine wpAny_call ?_
  k_dflt (refine' enter0 (binds := [(Str.ofString "a", .ref la), (Str.ofString "b", .ref lb), (Str.ofString "w", .int wv tw)]) ?k1 ?k2 ?k3 ?k5 ?kA ?kF ?kK ?k6 ?k7 ?k8 ?k9 ?kB ?_ ?c2 ?c3 ?c4 ?c5; walk_at "mine enter")
  (k_with "pyIter ref" =>
    first
    | ((rename PairSrcL _ _ _ _ _ _ _ _ _ _ _ _ => pS); (with_unfolding_all refine' enum_outer [_] _ [Str.ofString "at", Str.ofString "carry", Str.ofString "spot", Str.ofString "other"] (fun pr ms => ms.length = na.length + nb.length ∧ MulO (2 ^ wv.toNat) ms na nb pr.length) (PairSrcL.at pS _ rfl) ?hi ?hp (fun us ms nn pr po n ti t u h' tk own hsp hoff hI hP F' N' => ?_) (fun us ms nn u h' tk hI hP F' N' => ?_)); (case hi => with_reducible assumption); (case hp => exact ⟨by rw [flat_len]; omega, mulO_start hB _⟩); (all_goals (have kMark := kstMark)); (all_goals (obtain ⟨hlen, hMO⟩ := hP)); (all_goals (try (have hlb' := lim_split ca hsp))); (all_goals (try (have hll' := len_split hsp))); (all_goals (try (have hgd' := getD_split hsp))); (all_goals (have kLen := hI.length)); (all_goals (try dsimp only at F')); (all_goals (try simp only [List.nil_append, List.cons_append, List.append_nil] at N')); (all_goals (try simp only [List.map_cons, List.map_nil, List.nil_append, List.cons_append, List.append_nil] at hoff)); (all_goals (try k_fold)))
    | ((rename PairSrcL _ _ _ _ _ _ _ _ _ _ _ _ => pS); (rename MulO _ _ _ _ _ => hMO); (with_unfolding_all refine' enum_inner (Str.ofString "carry") [_] _ [Str.ofString "spot"] (fun pr2 c ms => ms.length = na.length + nb.length ∧ MulI (2 ^ wv.toNat) ms c na nb pr.length pr2.length) (PairSrcL.at pS _ rfl) rfl ?hi ?hp (fun c tc us ms nn pr3 po3 n3 ti t u h' tk own hsp3 hoff hI hP F' N' => ?_) (fun c tc us ms nn u h' tk hI hP F' N' => ?_)); (case hi => with_reducible assumption); (case hp => exact ⟨by with_reducible assumption, mulI_start hB hMO⟩); (all_goals (have kMark := kstMark)); (all_goals (obtain ⟨hlen, hMI⟩ := hP)); (all_goals (try (have hlb2' := lim_split cb hsp3))); (all_goals (try (have hll2' := len_split hsp3))); (all_goals (try (have hgd2' := getD_split hsp3))); (all_goals (have kLen := hI.length)); (all_goals (try dsimp only at F')); (all_goals (try simp only [List.nil_append, List.cons_append, List.append_nil] at N')); (all_goals (try simp only [List.map_cons, List.map_nil, List.nil_append, List.cons_append, List.append_nil] at hoff)); (all_goals (try k_fold)))
    | fail)
  (k_with "state" =>
    first
    | ((try simp only [List.length_append, List.length_cons, List.length_nil, List.length_set, Int.one_mul, kbt_mask, kbt_maskF, fdB, fmB]);
       first
       | exact ⟨by omega, mulI_step hB (by with_reducible assumption) (by omega) (by omega) (by omega) (by with_reducible assumption) (by with_reducible assumption) (by with_reducible assumption) (by with_reducible assumption) rfl⟩
       | exact ⟨by omega, mulI_done hB (by with_reducible assumption) (by omega) (by omega) rfl rfl⟩
       | fail)
    | fail)
  (k_with "ret" =>
    first
    | exact mulO_done hB (by with_reducible assumption) rfl
    | fail)
  k_steps

end
section
local macro_rules | `(tactic| k_all) => `(tactic| assumption)
theorem c_next (w : World) {pp : Program} {lo : List Str} {mean : ExcName → Option Value} {mg mb : Str → Option Value} {dp un : Nat} {gd : Option (List Code)} {cn : Str} {cs : Scope} {a : Addr} {ccd : Value} {cl : List (Str × Addr)} {outer : List Env} {A₀ : Around} {base h₀ : Heap} {L : Addr} {m : Str → Option Value} {s : Shared}
    {Q E : Value → Shared → Prop} {rest : List (Addr × Obj)} {rope sl : Addr} {i many : Int} {ti tm : Tok} {nn c : Nat} {us : List Value} {ns : List Int}
    (B : Below A₀ base outer h₀) (F : Fr h₀ L s.heap m) (X : (hd.heap_39 w.params).In h₀) (T : Top pp lo mean mg mb h₀) (hk : cs.kind = .function)
    (N : News h₀ L s.heap ((rope, listOf (List.toArray [Value.ref sl, Value.int i ti]) nn) :: (sl, listOf (List.toArray us) c) :: rest)) (hr : ∀ p ∈ rest, p.1 ≠ rope) (hsl : @Ne Nat sl rope) (hI : IntsAre us ns) (hlen : ns.length ≤ 20)
    (hi0 : 0 ≤ i) (hi1 : i ≤ 20) (hm0 : 0 < many) (hm1 : many ≤ 8) (hd : dp + 1 < recursionLimit) (hu : un + 8 < cLine)
    (hret : ∀ v t t2 h' tk', 0 ≤ v → v < many → Fr h₀ L h' m → News h₀ L h' ((rope, listOf (List.toArray [Value.ref sl, Value.int (i + 1) t2]) nn) :: (sl, listOf (List.toArray us) c) :: rest) → Q (.int v t) { s with heap := h', toks := tk' }) :
    wpAny (model PySem.Challenge.rw_rr0055_01.row.prog w) (ktrTop dp un gd cn cs L a ccd cl outer) (call (.ref 210) [.ref rope, .int many tm]) Q E s := by
  revert X
  w_top off
  k_with_none
  (k_with "m mine enter" => ((case kA => exact rfl); (case kF => exact rfl); (case kK => assumption); (case k1 => k_asm); (case k2 => k_asm); (case k3 => k_asm); (case k5 => k_asm); (case k6 => k_is); (case k7 => k_is); (case k8 => ktr_room); (case k9 => exact BindsTo.of_eq rfl); (case c5 => decide); (case kB => exact locs rfl); (case c2 => exact rfl); (case c3 => exact rfl); (case c4 => exact rfl); k_whole; intro L' h' F' N' B' X' T'; (try dsimp only); (try k_fold)))
  (k_with "m close" => ((rename News _ _ _ _ => nE'); (try simp only [List.push_toArray] at nE'); refine' retL_of ?h_z9 ?F_z9 ?N_z9 ?m_z9 ?i_z9 ?e_z9; (case h_z9 => assumption); (case N_z9 => exact nE'); (case F_z9 => assumption); (case m_z9 => k_mem); (case i_z9 => first | with_reducible assumption | exact IntsAre.cons _ _ IntsAre.nil | k_intsEnd); (case e_z9 => k_extra "ret")))
  (k_with "m close" => (refine' retV_of _ ?h_z9 ?F_z9 ?e_z9; (case h_z9 => assumption); (case F_z9 => assumption); (case e_z9 => first | rfl | k_extra "ret")))
  (k_with "m exec" => ((with_reducible show wpAny _ _ (exec (PySem.Stmt.While _ _ _ _) _) _ _ _); k_extra "mine while"))
  k_fill
  intro X
  have kLen := hI.length
  refine wpAny_call ?_
  k_dflt cell_enter
  k_steps
  all_goals exact hret _ _ _ _ _ (fmod_lo _ hm0) (fmod_hi _ hm0) (by assumption) (by assumption)
end
section
theorem c_sub (w : World) (wv : Int) (la lb : Addr) (tw : Tok) (va vb : List Value) (na nb : List Int) (hia : IntsAre va na) (hib : IntsAre vb nb) (hw : 2 ≤ wv) (hw2 : wv ≤ 9) (ca : Can (2 ^ wv.toNat) na) (cb : Can (2 ^ wv.toNat) nb) (hla : na.length ≤ cap) (hlb : nb.length ≤ cap) (hle : val (2 ^ wv.toNat) nb ≤ val (2 ^ wv.toNat) na) :
    CT w 2 74 [.ref la, .ref lb, .int wv tw] (fun h => h.IsList la (List.toArray va) ∧ h.IsList lb (List.toArray vb)) (RetL (row (2 ^ wv.toNat) (val (2 ^ wv.toNat) na - val (2 ^ wv.toNat) nb))) := by
  unfold CT
  w_top off
  k_with_none
  (k_with "m mine enter" => ((case kA => exact rfl); (case kF => exact rfl); (case kK => assumption); (case k1 => k_asm); (case k2 => k_asm); (case k3 => k_asm); (case k5 => k_asm); (case k6 => k_is); (case k7 => k_is); (case k8 => ktr_room); (case k9 => exact BindsTo.of_eq rfl); (case c5 => decide); (case kB => exact locs rfl); (case c2 => exact rfl); (case c3 => exact rfl); (case c4 => exact rfl); k_whole; intro L' h' F' N' B' X' T'; (try dsimp only); (try k_fold)))
  (k_with "m close" => ((rename News _ _ _ _ => nE'); (try simp only [List.push_toArray] at nE'); refine' retL_of ?h_z9 ?F_z9 ?N_z9 ?m_z9 ?i_z9 ?e_z9; (case h_z9 => assumption); (case N_z9 => exact nE'); (case F_z9 => assumption); (case m_z9 => k_mem); (case i_z9 => first | with_reducible assumption | exact IntsAre.cons _ _ IntsAre.nil | k_intsEnd); (case e_z9 => k_extra "ret")))
  (k_with "m close" => (refine' retV_of _ ?h_z9 ?F_z9 ?e_z9; (case h_z9 => assumption); (case F_z9 => assumption); (case e_z9 => first | rfl | k_extra "ret")))
  (k_with "m exec" => ((with_reducible show wpAny _ _ (exec (PySem.Stmt.While _ _ _ _) _) _ _ _); k_extra "mine while"))
  (k_with "m call ref" => (k_here; (with_reducible show wpAny _ _ (call (Value.ref 60) _) _ _ _); k_dflt (refine' ct_val (c_compare _ _ _ _ _ _ _ _ ?ia_z9 ?ib_z9 ?hB_z9 ?ca_z9 ?cb_z9 ?la_z9 ?lb_z9) ?B_z9 ?F_z9 ?X_z9 ?T_z9 ?k_z9 ?N_z9 ?p_z9 ?d_z9 ?u_z9 ?_; (case B_z9 => k_asm); (case F_z9 => k_asm); (case X_z9 => k_asm); (case T_z9 => k_asm); (case k_z9 => first | exact rfl | assumption); (case N_z9 => k_asm); (case p_z9 => exact ⟨by is_list, by is_list⟩); (case ia_z9 => l_ints); (case ib_z9 => l_ints); (case ca_z9 => with_reducible assumption); (case cb_z9 => with_reducible assumption); (case hB_z9 => assumption); (case la_z9 => assumption); (case lb_z9 => assumption); (case d_z9 => ktr_room); (case u_z9 => ktr_units)); intro t9 h9 tk9 F9 N9; (try dsimp only); (try k_fold)))
  (k_with "m call ref" => (k_here; (with_reducible show wpAny _ _ (call (Value.ref 46) _) _ _ _); k_dflt (refine' ct_list (c_normal _ _ _ _ ?ia_z9 ?la_z9) ?B_z9 ?F_z9 ?X_z9 ?T_z9 ?k_z9 ?N_z9 ?p_z9 ?d_z9 ?u_z9 ?_; (case B_z9 => k_asm); (case F_z9 => k_asm); (case X_z9 => k_asm); (case T_z9 => k_asm); (case k_z9 => first | exact rfl | assumption); (case N_z9 => k_asm); (case p_z9 => kmk_list); (case ia_z9 => l_ints); (case la_z9 => first | omega | (simp only [rangeKs_length] at *; omega)); (case d_z9 => ktr_room); (case u_z9 => ktr_units)); intro l9 us9 c9 h9 tk9 F9 N9 ne9 I9; (try dsimp only); (try k_fold)))
  k_fill
  intro pp lo mean mg mb dp un gd cn cs a ccd cl outer A₀ base h₀ L m s Q E B F X T hk hP hd hu hret
  obtain ⟨hPa, hPb⟩ := hP
  have hcap := cap_lt
  have hB := two_le (w := wv) (by omega)
  have hnil := IntsAre.nil
  have hc0 : ¬ cmpI (val (2 ^ wv.toNat) na) (val (2 ^ wv.toNat) nb) < 0 := by unfold cmpI; split <;> (try split) <;> omega
  refine wpAny_call ?_
  k_dflt (refine' enter0 (binds := [(Str.ofString "a", .ref la), (Str.ofString "b", .ref lb), (Str.ofString "w", .int wv tw)]) ?k1 ?k2 ?k3 ?k5 ?kA ?kF ?kK ?k6 ?k7 ?k8 ?k9 ?kB ?_ ?c2 ?c3 ?c4 ?c5; walk_at "mine enter")
  (k_with "pyIter ref" =>
    first
    | k_state (fun pre c f => f.length = pre.length ∧ Borrow (2 ^ wv.toNat) f c pre.length (val (2 ^ wv.toNat) (na.take pre.length) - val (2 ^ wv.toNat) (nb.take pre.length))) "borrow" "found"
    | fail)
  (k_with "state" =>
    first
    | exact ⟨rfl, borrow_start⟩
    | (simp only [List.length_append, List.length_cons, List.length_nil, Int.one_mul];
       first
       | exact ⟨by omega, sub_neg hB ca.lim cb.lim (by with_reducible assumption) (by with_reducible assumption) (by with_reducible assumption)⟩
       | exact ⟨by omega, sub_pos hB ca.lim cb.lim (by with_reducible assumption) (by with_reducible assumption) (by with_reducible assumption)⟩
       | exact ⟨by omega, sub_neg0 hB ca.lim cb.lim (by with_reducible assumption) (by with_reducible assumption) (by with_reducible assumption) (by with_reducible assumption)⟩
       | exact ⟨by omega, sub_pos0 hB ca.lim cb.lim (by with_reducible assumption) (by with_reducible assumption) (by with_reducible assumption) (by with_reducible assumption)⟩
       | fail)
    | fail)
  (k_with "ret" =>
    first
    | exact sub_done hB (by with_reducible assumption) (by rw [rangeKs_length]; omega) ca cb hle
    | fail)
  k_steps

end
section
section
variable {w : World} {wv : Int} {tn tw : Tok} {la lb : Addr} {va vb : List Value} {x y : Int}
theorem r_nat (hn : Num x) (hw : 2 ≤ wv) (hw2 : wv ≤ 9) : CT w 1 53 [.int x tn, .int wv tw] (fun _ => True) (RetL (row (2 ^ wv.toNat) x)) :=
  c_nat_of w x wv tn tw hn.nn hn.small hw hw2
theorem r_cmp (hia : IntsAre va (row (2 ^ wv.toNat) x)) (hib : IntsAre vb (row (2 ^ wv.toNat) y)) (hx : Num x) (hy : Num y) (hw : 2 ≤ wv) :
    CT w 1 60 [.ref la, .ref lb] (fun h => h.IsList la (List.toArray va) ∧ h.IsList lb (List.toArray vb)) (RetV (fun t => .int (cmpI x y) t)) := by
  have hB := two_le (w := wv) (by omega)
  have h := c_compare w (2 ^ wv.toNat) la lb va vb _ _ hia hib hB (can_row hB hx.nn) (can_row hB hy.nn) (row_cap hB hx) (row_cap hB hy)
  rw [val_row hB hx.nn, val_row hB hy.nn] at h
  exact h
theorem r_add (hia : IntsAre va (row (2 ^ wv.toNat) x)) (hib : IntsAre vb (row (2 ^ wv.toNat) y)) (hx : Num x) (hy : Num y) (hw : 2 ≤ wv) (hw2 : wv ≤ 9) :
    CT w 1 67 [.ref la, .ref lb, .int wv tw] (fun h => h.IsList la (List.toArray va) ∧ h.IsList lb (List.toArray vb)) (RetL (row (2 ^ wv.toNat) (x + y))) := by
  have hB := two_le (w := wv) (by omega)
  have h := c_add w wv la lb tw va vb _ _ hia hib hw hw2 (can_row hB hx.nn) (can_row hB hy.nn) (row_cap hB hx) (row_cap hB hy)
  rw [val_row hB hx.nn, val_row hB hy.nn] at h
  exact h
theorem r_sub (hia : IntsAre va (row (2 ^ wv.toNat) x)) (hib : IntsAre vb (row (2 ^ wv.toNat) y)) (hx : Num x) (hy : Num y) (hw : 2 ≤ wv) (hw2 : wv ≤ 9) (hle : y ≤ x) :
    CT w 2 74 [.ref la, .ref lb, .int wv tw] (fun h => h.IsList la (List.toArray va) ∧ h.IsList lb (List.toArray vb)) (RetL (row (2 ^ wv.toNat) (x - y))) := by
  have hB := two_le (w := wv) (by omega)
  have h := c_sub w wv la lb tw va vb _ _ hia hib hw hw2 (can_row hB hx.nn) (can_row hB hy.nn) (row_cap hB hx) (row_cap hB hy) (by rw [val_row hB hx.nn, val_row hB hy.nn]; exact hle)
  rw [val_row hB hx.nn, val_row hB hy.nn] at h
  exact h
theorem r_mul (hia : IntsAre va (row (2 ^ wv.toNat) x)) (hib : IntsAre vb (row (2 ^ wv.toNat) y)) (hx : Num x) (hy : Num y) (hw : 2 ≤ wv) (hw2 : wv ≤ 9) :
    CT w 2 203 [.ref la, .ref lb, .int wv tw] (fun h => h.IsList la (List.toArray va) ∧ h.IsList lb (List.toArray vb)) (RetL (row (2 ^ wv.toNat) (x * y))) := by
  have hB := two_le (w := wv) (by omega)
  have h := c_mul w wv la lb tw va vb _ _ hia hib hw hw2 (lim_row hB x) (lim_row hB y) (Nat.le_trans (Nat.add_le_add (row_num hB hx) (row_num hB hy)) hcap_le)
  rw [val_row hB hx.nn, val_row hB hy.nn] at h
  exact h
end

/-- a tuple object -/
abbrev tupOf (vs : List Value) : Obj := { cls := .type "tuple", data := .seq (List.toArray vs) }
/-- a signed number, freshly made: its tuple and its row -/
def RetS (B : Int) (b : Bool) (m : Int) (h : Heap) (r : Value) (h' : Heap) : Prop := ∃ t l vs c, r = .ref t ∧ h.get? t = none ∧ h'.get? t = some (tupOf [.bool b, .ref l]) ∧ h.get? l = none ∧ h'.get? l = some (listOf (List.toArray vs) c) ∧ IntsAre vs (row B m)
theorem retS_of {B x : Int} {b' : Bool} {h₀ h' : Heap} {L t l : Addr} {m : Str → Option Value} {news : List (Addr × Obj)} {s : Shared} {Q : Value → Shared → Prop} {b : Bool} {ms : List Int} {ws : List Value} {c tk : Nat}
    (hret : ∀ r h' tk', h₀.StaysIn h' → RetS B b' x h₀ r h' → Q r { s with heap := h', toks := tk' }) (F : Fr h₀ L h' m) (N : News h₀ L h' news) (ht : (t, tupOf [.bool b, .ref l]) ∈ news) (hm : (l, listOf (List.toArray ws) c) ∈ news) (hi : IntsAre ws ms) (eb : b = b') (e : ms = row B x) :
    Q (.ref t) { s with heap := h', toks := tk } := by
  subst e; subst eb
  exact hret _ _ _ F.keep ⟨_, _, _, _, rfl, (N _ ht).2.2, (N _ ht).1, (N _ hm).2.2, (N _ hm).1, hi⟩
theorem ct_sgn {w : World} {B x : Int} {b : Bool} {d : Nat} {f : Addr} {vs : List Value} {Pre : Heap → Prop} (C : CT w d f vs Pre (RetS B b x))
    {pp : Program} {lo : List Str} {mean : ExcName → Option Value} {mg mb : Str → Option Value} {dp un : Nat} {gd : Option (List Code)} {cn : Str} {cs : Scope} {a : Addr} {ccd : Value} {cl : List (Str × Addr)} {outer : List Env} {A₀ : Around} {base h₀ : Heap} {L : Addr} {m : Str → Option Value} {s : Shared}
    {Q E : Value → Shared → Prop} {news : List (Addr × Obj)} (B' : Below A₀ base outer h₀) (F : Fr h₀ L s.heap m) (X : (hd.heap_39 w.params).In h₀) (T : Top pp lo mean mg mb h₀) (hk : cs.kind = .function) (N : News h₀ L s.heap news)
    (hp : Pre s.heap) (hd : dp + d < recursionLimit) (hu : un + 8 * d < cLine)
    (ret : ∀ t l us c h' tk', Fr h₀ L h' m → News h₀ L h' ((t, tupOf [.bool b, .ref l]) :: (l, listOf (List.toArray us) c) :: news) → AllNe t news → AllNe l news → IntsAre us (row B x) → Q (.ref t) { s with heap := h', toks := tk' }) :
    wpAny (model PySem.Challenge.rw_rr0055_01.row.prog w) (ktrTop dp un gd cn cs L a ccd cl outer) (call (.ref f) vs) Q E s := by
  refine C _ _ _ _ _ _ _ _ _ _ _ _ _ _ _ _ _ _ _ _ _ _ B' F X T hk hp hd hu ?_
  rintro r h' tk' st ⟨t, l, us, c, rfl, hnt, ht, hn, hl, hi⟩
  exact ret t l us c h' tk' (fr_stays F st) (news_more F hnt ht (news_more F hn hl (news_stays N st))) (allNe_of (h' := h') hnt N) (allNe_of (h' := h') hn N) hi

/-- a signed number stands there -/
def STup (B : Int) (b : Bool) (x : Int) (h : Heap) (t : Addr) : Prop := ∃ l vs c, h.get? t = some (tupOf [.bool b, .ref l]) ∧ h.get? l = some (listOf (List.toArray vs) c) ∧ IntsAre vs (row B x)
theorem tupIs {h : Heap} {t : Addr} {vs : List Value} (e : h.get? t = some (tupOf vs)) : IsTup h t (List.toArray vs) := ⟨_, e, rfl, 0, rfl⟩
theorem lstIs {h : Heap} {l : Addr} {vs : List Value} {c : Nat} (e : h.get? l = some (listOf (List.toArray vs) c)) : h.IsList l (List.toArray vs) := ⟨_, e, rfl, c, rfl⟩

/-- a tuple of these, freshly made -/
def RetT (xs : List Value) (h : Heap) (r : Value) (h' : Heap) : Prop := ∃ t, r = .ref t ∧ h.get? t = none ∧ h'.get? t = some (tupOf xs)
theorem retT_of {xs ys : List Value} {h₀ h' : Heap} {L t : Addr} {m : Str → Option Value} {news : List (Addr × Obj)} {s : Shared} {Q : Value → Shared → Prop} {tk : Nat}
    (hret : ∀ r h' tk', h₀.StaysIn h' → RetT xs h₀ r h' → Q r { s with heap := h', toks := tk' }) (F : Fr h₀ L h' m) (N : News h₀ L h' news) (ht : (t, tupOf ys) ∈ news) (e : ys = xs) :
    Q (.ref t) { s with heap := h', toks := tk } := by
  subst e
  exact hret _ _ _ F.keep ⟨_, rfl, (N _ ht).2.2, (N _ ht).1⟩
theorem ct_tup {w : World} {xs : List Value} {d : Nat} {f : Addr} {vs : List Value} {Pre : Heap → Prop} (C : CT w d f vs Pre (RetT xs))
    {pp : Program} {lo : List Str} {mean : ExcName → Option Value} {mg mb : Str → Option Value} {dp un : Nat} {gd : Option (List Code)} {cn : Str} {cs : Scope} {a : Addr} {ccd : Value} {cl : List (Str × Addr)} {outer : List Env} {A₀ : Around} {base h₀ : Heap} {L : Addr} {m : Str → Option Value} {s : Shared}
    {Q E : Value → Shared → Prop} {news : List (Addr × Obj)} (B' : Below A₀ base outer h₀) (F : Fr h₀ L s.heap m) (X : (hd.heap_39 w.params).In h₀) (T : Top pp lo mean mg mb h₀) (hk : cs.kind = .function) (N : News h₀ L s.heap news)
    (hp : Pre s.heap) (hd : dp + d < recursionLimit) (hu : un + 8 * d < cLine)
    (ret : ∀ t h' tk', Fr h₀ L h' m → News h₀ L h' ((t, tupOf xs) :: news) → AllNe t news → Q (.ref t) { s with heap := h', toks := tk' }) :
    wpAny (model PySem.Challenge.rw_rr0055_01.row.prog w) (ktrTop dp un gd cn cs L a ccd cl outer) (call (.ref f) vs) Q E s := by
  refine C _ _ _ _ _ _ _ _ _ _ _ _ _ _ _ _ _ _ _ _ _ _ B' F X T hk hp hd hu ?_
  rintro r h' tk' st ⟨t, rfl, hnt, ht⟩
  exact ret t h' tk' (fr_stays F st) (news_more F hnt ht (news_stays N st)) (allNe_of (h' := h') hnt N)
end
section
/-! ## product_of_counts -/
def prodL : List Int → Int
  | [] => 1
  | x :: r => x * prodL r
structure Cnt (ns : List Int) : Prop where
  all : ∀ x ∈ ns, 1 ≤ x ∧ x < 2 ^ 40
theorem prodL_append : ∀ a b : List Int, prodL (a ++ b) = prodL a * prodL b
  | [], b => by simp [prodL]
  | x :: a, b => by simp only [List.cons_append, prodL, prodL_append a b, Int.mul_assoc]
theorem prodL_split (ns : List Int) (k : Nat) : prodL (ns.take k) * prodL (ns.drop k) = prodL ns := by
  rw [← prodL_append, List.take_append_drop]
theorem prodL_lt : ∀ {ns : List Int}, Cnt ns → 1 ≤ prodL ns ∧ prodL ns < 2 ^ (40 * ns.length + 1)
  | [], _ => by simp [prodL]
  | x :: r, h => by
    have hx := h.all x (.head _)
    have ih := prodL_lt (ns := r) ⟨fun y hy => h.all y (.tail _ hy)⟩
    have e : (2 : Int) ^ (40 * (x :: r).length + 1) = 2 ^ 40 * 2 ^ (40 * r.length + 1) := by
      rw [← Int.pow_add]; congr 1; simp only [List.length_cons]; omega
    simp only [prodL]
    refine ⟨?_, ?_⟩
    · have := Int.mul_le_mul (show 1 ≤ x by omega) ih.1 (by omega) (by omega)
      omega
    · rw [e]
      have h1 : x * prodL r ≤ x * 2 ^ (40 * r.length + 1) := Int.mul_le_mul_of_nonneg_left (by omega) (by omega)
      have h2 : x * 2 ^ (40 * r.length + 1) < 2 ^ 40 * 2 ^ (40 * r.length + 1) := Int.mul_lt_mul_of_pos_right hx.2 (kbt_pos _)
      omega
theorem cnt_take {ns : List Int} (h : Cnt ns) (k : Nat) : Cnt (ns.take k) := ⟨fun x hx => h.all x (List.mem_of_mem_take hx)⟩
theorem cnt_drop {ns : List Int} (h : Cnt ns) (k : Nat) : Cnt (ns.drop k) := ⟨fun x hx => h.all x (List.mem_of_mem_drop hx)⟩
theorem num_prod {ns : List Int} (h : Cnt ns) (hl : ns.length ≤ 20) : Num (prodL ns) :=
  Num.of _ (by have := (prodL_lt h).1; omega) (prodL_lt h).2 (by omega)
theorem cnt_one {ns : List Int} (h : Cnt ns) (hl : (ns.length : Int) = 1) : Num (ns.getD 0 0) := by
  match ns, hl with
  | [x], _ =>
    have := h.all x (.head _)
    exact Num.of 40 (by simp; omega) (by simpa using this.2) (by decide)
theorem one_prod {B : Int} {ns : List Int} (hl : (ns.length : Int) = 1) : row B (ns.getD 0 0) = row B (prodL ns) := by
  match ns, hl with
  | [x], _ => simp [prodL]
theorem none_prod {B : Int} (hB : 2 ≤ B) {ns : List Int} (hl : (ns.length : Int) = 0) : [1] = row B (prodL ns) := by
  match ns, hl with
  | [], _ => exact (row_one hB).symm
end
section
theorem sgn_f {b : Bool} {l : Addr} {na : List Int} (h : b = false) : [Value.bool b, Value.ref l] = [Value.bool (b && decide (0 < (na.length : Int))), Value.ref l] := by
  subst h; rfl
theorem sgn_t {b : Bool} {l : Addr} {na : List Int} (h : b = true) : [Value.bool (decide (0 < (na.length : Int))), Value.ref l] = [Value.bool (b && decide (0 < (na.length : Int))), Value.ref l] := by
  subst h; rfl
theorem c_signed (w : World) (b : Bool) (l : Addr) (va : List Value) (na : List Int) (hia : IntsAre va na) (hl : na.length ≤ cap) :
    CT w 1 88 [.bool b, .ref l] (fun h => h.IsList l (List.toArray va)) (RetT [.bool (b && decide (0 < (na.length : Int))), .ref l]) := by
  unfold CT
  w_top off
  k_with_none
  (k_with "m mine enter" => ((case kA => exact rfl); (case kF => exact rfl); (case kK => assumption); (case k1 => k_asm); (case k2 => k_asm); (case k3 => k_asm); (case k5 => k_asm); (case k6 => k_is); (case k7 => k_is); (case k8 => ktr_room); (case k9 => exact BindsTo.of_eq rfl); (case c5 => decide); (case kB => exact locs rfl); (case c2 => exact rfl); (case c3 => exact rfl); (case c4 => exact rfl); k_whole; intro L' h' F' N' B' X' T'; (try dsimp only); (try k_fold)))
  (k_with "m close" => ((rename News _ _ _ _ => nE'); (try simp only [List.push_toArray] at nE'); refine' retL_of ?h_z9 ?F_z9 ?N_z9 ?m_z9 ?i_z9 ?e_z9; (case h_z9 => assumption); (case N_z9 => exact nE'); (case F_z9 => assumption); (case m_z9 => k_mem); (case i_z9 => first | with_reducible assumption | exact IntsAre.cons _ _ IntsAre.nil | k_intsEnd); (case e_z9 => k_extra "ret")))
  (k_with "m close" => (refine' retV_of _ ?h_z9 ?F_z9 ?e_z9; (case h_z9 => assumption); (case F_z9 => assumption); (case e_z9 => first | rfl | k_extra "ret")))
  (k_with "m exec" => ((with_reducible show wpAny _ _ (exec (PySem.Stmt.While _ _ _ _) _) _ _ _); k_extra "mine while"))
  (k_with "m mine num" => first | with_reducible assumption | k_extra "num")
  (k_with "m call ref" => (k_here; (with_reducible show wpAny _ _ (call (Value.ref 67) _) _ _ _); k_dflt (refine' ct_list (r_add ?ia_z9 ?ib_z9 ?x_z9 ?y_z9 ?hw_z9 ?hw2_z9) ?B_z9 ?F_z9 ?X_z9 ?T_z9 ?k_z9 ?N_z9 ?p_z9 ?d_z9 ?u_z9 ?_; (case B_z9 => k_asm); (case F_z9 => k_asm); (case X_z9 => k_asm); (case T_z9 => k_asm); (case k_z9 => first | exact rfl | assumption); (case N_z9 => k_asm); (case p_z9 => exact ⟨by kmk_list, by kmk_list⟩); (case ia_z9 => l_ints); (case ib_z9 => l_ints); (case x_z9 => walk_at "mine num"); (case y_z9 => walk_at "mine num"); (case hw_z9 => assumption); (case hw2_z9 => assumption); (case d_z9 => ktr_room); (case u_z9 => ktr_units)); intro l9 us9 c9 h9 tk9 F9 N9 ne9 I9; (try dsimp only); (try k_fold)))
  (k_with "m call ref" => (k_here; (with_reducible show wpAny _ _ (call (Value.ref 203) _) _ _ _); k_dflt (refine' ct_list (r_mul ?ia_z9 ?ib_z9 ?x_z9 ?y_z9 ?hw_z9 ?hw2_z9) ?B_z9 ?F_z9 ?X_z9 ?T_z9 ?k_z9 ?N_z9 ?p_z9 ?d_z9 ?u_z9 ?_; (case B_z9 => k_asm); (case F_z9 => k_asm); (case X_z9 => k_asm); (case T_z9 => k_asm); (case k_z9 => first | exact rfl | assumption); (case N_z9 => k_asm); (case p_z9 => exact ⟨by kmk_list, by kmk_list⟩); (case ia_z9 => l_ints); (case ib_z9 => l_ints); (case x_z9 => walk_at "mine num"); (case y_z9 => walk_at "mine num"); (case hw_z9 => assumption); (case hw2_z9 => assumption); (case d_z9 => ktr_room); (case u_z9 => ktr_units)); intro l9 us9 c9 h9 tk9 F9 N9 ne9 I9; (try dsimp only); (try k_fold)))
  (k_with "m call ref" => (k_here; (with_reducible show wpAny _ _ (call (Value.ref 74) _) _ _ _); k_dflt (refine' ct_list (r_sub ?ia_z9 ?ib_z9 ?x_z9 ?y_z9 ?hw_z9 ?hw2_z9 ?hle_z9) ?B_z9 ?F_z9 ?X_z9 ?T_z9 ?k_z9 ?N_z9 ?p_z9 ?d_z9 ?u_z9 ?_; (case B_z9 => k_asm); (case F_z9 => k_asm); (case X_z9 => k_asm); (case T_z9 => k_asm); (case k_z9 => first | exact rfl | assumption); (case N_z9 => k_asm); (case p_z9 => exact ⟨by kmk_list, by kmk_list⟩); (case ia_z9 => l_ints); (case ib_z9 => l_ints); (case x_z9 => walk_at "mine num"); (case y_z9 => walk_at "mine num"); (case hw_z9 => assumption); (case hw2_z9 => assumption); (case d_z9 => ktr_room); (case u_z9 => ktr_units); (case hle_z9 => first | assumption | k_extra "le")); intro l9 us9 c9 h9 tk9 F9 N9 ne9 I9; (try dsimp only); (try k_fold)))
  (k_with "m call ref" => (k_here; (with_reducible show wpAny _ _ (call (Value.ref 53) _) _ _ _); k_dflt (refine' ct_list (r_nat ?x_z9 ?hw_z9 ?hw2_z9) ?B_z9 ?F_z9 ?X_z9 ?T_z9 ?k_z9 ?N_z9 ?p_z9 ?d_z9 ?u_z9 ?_; (case B_z9 => k_asm); (case F_z9 => k_asm); (case X_z9 => k_asm); (case T_z9 => k_asm); (case k_z9 => first | exact rfl | assumption); (case N_z9 => k_asm); (case p_z9 => exact True.intro); (case x_z9 => walk_at "mine num"); (case hw_z9 => assumption); (case hw2_z9 => assumption); (case d_z9 => ktr_room); (case u_z9 => ktr_units)); intro l9 us9 c9 h9 tk9 F9 N9 ne9 I9; (try dsimp only); (try k_fold)))
  (k_with "m call ref" => (k_here; (with_reducible show wpAny _ _ (call (Value.ref 60) _) _ _ _); k_dflt (refine' ct_val (r_cmp (wv := ?wv_z9) ?ia_z9 ?ib_z9 ?x_z9 ?y_z9 ?hw_z9) ?B_z9 ?F_z9 ?X_z9 ?T_z9 ?k_z9 ?N_z9 ?p_z9 ?d_z9 ?u_z9 ?_; (case B_z9 => k_asm); (case F_z9 => k_asm); (case X_z9 => k_asm); (case T_z9 => k_asm); (case k_z9 => first | exact rfl | assumption); (case N_z9 => k_asm); (case p_z9 => exact ⟨by kmk_list, by kmk_list⟩); (case ia_z9 => l_ints); (case ib_z9 => l_ints); (case x_z9 => walk_at "mine num"); (case y_z9 => walk_at "mine num"); (case hw_z9 => assumption); (case d_z9 => ktr_room); (case u_z9 => ktr_units)); intro t9 h9 tk9 F9 N9; (try dsimp only); (try k_fold)))
  (k_with "m close" => ((rename News _ _ _ _ => nE'); refine' retS_of ?h_z9 ?F_z9 ?N_z9 ?t_z9 ?m_z9 ?i_z9 ?eb_z9 ?e_z9; (case h_z9 => assumption); (case N_z9 => exact nE'); (case F_z9 => assumption); (case t_z9 => k_mem); (case m_z9 => k_mem); (case i_z9 => l_ints); (case eb_z9 => k_extra "sign"); (case e_z9 => first | rfl | k_extra "ret")))
  (k_with "m subscriptTail" => (k_here; (with_reducible show wpAny _ _ (subscriptTail _ _ (Value.ref _) (Value.int _ _)) _ _ _); k_dflt (refine' item_tupleT (IsTup.keeps (by with_reducible assumption) (Fr.keep (by k_asm))) ?a_z9 ?b_z9 ?c_z9 ?d_z9 ?_; (case a_z9 => decide); (case b_z9 => decide); (case c_z9 => rfl); (case d_z9 => rfl); k_whole)))
  (k_with "m close" => ((rename News _ _ _ _ => nE'); refine' retT_of ?h_z9 ?F_z9 ?N_z9 ?t_z9 ?e_z9; (case h_z9 => assumption); (case N_z9 => exact nE'); (case F_z9 => assumption); (case t_z9 => k_mem); (case e_z9 => first | rfl | k_extra "ret")))
  k_fill
  intro pp lo mean mg mb dp un gd cn cs a ccd cl outer A₀ base h₀ L m s Q E B F X T hk hP hd hu hret
  have hcap := cap_lt
  refine wpAny_call ?_
  k_dflt (refine' enter0 (binds := [(Str.ofString "is_below", .bool b), (Str.ofString "nat", .ref l)]) ?k1 ?k2 ?k3 ?k5 ?kA ?kF ?kK ?k6 ?k7 ?k8 ?k9 ?kB ?_ ?c2 ?c3 ?c4 ?c5; walk_at "mine enter")
  (k_with "ret" => first | exact sgn_f (by with_reducible assumption) | exact sgn_t (by with_reducible assumption) | fail)
  k_steps
theorem r_signed {w : World} {wv x : Int} {b : Bool} {l : Addr} {va : List Value} (hia : IntsAre va (row (2 ^ wv.toNat) x)) (hx : Num x) (hw : 2 ≤ wv) :
    CT w 1 88 [.bool b, .ref l] (fun h => h.IsList l (List.toArray va)) (RetT [.bool (b && decide (0 < x)), .ref l]) := by
  have hB := two_le (w := wv) (by omega)
  have h := c_signed w b l va _ hia (row_cap hB hx)
  have e : decide (0 < ((row (2 ^ wv.toNat) x).length : Int)) = decide (0 < x) := by
    have := row_nil hB hx.nn
    have := hx.nn
    rw [Bool.eq_iff_iff, decide_eq_true_eq, decide_eq_true_eq]
    omega
  rw [e] at h
  exact h
end
section
theorem c_lrow (w : World) (n wv : Int) (tn tw : Tok) (hn : Small n) (hw : 2 ≤ wv) (hw2 : wv ≤ 9) :
    CT w 1 217 [.int n tn, .int wv tw] (fun _ => True) (RetL (row (2 ^ wv.toNat) n)) := by
  unfold CT
  w_top off
  k_with_none
  (k_with "m mine enter" => ((case kA => exact rfl); (case kF => exact rfl); (case kK => assumption); (case k1 => k_asm); (case k2 => k_asm); (case k3 => k_asm); (case k5 => k_asm); (case k6 => k_is); (case k7 => k_is); (case k8 => ktr_room); (case k9 => exact BindsTo.of_eq rfl); (case c5 => decide); (case kB => exact locs rfl); (case c2 => exact rfl); (case c3 => exact rfl); (case c4 => exact rfl); k_whole; intro L' h' F' N' B' X' T'; (try dsimp only); (try k_fold)))
  (k_with "m close" => ((rename News _ _ _ _ => nE'); (try simp only [List.push_toArray] at nE'); refine' retL_of ?h_z9 ?F_z9 ?N_z9 ?m_z9 ?i_z9 ?e_z9; (case h_z9 => assumption); (case N_z9 => exact nE'); (case F_z9 => assumption); (case m_z9 => k_mem); (case i_z9 => first | with_reducible assumption | exact IntsAre.cons _ _ IntsAre.nil | k_intsEnd); (case e_z9 => k_extra "ret")))
  (k_with "m close" => (refine' retV_of _ ?h_z9 ?F_z9 ?e_z9; (case h_z9 => assumption); (case F_z9 => assumption); (case e_z9 => first | rfl | k_extra "ret")))
  (k_with "m exec" => ((with_reducible show wpAny _ _ (exec (PySem.Stmt.While _ _ _ _) _) _ _ _); k_extra "mine while"))
  (k_with "m mine num" => first | with_reducible assumption | k_extra "num")
  (k_with "m call ref" => (k_here; (with_reducible show wpAny _ _ (call (Value.ref 67) _) _ _ _); k_dflt (refine' ct_list (r_add ?ia_z9 ?ib_z9 ?x_z9 ?y_z9 ?hw_z9 ?hw2_z9) ?B_z9 ?F_z9 ?X_z9 ?T_z9 ?k_z9 ?N_z9 ?p_z9 ?d_z9 ?u_z9 ?_; (case B_z9 => k_asm); (case F_z9 => k_asm); (case X_z9 => k_asm); (case T_z9 => k_asm); (case k_z9 => first | exact rfl | assumption); (case N_z9 => k_asm); (case p_z9 => exact ⟨by kmk_list, by kmk_list⟩); (case ia_z9 => l_ints); (case ib_z9 => l_ints); (case x_z9 => walk_at "mine num"); (case y_z9 => walk_at "mine num"); (case hw_z9 => assumption); (case hw2_z9 => assumption); (case d_z9 => ktr_room); (case u_z9 => ktr_units)); intro l9 us9 c9 h9 tk9 F9 N9 ne9 I9; (try dsimp only); (try k_fold)))
  (k_with "m call ref" => (k_here; (with_reducible show wpAny _ _ (call (Value.ref 203) _) _ _ _); k_dflt (refine' ct_list (r_mul ?ia_z9 ?ib_z9 ?x_z9 ?y_z9 ?hw_z9 ?hw2_z9) ?B_z9 ?F_z9 ?X_z9 ?T_z9 ?k_z9 ?N_z9 ?p_z9 ?d_z9 ?u_z9 ?_; (case B_z9 => k_asm); (case F_z9 => k_asm); (case X_z9 => k_asm); (case T_z9 => k_asm); (case k_z9 => first | exact rfl | assumption); (case N_z9 => k_asm); (case p_z9 => exact ⟨by kmk_list, by kmk_list⟩); (case ia_z9 => l_ints); (case ib_z9 => l_ints); (case x_z9 => walk_at "mine num"); (case y_z9 => walk_at "mine num"); (case hw_z9 => assumption); (case hw2_z9 => assumption); (case d_z9 => ktr_room); (case u_z9 => ktr_units)); intro l9 us9 c9 h9 tk9 F9 N9 ne9 I9; (try dsimp only); (try k_fold)))
  (k_with "m call ref" => (k_here; (with_reducible show wpAny _ _ (call (Value.ref 74) _) _ _ _); k_dflt (refine' ct_list (r_sub ?ia_z9 ?ib_z9 ?x_z9 ?y_z9 ?hw_z9 ?hw2_z9 ?hle_z9) ?B_z9 ?F_z9 ?X_z9 ?T_z9 ?k_z9 ?N_z9 ?p_z9 ?d_z9 ?u_z9 ?_; (case B_z9 => k_asm); (case F_z9 => k_asm); (case X_z9 => k_asm); (case T_z9 => k_asm); (case k_z9 => first | exact rfl | assumption); (case N_z9 => k_asm); (case p_z9 => exact ⟨by kmk_list, by kmk_list⟩); (case ia_z9 => l_ints); (case ib_z9 => l_ints); (case x_z9 => walk_at "mine num"); (case y_z9 => walk_at "mine num"); (case hw_z9 => assumption); (case hw2_z9 => assumption); (case d_z9 => ktr_room); (case u_z9 => ktr_units); (case hle_z9 => first | assumption | k_extra "le")); intro l9 us9 c9 h9 tk9 F9 N9 ne9 I9; (try dsimp only); (try k_fold)))
  (k_with "m call ref" => (k_here; (with_reducible show wpAny _ _ (call (Value.ref 53) _) _ _ _); k_dflt (refine' ct_list (r_nat ?x_z9 ?hw_z9 ?hw2_z9) ?B_z9 ?F_z9 ?X_z9 ?T_z9 ?k_z9 ?N_z9 ?p_z9 ?d_z9 ?u_z9 ?_; (case B_z9 => k_asm); (case F_z9 => k_asm); (case X_z9 => k_asm); (case T_z9 => k_asm); (case k_z9 => first | exact rfl | assumption); (case N_z9 => k_asm); (case p_z9 => exact True.intro); (case x_z9 => walk_at "mine num"); (case hw_z9 => assumption); (case hw2_z9 => assumption); (case d_z9 => ktr_room); (case u_z9 => ktr_units)); intro l9 us9 c9 h9 tk9 F9 N9 ne9 I9; (try dsimp only); (try k_fold)))
  (k_with "m call ref" => (k_here; (with_reducible show wpAny _ _ (call (Value.ref 60) _) _ _ _); k_dflt (refine' ct_val (r_cmp (wv := ?wv_z9) ?ia_z9 ?ib_z9 ?x_z9 ?y_z9 ?hw_z9) ?B_z9 ?F_z9 ?X_z9 ?T_z9 ?k_z9 ?N_z9 ?p_z9 ?d_z9 ?u_z9 ?_; (case B_z9 => k_asm); (case F_z9 => k_asm); (case X_z9 => k_asm); (case T_z9 => k_asm); (case k_z9 => first | exact rfl | assumption); (case N_z9 => k_asm); (case p_z9 => exact ⟨by kmk_list, by kmk_list⟩); (case ia_z9 => l_ints); (case ib_z9 => l_ints); (case x_z9 => walk_at "mine num"); (case y_z9 => walk_at "mine num"); (case hw_z9 => assumption); (case d_z9 => ktr_room); (case u_z9 => ktr_units)); intro t9 h9 tk9 F9 N9; (try dsimp only); (try k_fold)))
  (k_with "m close" => ((rename News _ _ _ _ => nE'); refine' retS_of ?h_z9 ?F_z9 ?N_z9 ?t_z9 ?m_z9 ?i_z9 ?eb_z9 ?e_z9; (case h_z9 => assumption); (case N_z9 => exact nE'); (case F_z9 => assumption); (case t_z9 => k_mem); (case m_z9 => k_mem); (case i_z9 => l_ints); (case eb_z9 => k_extra "sign"); (case e_z9 => first | rfl | k_extra "ret")))
  (k_with "m subscriptTail" => (k_here; (with_reducible show wpAny _ _ (subscriptTail _ _ (Value.ref _) (Value.int _ _)) _ _ _); k_dflt (refine' item_tupleT (IsTup.keeps (by with_reducible assumption) (Fr.keep (by k_asm))) ?a_z9 ?b_z9 ?c_z9 ?d_z9 ?_; (case a_z9 => decide); (case b_z9 => decide); (case c_z9 => rfl); (case d_z9 => rfl); k_whole)))
  (k_with "m close" => ((rename News _ _ _ _ => nE'); refine' retT_of ?h_z9 ?F_z9 ?N_z9 ?t_z9 ?e_z9; (case h_z9 => assumption); (case N_z9 => exact nE'); (case F_z9 => assumption); (case t_z9 => k_mem); (case e_z9 => first | rfl | k_extra "ret")))
  k_fill
  intro pp lo mean mg mb dp un gd cn cs a ccd cl outer A₀ base h₀ L m s Q E B F X T hk hP hd hu hret
  have hnil := IntsAre.nil
  have hcap := cap_lt
  have hB := two_le (w := wv) (by omega)
  refine wpAny_call ?_
  k_dflt (refine' enter0 (binds := [(Str.ofString "number", .int n tn), (Str.ofString "w", .int wv tw)]) ?k1 ?k2 ?k3 ?k5 ?kA ?kF ?kK ?k6 ?k7 ?k8 ?k9 ?kB ?_ ?c2 ?c3 ?c4 ?c5; walk_at "mine enter")
  (k_with "exec While Compare cons nil" => k_while (fun script k f => f ++ row (2 ^ wv.toNat) k = row (2 ^ wv.toNat) n ∧ f.length ≤ cap) (fun script k f => k.toNat) "number" "found")
  (k_with "state" => first | exact ⟨List.nil_append _, Nat.zero_le _⟩ | ((try simp only [Int.one_mul, kbt_mask, fdB, fmB]); exact (nat_step hB (by with_reducible assumption) (by with_reducible assumption) (by with_reducible assumption)).2) | fail)
  (k_with "measure" => first | ((try simp only [Int.one_mul, kbt_mask, fdB, fmB]); exact nat_less (by with_reducible assumption) (by with_reducible assumption)) | fail)
  (k_with "ret" => first | exact nat_done (by with_reducible assumption) (by with_reducible assumption) | fail)

  k_steps

end
section
theorem c_of_groups103 (w : World) (wv : Int) (tw : Tok) (hw : 2 ≤ wv) (hw2 : wv ≤ 9) :
    CT w 3 112 [.ref 103, .int wv tw, .ref 203] (fun _ => True) (RetL (row (2 ^ wv.toNat) 13591409)) := by
  unfold CT
  w_top off
  k_with_none
  (k_with "m mine enter" => ((case kA => exact rfl); (case kF => exact rfl); (case kK => assumption); (case k1 => k_asm); (case k2 => k_asm); (case k3 => k_asm); (case k5 => k_asm); (case k6 => k_is); (case k7 => k_is); (case k8 => ktr_room); (case k9 => exact BindsTo.of_eq rfl); (case c5 => decide); (case kB => exact locs rfl); (case c2 => exact rfl); (case c3 => exact rfl); (case c4 => exact rfl); k_whole; intro L' h' F' N' B' X' T'; (try dsimp only); (try k_fold)))
  (k_with "m close" => ((rename News _ _ _ _ => nE'); (try simp only [List.push_toArray] at nE'); refine' retL_of ?h_z9 ?F_z9 ?N_z9 ?m_z9 ?i_z9 ?e_z9; (case h_z9 => assumption); (case N_z9 => exact nE'); (case F_z9 => assumption); (case m_z9 => k_mem); (case i_z9 => first | with_reducible assumption | exact IntsAre.cons _ _ IntsAre.nil | k_intsEnd); (case e_z9 => k_extra "ret")))
  (k_with "m close" => (refine' retV_of _ ?h_z9 ?F_z9 ?e_z9; (case h_z9 => assumption); (case F_z9 => assumption); (case e_z9 => first | rfl | k_extra "ret")))
  (k_with "m exec" => ((with_reducible show wpAny _ _ (exec (PySem.Stmt.While _ _ _ _) _) _ _ _); k_extra "mine while"))
  (k_with "m mine num" => first | with_reducible assumption | k_extra "num")
  (k_with "m call ref" => (k_here; (with_reducible show wpAny _ _ (call (Value.ref 67) _) _ _ _); k_dflt (refine' ct_list (r_add ?ia_z9 ?ib_z9 ?x_z9 ?y_z9 ?hw_z9 ?hw2_z9) ?B_z9 ?F_z9 ?X_z9 ?T_z9 ?k_z9 ?N_z9 ?p_z9 ?d_z9 ?u_z9 ?_; (case B_z9 => k_asm); (case F_z9 => k_asm); (case X_z9 => k_asm); (case T_z9 => k_asm); (case k_z9 => first | exact rfl | assumption); (case N_z9 => k_asm); (case p_z9 => exact ⟨by kmk_list, by kmk_list⟩); (case ia_z9 => l_ints); (case ib_z9 => l_ints); (case x_z9 => walk_at "mine num"); (case y_z9 => walk_at "mine num"); (case hw_z9 => assumption); (case hw2_z9 => assumption); (case d_z9 => ktr_room); (case u_z9 => ktr_units)); intro l9 us9 c9 h9 tk9 F9 N9 ne9 I9; (try dsimp only); (try k_fold)))
  (k_with "m call ref" => (k_here; (with_reducible show wpAny _ _ (call (Value.ref 203) _) _ _ _); k_dflt (refine' ct_list (r_mul ?ia_z9 ?ib_z9 ?x_z9 ?y_z9 ?hw_z9 ?hw2_z9) ?B_z9 ?F_z9 ?X_z9 ?T_z9 ?k_z9 ?N_z9 ?p_z9 ?d_z9 ?u_z9 ?_; (case B_z9 => k_asm); (case F_z9 => k_asm); (case X_z9 => k_asm); (case T_z9 => k_asm); (case k_z9 => first | exact rfl | assumption); (case N_z9 => k_asm); (case p_z9 => exact ⟨by kmk_list, by kmk_list⟩); (case ia_z9 => l_ints); (case ib_z9 => l_ints); (case x_z9 => walk_at "mine num"); (case y_z9 => walk_at "mine num"); (case hw_z9 => assumption); (case hw2_z9 => assumption); (case d_z9 => ktr_room); (case u_z9 => ktr_units)); intro l9 us9 c9 h9 tk9 F9 N9 ne9 I9; (try dsimp only); (try k_fold)))
  (k_with "m call ref" => (k_here; (with_reducible show wpAny _ _ (call (Value.ref 74) _) _ _ _); k_dflt (refine' ct_list (r_sub ?ia_z9 ?ib_z9 ?x_z9 ?y_z9 ?hw_z9 ?hw2_z9 ?hle_z9) ?B_z9 ?F_z9 ?X_z9 ?T_z9 ?k_z9 ?N_z9 ?p_z9 ?d_z9 ?u_z9 ?_; (case B_z9 => k_asm); (case F_z9 => k_asm); (case X_z9 => k_asm); (case T_z9 => k_asm); (case k_z9 => first | exact rfl | assumption); (case N_z9 => k_asm); (case p_z9 => exact ⟨by kmk_list, by kmk_list⟩); (case ia_z9 => l_ints); (case ib_z9 => l_ints); (case x_z9 => walk_at "mine num"); (case y_z9 => walk_at "mine num"); (case hw_z9 => assumption); (case hw2_z9 => assumption); (case d_z9 => ktr_room); (case u_z9 => ktr_units); (case hle_z9 => first | assumption | k_extra "le")); intro l9 us9 c9 h9 tk9 F9 N9 ne9 I9; (try dsimp only); (try k_fold)))
  (k_with "m call ref" => (k_here; (with_reducible show wpAny _ _ (call (Value.ref 53) _) _ _ _); k_dflt (refine' ct_list (r_nat ?x_z9 ?hw_z9 ?hw2_z9) ?B_z9 ?F_z9 ?X_z9 ?T_z9 ?k_z9 ?N_z9 ?p_z9 ?d_z9 ?u_z9 ?_; (case B_z9 => k_asm); (case F_z9 => k_asm); (case X_z9 => k_asm); (case T_z9 => k_asm); (case k_z9 => first | exact rfl | assumption); (case N_z9 => k_asm); (case p_z9 => exact True.intro); (case x_z9 => walk_at "mine num"); (case hw_z9 => assumption); (case hw2_z9 => assumption); (case d_z9 => ktr_room); (case u_z9 => ktr_units)); intro l9 us9 c9 h9 tk9 F9 N9 ne9 I9; (try dsimp only); (try k_fold)))
  (k_with "m call ref" => (k_here; (with_reducible show wpAny _ _ (call (Value.ref 60) _) _ _ _); k_dflt (refine' ct_val (r_cmp (wv := ?wv_z9) ?ia_z9 ?ib_z9 ?x_z9 ?y_z9 ?hw_z9) ?B_z9 ?F_z9 ?X_z9 ?T_z9 ?k_z9 ?N_z9 ?p_z9 ?d_z9 ?u_z9 ?_; (case B_z9 => k_asm); (case F_z9 => k_asm); (case X_z9 => k_asm); (case T_z9 => k_asm); (case k_z9 => first | exact rfl | assumption); (case N_z9 => k_asm); (case p_z9 => exact ⟨by kmk_list, by kmk_list⟩); (case ia_z9 => l_ints); (case ib_z9 => l_ints); (case x_z9 => walk_at "mine num"); (case y_z9 => walk_at "mine num"); (case hw_z9 => assumption); (case d_z9 => ktr_room); (case u_z9 => ktr_units)); intro t9 h9 tk9 F9 N9; (try dsimp only); (try k_fold)))
  (k_with "m close" => ((rename News _ _ _ _ => nE'); refine' retS_of ?h_z9 ?F_z9 ?N_z9 ?t_z9 ?m_z9 ?i_z9 ?eb_z9 ?e_z9; (case h_z9 => assumption); (case N_z9 => exact nE'); (case F_z9 => assumption); (case t_z9 => k_mem); (case m_z9 => k_mem); (case i_z9 => l_ints); (case eb_z9 => k_extra "sign"); (case e_z9 => first | rfl | k_extra "ret")))
  (k_with "m subscriptTail" => (k_here; (with_reducible show wpAny _ _ (subscriptTail _ _ (Value.ref _) (Value.int _ _)) _ _ _); k_dflt (refine' item_tupleT (IsTup.keeps (by with_reducible assumption) (Fr.keep (by k_asm))) ?a_z9 ?b_z9 ?c_z9 ?d_z9 ?_; (case a_z9 => decide); (case b_z9 => decide); (case c_z9 => rfl); (case d_z9 => rfl); k_whole)))
  (k_with "m close" => ((rename News _ _ _ _ => nE'); refine' retT_of ?h_z9 ?F_z9 ?N_z9 ?t_z9 ?e_z9; (case h_z9 => assumption); (case N_z9 => exact nE'); (case F_z9 => assumption); (case t_z9 => k_mem); (case e_z9 => first | rfl | k_extra "ret")))
  (k_with "m exec For Name Name cons nil" => (k_here; (rename Fr _ _ _ _ => lF'); (with_unfolding_all refine' For_turns lF' ?_; k_whole)))
  k_fill
  intro pp lo mean mg mb dp un gd cn cs a ccd cl outer A₀ base h₀ L m s Q E B F X T hk hP hd hu hret
  have hnil : IntsAre [] (row (2 ^ wv.toNat) 0) := by rw [row_zero (by omega)]; exact .nil
  have hcap := cap_lt
  have hB := two_le (w := wv) (by omega)
  refine wpAny_call ?_
  k_dflt (refine' enter0 (binds := [(Str.ofString "groups", .ref 103), (Str.ofString "w", .int wv tw), (Str.ofString "mul", .ref 203)]) ?k1 ?k2 ?k3 ?k5 ?kA ?kF ?kK ?k6 ?k7 ?k8 ?k9 ?kB ?_ ?c2 ?c3 ?c4 ?c5; walk_at "mine enter")
  (k_with "num" => first | exact num_lit (by decide) (by decide) | fail)
  (k_with "ret" => first | rfl | fail)
  k_steps

theorem c_of_groups104 (w : World) (wv : Int) (tw : Tok) (hw : 2 ≤ wv) (hw2 : wv ≤ 9) :
    CT w 3 112 [.ref 104, .int wv tw, .ref 203] (fun _ => True) (RetL (row (2 ^ wv.toNat) 545140134)) := by
  unfold CT
  w_top off
  k_with_none
  (k_with "m mine enter" => ((case kA => exact rfl); (case kF => exact rfl); (case kK => assumption); (case k1 => k_asm); (case k2 => k_asm); (case k3 => k_asm); (case k5 => k_asm); (case k6 => k_is); (case k7 => k_is); (case k8 => ktr_room); (case k9 => exact BindsTo.of_eq rfl); (case c5 => decide); (case kB => exact locs rfl); (case c2 => exact rfl); (case c3 => exact rfl); (case c4 => exact rfl); k_whole; intro L' h' F' N' B' X' T'; (try dsimp only); (try k_fold)))
  (k_with "m close" => ((rename News _ _ _ _ => nE'); (try simp only [List.push_toArray] at nE'); refine' retL_of ?h_z9 ?F_z9 ?N_z9 ?m_z9 ?i_z9 ?e_z9; (case h_z9 => assumption); (case N_z9 => exact nE'); (case F_z9 => assumption); (case m_z9 => k_mem); (case i_z9 => first | with_reducible assumption | exact IntsAre.cons _ _ IntsAre.nil | k_intsEnd); (case e_z9 => k_extra "ret")))
  (k_with "m close" => (refine' retV_of _ ?h_z9 ?F_z9 ?e_z9; (case h_z9 => assumption); (case F_z9 => assumption); (case e_z9 => first | rfl | k_extra "ret")))
  (k_with "m exec" => ((with_reducible show wpAny _ _ (exec (PySem.Stmt.While _ _ _ _) _) _ _ _); k_extra "mine while"))
  (k_with "m mine num" => first | with_reducible assumption | k_extra "num")
  (k_with "m call ref" => (k_here; (with_reducible show wpAny _ _ (call (Value.ref 67) _) _ _ _); k_dflt (refine' ct_list (r_add ?ia_z9 ?ib_z9 ?x_z9 ?y_z9 ?hw_z9 ?hw2_z9) ?B_z9 ?F_z9 ?X_z9 ?T_z9 ?k_z9 ?N_z9 ?p_z9 ?d_z9 ?u_z9 ?_; (case B_z9 => k_asm); (case F_z9 => k_asm); (case X_z9 => k_asm); (case T_z9 => k_asm); (case k_z9 => first | exact rfl | assumption); (case N_z9 => k_asm); (case p_z9 => exact ⟨by kmk_list, by kmk_list⟩); (case ia_z9 => l_ints); (case ib_z9 => l_ints); (case x_z9 => walk_at "mine num"); (case y_z9 => walk_at "mine num"); (case hw_z9 => assumption); (case hw2_z9 => assumption); (case d_z9 => ktr_room); (case u_z9 => ktr_units)); intro l9 us9 c9 h9 tk9 F9 N9 ne9 I9; (try dsimp only); (try k_fold)))
  (k_with "m call ref" => (k_here; (with_reducible show wpAny _ _ (call (Value.ref 203) _) _ _ _); k_dflt (refine' ct_list (r_mul ?ia_z9 ?ib_z9 ?x_z9 ?y_z9 ?hw_z9 ?hw2_z9) ?B_z9 ?F_z9 ?X_z9 ?T_z9 ?k_z9 ?N_z9 ?p_z9 ?d_z9 ?u_z9 ?_; (case B_z9 => k_asm); (case F_z9 => k_asm); (case X_z9 => k_asm); (case T_z9 => k_asm); (case k_z9 => first | exact rfl | assumption); (case N_z9 => k_asm); (case p_z9 => exact ⟨by kmk_list, by kmk_list⟩); (case ia_z9 => l_ints); (case ib_z9 => l_ints); (case x_z9 => walk_at "mine num"); (case y_z9 => walk_at "mine num"); (case hw_z9 => assumption); (case hw2_z9 => assumption); (case d_z9 => ktr_room); (case u_z9 => ktr_units)); intro l9 us9 c9 h9 tk9 F9 N9 ne9 I9; (try dsimp only); (try k_fold)))
  (k_with "m call ref" => (k_here; (with_reducible show wpAny _ _ (call (Value.ref 74) _) _ _ _); k_dflt (refine' ct_list (r_sub ?ia_z9 ?ib_z9 ?x_z9 ?y_z9 ?hw_z9 ?hw2_z9 ?hle_z9) ?B_z9 ?F_z9 ?X_z9 ?T_z9 ?k_z9 ?N_z9 ?p_z9 ?d_z9 ?u_z9 ?_; (case B_z9 => k_asm); (case F_z9 => k_asm); (case X_z9 => k_asm); (case T_z9 => k_asm); (case k_z9 => first | exact rfl | assumption); (case N_z9 => k_asm); (case p_z9 => exact ⟨by kmk_list, by kmk_list⟩); (case ia_z9 => l_ints); (case ib_z9 => l_ints); (case x_z9 => walk_at "mine num"); (case y_z9 => walk_at "mine num"); (case hw_z9 => assumption); (case hw2_z9 => assumption); (case d_z9 => ktr_room); (case u_z9 => ktr_units); (case hle_z9 => first | assumption | k_extra "le")); intro l9 us9 c9 h9 tk9 F9 N9 ne9 I9; (try dsimp only); (try k_fold)))
  (k_with "m call ref" => (k_here; (with_reducible show wpAny _ _ (call (Value.ref 53) _) _ _ _); k_dflt (refine' ct_list (r_nat ?x_z9 ?hw_z9 ?hw2_z9) ?B_z9 ?F_z9 ?X_z9 ?T_z9 ?k_z9 ?N_z9 ?p_z9 ?d_z9 ?u_z9 ?_; (case B_z9 => k_asm); (case F_z9 => k_asm); (case X_z9 => k_asm); (case T_z9 => k_asm); (case k_z9 => first | exact rfl | assumption); (case N_z9 => k_asm); (case p_z9 => exact True.intro); (case x_z9 => walk_at "mine num"); (case hw_z9 => assumption); (case hw2_z9 => assumption); (case d_z9 => ktr_room); (case u_z9 => ktr_units)); intro l9 us9 c9 h9 tk9 F9 N9 ne9 I9; (try dsimp only); (try k_fold)))
  (k_with "m call ref" => (k_here; (with_reducible show wpAny _ _ (call (Value.ref 60) _) _ _ _); k_dflt (refine' ct_val (r_cmp (wv := ?wv_z9) ?ia_z9 ?ib_z9 ?x_z9 ?y_z9 ?hw_z9) ?B_z9 ?F_z9 ?X_z9 ?T_z9 ?k_z9 ?N_z9 ?p_z9 ?d_z9 ?u_z9 ?_; (case B_z9 => k_asm); (case F_z9 => k_asm); (case X_z9 => k_asm); (case T_z9 => k_asm); (case k_z9 => first | exact rfl | assumption); (case N_z9 => k_asm); (case p_z9 => exact ⟨by kmk_list, by kmk_list⟩); (case ia_z9 => l_ints); (case ib_z9 => l_ints); (case x_z9 => walk_at "mine num"); (case y_z9 => walk_at "mine num"); (case hw_z9 => assumption); (case d_z9 => ktr_room); (case u_z9 => ktr_units)); intro t9 h9 tk9 F9 N9; (try dsimp only); (try k_fold)))
  (k_with "m close" => ((rename News _ _ _ _ => nE'); refine' retS_of ?h_z9 ?F_z9 ?N_z9 ?t_z9 ?m_z9 ?i_z9 ?eb_z9 ?e_z9; (case h_z9 => assumption); (case N_z9 => exact nE'); (case F_z9 => assumption); (case t_z9 => k_mem); (case m_z9 => k_mem); (case i_z9 => l_ints); (case eb_z9 => k_extra "sign"); (case e_z9 => first | rfl | k_extra "ret")))
  (k_with "m subscriptTail" => (k_here; (with_reducible show wpAny _ _ (subscriptTail _ _ (Value.ref _) (Value.int _ _)) _ _ _); k_dflt (refine' item_tupleT (IsTup.keeps (by with_reducible assumption) (Fr.keep (by k_asm))) ?a_z9 ?b_z9 ?c_z9 ?d_z9 ?_; (case a_z9 => decide); (case b_z9 => decide); (case c_z9 => rfl); (case d_z9 => rfl); k_whole)))
  (k_with "m close" => ((rename News _ _ _ _ => nE'); refine' retT_of ?h_z9 ?F_z9 ?N_z9 ?t_z9 ?e_z9; (case h_z9 => assumption); (case N_z9 => exact nE'); (case F_z9 => assumption); (case t_z9 => k_mem); (case e_z9 => first | rfl | k_extra "ret")))
  (k_with "m exec For Name Name cons nil" => (k_here; (rename Fr _ _ _ _ => lF'); (with_unfolding_all refine' For_turns lF' ?_; k_whole)))
  k_fill
  intro pp lo mean mg mb dp un gd cn cs a ccd cl outer A₀ base h₀ L m s Q E B F X T hk hP hd hu hret
  have hnil : IntsAre [] (row (2 ^ wv.toNat) 0) := by rw [row_zero (by omega)]; exact .nil
  have hcap := cap_lt
  have hB := two_le (w := wv) (by omega)
  refine wpAny_call ?_
  k_dflt (refine' enter0 (binds := [(Str.ofString "groups", .ref 104), (Str.ofString "w", .int wv tw), (Str.ofString "mul", .ref 203)]) ?k1 ?k2 ?k3 ?k5 ?kA ?kF ?kK ?k6 ?k7 ?k8 ?k9 ?kB ?_ ?c2 ?c3 ?c4 ?c5; walk_at "mine enter")
  (k_with "num" => first | exact num_lit (by decide) (by decide) | fail)
  (k_with "ret" => first | rfl | fail)
  k_steps

end
section
theorem c_prod (w : World) (wv : Int) (hw : 2 ≤ wv) (hw2 : wv ≤ 9) : ∀ (n : Nat) (l : Addr) (tw : Tok) (vs : List Value) (ns : List Int) (_ : ns.length = n) (_ : IntsAre vs ns) (_ : Cnt ns) (_ : ns.length ≤ 20),
    CT w (n + 4) 81 [.ref l, .int wv tw, .ref 203] (fun h => h.IsList l (List.toArray vs)) (RetL (row (2 ^ wv.toNat) (prodL ns))) := by
  intro n
  induction n using Nat.strongRecOn with
  | ind n IH =>
  intro l tw vs ns hn hia hc h20
  unfold CT
  w_top off
  k_with_none
  (k_with "m mine enter" => ((case kA => exact rfl); (case kF => exact rfl); (case kK => assumption); (case k1 => k_asm); (case k2 => k_asm); (case k3 => k_asm); (case k5 => k_asm); (case k6 => k_is); (case k7 => k_is); (case k8 => ktr_room); (case k9 => exact BindsTo.of_eq rfl); (case c5 => decide); (case kB => exact locs rfl); (case c2 => exact rfl); (case c3 => exact rfl); (case c4 => exact rfl); k_whole; intro L' h' F' N' B' X' T'; (try dsimp only); (try k_fold)))
  (k_with "m close" => ((rename News _ _ _ _ => nE'); (try simp only [List.push_toArray] at nE'); refine' retL_of ?h_z9 ?F_z9 ?N_z9 ?m_z9 ?i_z9 ?e_z9; (case h_z9 => assumption); (case N_z9 => exact nE'); (case F_z9 => assumption); (case m_z9 => k_mem); (case i_z9 => first | with_reducible assumption | exact IntsAre.cons _ _ IntsAre.nil | k_intsEnd); (case e_z9 => k_extra "ret")))
  (k_with "m close" => (refine' retV_of _ ?h_z9 ?F_z9 ?e_z9; (case h_z9 => assumption); (case F_z9 => assumption); (case e_z9 => first | rfl | k_extra "ret")))
  (k_with "m exec" => ((with_reducible show wpAny _ _ (exec (PySem.Stmt.While _ _ _ _) _) _ _ _); k_extra "mine while"))
  (k_with "m mine num" => first | with_reducible assumption | k_extra "num")
  (k_with "m call ref" => (k_here; (with_reducible show wpAny _ _ (call (Value.ref 67) _) _ _ _); k_dflt (refine' ct_list (r_add ?ia_z9 ?ib_z9 ?x_z9 ?y_z9 ?hw_z9 ?hw2_z9) ?B_z9 ?F_z9 ?X_z9 ?T_z9 ?k_z9 ?N_z9 ?p_z9 ?d_z9 ?u_z9 ?_; (case B_z9 => k_asm); (case F_z9 => k_asm); (case X_z9 => k_asm); (case T_z9 => k_asm); (case k_z9 => first | exact rfl | assumption); (case N_z9 => k_asm); (case p_z9 => exact ⟨by kmk_list, by kmk_list⟩); (case ia_z9 => l_ints); (case ib_z9 => l_ints); (case x_z9 => walk_at "mine num"); (case y_z9 => walk_at "mine num"); (case hw_z9 => assumption); (case hw2_z9 => assumption); (case d_z9 => ktr_room); (case u_z9 => ktr_units)); intro l9 us9 c9 h9 tk9 F9 N9 ne9 I9; (try dsimp only); (try k_fold)))
  (k_with "m call ref" => (k_here; (with_reducible show wpAny _ _ (call (Value.ref 203) _) _ _ _); k_dflt (refine' ct_list (r_mul ?ia_z9 ?ib_z9 ?x_z9 ?y_z9 ?hw_z9 ?hw2_z9) ?B_z9 ?F_z9 ?X_z9 ?T_z9 ?k_z9 ?N_z9 ?p_z9 ?d_z9 ?u_z9 ?_; (case B_z9 => k_asm); (case F_z9 => k_asm); (case X_z9 => k_asm); (case T_z9 => k_asm); (case k_z9 => first | exact rfl | assumption); (case N_z9 => k_asm); (case p_z9 => exact ⟨by kmk_list, by kmk_list⟩); (case ia_z9 => l_ints); (case ib_z9 => l_ints); (case x_z9 => walk_at "mine num"); (case y_z9 => walk_at "mine num"); (case hw_z9 => assumption); (case hw2_z9 => assumption); (case d_z9 => ktr_room); (case u_z9 => ktr_units)); intro l9 us9 c9 h9 tk9 F9 N9 ne9 I9; (try dsimp only); (try k_fold)))
  (k_with "m call ref" => (k_here; (with_reducible show wpAny _ _ (call (Value.ref 74) _) _ _ _); k_dflt (refine' ct_list (r_sub ?ia_z9 ?ib_z9 ?x_z9 ?y_z9 ?hw_z9 ?hw2_z9 ?hle_z9) ?B_z9 ?F_z9 ?X_z9 ?T_z9 ?k_z9 ?N_z9 ?p_z9 ?d_z9 ?u_z9 ?_; (case B_z9 => k_asm); (case F_z9 => k_asm); (case X_z9 => k_asm); (case T_z9 => k_asm); (case k_z9 => first | exact rfl | assumption); (case N_z9 => k_asm); (case p_z9 => exact ⟨by kmk_list, by kmk_list⟩); (case ia_z9 => l_ints); (case ib_z9 => l_ints); (case x_z9 => walk_at "mine num"); (case y_z9 => walk_at "mine num"); (case hw_z9 => assumption); (case hw2_z9 => assumption); (case d_z9 => ktr_room); (case u_z9 => ktr_units); (case hle_z9 => first | assumption | k_extra "le")); intro l9 us9 c9 h9 tk9 F9 N9 ne9 I9; (try dsimp only); (try k_fold)))
  (k_with "m call ref" => (k_here; (with_reducible show wpAny _ _ (call (Value.ref 53) _) _ _ _); k_dflt (refine' ct_list (r_nat ?x_z9 ?hw_z9 ?hw2_z9) ?B_z9 ?F_z9 ?X_z9 ?T_z9 ?k_z9 ?N_z9 ?p_z9 ?d_z9 ?u_z9 ?_; (case B_z9 => k_asm); (case F_z9 => k_asm); (case X_z9 => k_asm); (case T_z9 => k_asm); (case k_z9 => first | exact rfl | assumption); (case N_z9 => k_asm); (case p_z9 => exact True.intro); (case x_z9 => walk_at "mine num"); (case hw_z9 => assumption); (case hw2_z9 => assumption); (case d_z9 => ktr_room); (case u_z9 => ktr_units)); intro l9 us9 c9 h9 tk9 F9 N9 ne9 I9; (try dsimp only); (try k_fold)))
  (k_with "m call ref" => (k_here; (with_reducible show wpAny _ _ (call (Value.ref 60) _) _ _ _); k_dflt (refine' ct_val (r_cmp (wv := ?wv_z9) ?ia_z9 ?ib_z9 ?x_z9 ?y_z9 ?hw_z9) ?B_z9 ?F_z9 ?X_z9 ?T_z9 ?k_z9 ?N_z9 ?p_z9 ?d_z9 ?u_z9 ?_; (case B_z9 => k_asm); (case F_z9 => k_asm); (case X_z9 => k_asm); (case T_z9 => k_asm); (case k_z9 => first | exact rfl | assumption); (case N_z9 => k_asm); (case p_z9 => exact ⟨by kmk_list, by kmk_list⟩); (case ia_z9 => l_ints); (case ib_z9 => l_ints); (case x_z9 => walk_at "mine num"); (case y_z9 => walk_at "mine num"); (case hw_z9 => assumption); (case d_z9 => ktr_room); (case u_z9 => ktr_units)); intro t9 h9 tk9 F9 N9; (try dsimp only); (try k_fold)))
  (k_with "m close" => ((rename News _ _ _ _ => nE'); refine' retS_of ?h_z9 ?F_z9 ?N_z9 ?t_z9 ?m_z9 ?i_z9 ?eb_z9 ?e_z9; (case h_z9 => assumption); (case N_z9 => exact nE'); (case F_z9 => assumption); (case t_z9 => k_mem); (case m_z9 => k_mem); (case i_z9 => l_ints); (case eb_z9 => k_extra "sign"); (case e_z9 => first | rfl | k_extra "ret")))
  (k_with "m subscriptTail" => (k_here; (with_reducible show wpAny _ _ (subscriptTail _ _ (Value.ref _) (Value.int _ _)) _ _ _); k_dflt (refine' item_tupleT (IsTup.keeps (by with_reducible assumption) (Fr.keep (by k_asm))) ?a_z9 ?b_z9 ?c_z9 ?d_z9 ?_; (case a_z9 => decide); (case b_z9 => decide); (case c_z9 => rfl); (case d_z9 => rfl); k_whole)))
  (k_with "m close" => ((rename News _ _ _ _ => nE'); refine' retT_of ?h_z9 ?F_z9 ?N_z9 ?t_z9 ?e_z9; (case h_z9 => assumption); (case N_z9 => exact nE'); (case F_z9 => assumption); (case t_z9 => k_mem); (case e_z9 => first | rfl | k_extra "ret")))
  k_fill
  intro pp lo mean mg mb dp un gd cn cs a ccd cl outer A₀ base h₀ L m s Q E B F X T hk hP hd hu hret
  have hB := two_le (w := wv) (by omega)
  have hq : (ns.length : Int).fdiv 2 = ((ns.length / 2 : Nat) : Int) := by rw [Int.fdiv_eq_ediv_of_nonneg _ (by decide)]; omega
  have hh0 : 0 ≤ (ns.length : Int).fdiv 2 := by omega
  have hnil : IntsAre [] [] := .nil
  refine wpAny_call ?_
  k_dflt (refine' enter0 (binds := [(Str.ofString "some", .ref l), (Str.ofString "w", .int wv tw), (Str.ofString "mul", .ref 203)]) ?k1 ?k2 ?k3 ?k5 ?kA ?kF ?kK ?k6 ?k7 ?k8 ?k9 ?kB ?_ ?c2 ?c3 ?c4 ?c5; walk_at "mine enter")
  (k_with "call ref" => (with_reducible show wpAny _ _ (call (Value.ref 81) _) _ _ _); k_dflt (refine' ct_list (IH _ ?q9lt _ _ _ _ rfl ?q9ia ?q9cn ?q9l20) ?q9B ?q9F ?q9X ?q9T ?q9k ?q9N ?q9p ?q9d ?q9u ?_; (case q9B => k_asm); (case q9F => k_asm); (case q9X => k_asm); (case q9T => k_asm); (case q9k => first | exact rfl | assumption); (case q9N => k_asm); (case q9p => kmk_list); (case q9ia => l_ints); (case q9cn => first | exact cnt_take hc _ | exact cnt_drop hc _); (case q9lt => (simp only [List.length_take, List.length_drop]; omega)); (case q9l20 => (simp only [List.length_take, List.length_drop]; omega)); (case q9d => ((simp only [List.length_take, List.length_drop]); ktr_room)); (case q9u => ((simp only [List.length_take, List.length_drop]); ktr_units))); intro l9 us9 c9 h9 tk9 F9 N9 ne9 I9; (try dsimp only); (try k_fold))
  (k_with "num" => first | exact cnt_one hc (by with_reducible assumption) | exact num_prod (cnt_take hc _) (by simp only [List.length_take, List.length_drop]; omega) | exact num_prod (cnt_drop hc _) (by simp only [List.length_take, List.length_drop]; omega) | fail)
  (k_with "ret" => first | exact none_prod hB (by with_reducible assumption) | exact one_prod (by with_reducible assumption) | exact congrArg _ (prodL_split ns _) | fail)
  k_steps

end
section
theorem c_smul (w : World) (wv x y : Int) (b₁ b₂ : Bool) (ta tb : Addr) (tw : Tok) (hx : Num x) (hy : Num y) (hxy : Num (x * y)) (hw : 2 ≤ wv) (hw2 : wv ≤ 9) :
    CT w 3 102 [.ref ta, .ref tb, .int wv tw, .ref 203] (fun h => STup (2 ^ wv.toNat) b₁ x h ta ∧ STup (2 ^ wv.toNat) b₂ y h tb) (RetS (2 ^ wv.toNat) (smulB b₁ x b₂ y) (x * y)) := by
  unfold CT
  w_top off
  k_with_none
  (k_with "m mine enter" => ((case kA => exact rfl); (case kF => exact rfl); (case kK => assumption); (case k1 => k_asm); (case k2 => k_asm); (case k3 => k_asm); (case k5 => k_asm); (case k6 => k_is); (case k7 => k_is); (case k8 => ktr_room); (case k9 => exact BindsTo.of_eq rfl); (case c5 => decide); (case kB => exact locs rfl); (case c2 => exact rfl); (case c3 => exact rfl); (case c4 => exact rfl); k_whole; intro L' h' F' N' B' X' T'; (try dsimp only); (try k_fold)))
  (k_with "m close" => ((rename News _ _ _ _ => nE'); (try simp only [List.push_toArray] at nE'); refine' retL_of ?h_z9 ?F_z9 ?N_z9 ?m_z9 ?i_z9 ?e_z9; (case h_z9 => assumption); (case N_z9 => exact nE'); (case F_z9 => assumption); (case m_z9 => k_mem); (case i_z9 => first | with_reducible assumption | exact IntsAre.cons _ _ IntsAre.nil | k_intsEnd); (case e_z9 => k_extra "ret")))
  (k_with "m close" => (refine' retV_of _ ?h_z9 ?F_z9 ?e_z9; (case h_z9 => assumption); (case F_z9 => assumption); (case e_z9 => first | rfl | k_extra "ret")))
  (k_with "m exec" => ((with_reducible show wpAny _ _ (exec (PySem.Stmt.While _ _ _ _) _) _ _ _); k_extra "mine while"))
  (k_with "m mine num" => first | with_reducible assumption | k_extra "num")
  (k_with "m call ref" => (k_here; (with_reducible show wpAny _ _ (call (Value.ref 67) _) _ _ _); k_dflt (refine' ct_list (r_add ?ia_z9 ?ib_z9 ?x_z9 ?y_z9 ?hw_z9 ?hw2_z9) ?B_z9 ?F_z9 ?X_z9 ?T_z9 ?k_z9 ?N_z9 ?p_z9 ?d_z9 ?u_z9 ?_; (case B_z9 => k_asm); (case F_z9 => k_asm); (case X_z9 => k_asm); (case T_z9 => k_asm); (case k_z9 => first | exact rfl | assumption); (case N_z9 => k_asm); (case p_z9 => exact ⟨by kmk_list, by kmk_list⟩); (case ia_z9 => l_ints); (case ib_z9 => l_ints); (case x_z9 => walk_at "mine num"); (case y_z9 => walk_at "mine num"); (case hw_z9 => assumption); (case hw2_z9 => assumption); (case d_z9 => ktr_room); (case u_z9 => ktr_units)); intro l9 us9 c9 h9 tk9 F9 N9 ne9 I9; (try dsimp only); (try k_fold)))
  (k_with "m call ref" => (k_here; (with_reducible show wpAny _ _ (call (Value.ref 203) _) _ _ _); k_dflt (refine' ct_list (r_mul ?ia_z9 ?ib_z9 ?x_z9 ?y_z9 ?hw_z9 ?hw2_z9) ?B_z9 ?F_z9 ?X_z9 ?T_z9 ?k_z9 ?N_z9 ?p_z9 ?d_z9 ?u_z9 ?_; (case B_z9 => k_asm); (case F_z9 => k_asm); (case X_z9 => k_asm); (case T_z9 => k_asm); (case k_z9 => first | exact rfl | assumption); (case N_z9 => k_asm); (case p_z9 => exact ⟨by kmk_list, by kmk_list⟩); (case ia_z9 => l_ints); (case ib_z9 => l_ints); (case x_z9 => walk_at "mine num"); (case y_z9 => walk_at "mine num"); (case hw_z9 => assumption); (case hw2_z9 => assumption); (case d_z9 => ktr_room); (case u_z9 => ktr_units)); intro l9 us9 c9 h9 tk9 F9 N9 ne9 I9; (try dsimp only); (try k_fold)))
  (k_with "m call ref" => (k_here; (with_reducible show wpAny _ _ (call (Value.ref 74) _) _ _ _); k_dflt (refine' ct_list (r_sub ?ia_z9 ?ib_z9 ?x_z9 ?y_z9 ?hw_z9 ?hw2_z9 ?hle_z9) ?B_z9 ?F_z9 ?X_z9 ?T_z9 ?k_z9 ?N_z9 ?p_z9 ?d_z9 ?u_z9 ?_; (case B_z9 => k_asm); (case F_z9 => k_asm); (case X_z9 => k_asm); (case T_z9 => k_asm); (case k_z9 => first | exact rfl | assumption); (case N_z9 => k_asm); (case p_z9 => exact ⟨by kmk_list, by kmk_list⟩); (case ia_z9 => l_ints); (case ib_z9 => l_ints); (case x_z9 => walk_at "mine num"); (case y_z9 => walk_at "mine num"); (case hw_z9 => assumption); (case hw2_z9 => assumption); (case d_z9 => ktr_room); (case u_z9 => ktr_units); (case hle_z9 => first | assumption | k_extra "le")); intro l9 us9 c9 h9 tk9 F9 N9 ne9 I9; (try dsimp only); (try k_fold)))
  (k_with "m call ref" => (k_here; (with_reducible show wpAny _ _ (call (Value.ref 53) _) _ _ _); k_dflt (refine' ct_list (r_nat ?x_z9 ?hw_z9 ?hw2_z9) ?B_z9 ?F_z9 ?X_z9 ?T_z9 ?k_z9 ?N_z9 ?p_z9 ?d_z9 ?u_z9 ?_; (case B_z9 => k_asm); (case F_z9 => k_asm); (case X_z9 => k_asm); (case T_z9 => k_asm); (case k_z9 => first | exact rfl | assumption); (case N_z9 => k_asm); (case p_z9 => exact True.intro); (case x_z9 => walk_at "mine num"); (case hw_z9 => assumption); (case hw2_z9 => assumption); (case d_z9 => ktr_room); (case u_z9 => ktr_units)); intro l9 us9 c9 h9 tk9 F9 N9 ne9 I9; (try dsimp only); (try k_fold)))
  (k_with "m call ref" => (k_here; (with_reducible show wpAny _ _ (call (Value.ref 60) _) _ _ _); k_dflt (refine' ct_val (r_cmp (wv := ?wv_z9) ?ia_z9 ?ib_z9 ?x_z9 ?y_z9 ?hw_z9) ?B_z9 ?F_z9 ?X_z9 ?T_z9 ?k_z9 ?N_z9 ?p_z9 ?d_z9 ?u_z9 ?_; (case B_z9 => k_asm); (case F_z9 => k_asm); (case X_z9 => k_asm); (case T_z9 => k_asm); (case k_z9 => first | exact rfl | assumption); (case N_z9 => k_asm); (case p_z9 => exact ⟨by kmk_list, by kmk_list⟩); (case ia_z9 => l_ints); (case ib_z9 => l_ints); (case x_z9 => walk_at "mine num"); (case y_z9 => walk_at "mine num"); (case hw_z9 => assumption); (case d_z9 => ktr_room); (case u_z9 => ktr_units)); intro t9 h9 tk9 F9 N9; (try dsimp only); (try k_fold)))
  (k_with "m close" => ((rename News _ _ _ _ => nE'); refine' retS_of ?h_z9 ?F_z9 ?N_z9 ?t_z9 ?m_z9 ?i_z9 ?eb_z9 ?e_z9; (case h_z9 => assumption); (case N_z9 => exact nE'); (case F_z9 => assumption); (case t_z9 => k_mem); (case m_z9 => k_mem); (case i_z9 => l_ints); (case eb_z9 => k_extra "sign"); (case e_z9 => first | rfl | k_extra "ret")))
  (k_with "m subscriptTail" => (k_here; (with_reducible show wpAny _ _ (subscriptTail _ _ (Value.ref _) (Value.int _ _)) _ _ _); k_dflt (refine' item_tupleT (IsTup.keeps (by with_reducible assumption) (Fr.keep (by k_asm))) ?a_z9 ?b_z9 ?c_z9 ?d_z9 ?_; (case a_z9 => decide); (case b_z9 => decide); (case c_z9 => rfl); (case d_z9 => rfl); k_whole)))
  (k_with "m close" => ((rename News _ _ _ _ => nE'); refine' retT_of ?h_z9 ?F_z9 ?N_z9 ?t_z9 ?e_z9; (case h_z9 => assumption); (case N_z9 => exact nE'); (case F_z9 => assumption); (case t_z9 => k_mem); (case e_z9 => first | rfl | k_extra "ret")))
  (k_with "m call ref" => (k_here; (with_reducible show wpAny _ _ (call (Value.ref 88) _) _ _ _); k_dflt (refine' ct_tup (r_signed (wv := ?wv_z9) ?ia_z9 ?x_z9 ?hw_z9) ?B_z9 ?F_z9 ?X_z9 ?T_z9 ?k_z9 ?N_z9 ?p_z9 ?d_z9 ?u_z9 ?_; (case B_z9 => k_asm); (case F_z9 => k_asm); (case X_z9 => k_asm); (case T_z9 => k_asm); (case k_z9 => first | exact rfl | assumption); (case N_z9 => k_asm); (case p_z9 => kmk_list); (case ia_z9 => l_ints); (case x_z9 => walk_at "mine num"); (case hw_z9 => assumption); (case d_z9 => ktr_room); (case u_z9 => ktr_units)); intro t9 h9 tk9 F9 N9 ne9; (try dsimp only); (try k_fold)))
  k_fill
  intro pp lo mean mg mb dp un gd cn cs a ccd cl outer A₀ base h₀ L m s Q E B F X T hk hP hd hu hret
  obtain ⟨⟨la, va, c1, hta, hla, hia⟩, ⟨lb, vb, c2, htb, hlb, hib⟩⟩ := hP
  have hPa := lstIs hla
  have hPb := lstIs hlb
  have hTa := tupIs hta
  have hTb := tupIs htb
  have hB := two_le (w := wv) (by omega)
  have hxc := row_cap hB hx
  have hyc := row_cap hB hy
  have hcap := cap_lt
  refine wpAny_call ?_
  k_dflt (refine' enter0 (binds := [(Str.ofString "x", .ref ta), (Str.ofString "y", .ref tb), (Str.ofString "w", .int wv tw), (Str.ofString "mul", .ref 203)]) ?k1 ?k2 ?k3 ?k5 ?kA ?kF ?kK ?k6 ?k7 ?k8 ?k9 ?kB ?_ ?c2 ?c3 ?c4 ?c5; walk_at "mine enter")
  (k_with "sign" => first | rfl | fail)
  k_steps

end
section
theorem sadd_eqB {b₁ b₂ : Bool} {x y : Int} (h : (b₁ == b₂) = true) : (b₁ && decide (0 < x + y)) = saddB b₁ x b₂ y := by
  unfold saddB; rw [if_pos (by simpa using h)]
theorem sadd_ltB {b₁ b₂ : Bool} {x y : Int} (h : (b₁ == b₂) = false) (q : cmpI x y < 0) : (b₂ && decide (0 < y - x)) = saddB b₁ x b₂ y := by
  have q' : x < y := by unfold cmpI at q; split at q; assumption; split at q <;> omega
  unfold saddB; rw [if_neg (by simpa using h), if_pos q']
theorem sadd_geB {b₁ b₂ : Bool} {x y : Int} (h : (b₁ == b₂) = false) (q : ¬ cmpI x y < 0) : (b₁ && decide (0 < x - y)) = saddB b₁ x b₂ y := by
  have q' : ¬ x < y := by intro e; apply q; unfold cmpI; rw [if_pos e]; omega
  unfold saddB; rw [if_neg (by simpa using h), if_neg q']
theorem sadd_eqM {b₁ b₂ : Bool} {x y B : Int} (h : (b₁ == b₂) = true) : row B (x + y) = row B (saddM b₁ x b₂ y) := by
  unfold saddM; rw [if_pos (by simpa using h)]
theorem sadd_ltM {b₁ b₂ : Bool} {x y B : Int} (h : (b₁ == b₂) = false) (q : cmpI x y < 0) : row B (y - x) = row B (saddM b₁ x b₂ y) := by
  have q' : x < y := by unfold cmpI at q; split at q; assumption; split at q <;> omega
  unfold saddM; rw [if_neg (by simpa using h), if_pos q']
theorem sadd_geM {b₁ b₂ : Bool} {x y B : Int} (h : (b₁ == b₂) = false) (q : ¬ cmpI x y < 0) : row B (x - y) = row B (saddM b₁ x b₂ y) := by
  have q' : ¬ x < y := by intro e; apply q; unfold cmpI; rw [if_pos e]; omega
  unfold saddM; rw [if_neg (by simpa using h), if_neg q']
theorem cmp_lt {x y : Int} (q : cmpI x y < 0) : x ≤ y := by unfold cmpI at q; split at q; omega; split at q <;> omega
theorem cmp_ge {x y : Int} (q : ¬ cmpI x y < 0) : y ≤ x := by
  have q' : ¬ x < y := by intro e; apply q; unfold cmpI; rw [if_pos e]; omega
  omega
theorem num_sub {x y : Int} (hx : Num x) (hy : Num y) (h : y ≤ x) : Num (x - y) := ⟨by omega, Int.lt_of_le_of_lt (by have := hy.nn; omega) hx.lt⟩
theorem c_sadd (w : World) (wv x y : Int) (b₁ b₂ : Bool) (ta tb : Addr) (tw : Tok) (hx : Num x) (hy : Num y) (hxy : Num (x + y)) (hw : 2 ≤ wv) (hw2 : wv ≤ 9) :
    CT w 3 95 [.ref ta, .ref tb, .int wv tw] (fun h => STup (2 ^ wv.toNat) b₁ x h ta ∧ STup (2 ^ wv.toNat) b₂ y h tb) (RetS (2 ^ wv.toNat) (saddB b₁ x b₂ y) (saddM b₁ x b₂ y)) := by
  unfold CT
  w_top off
  k_with_none
  (k_with "m mine enter" => ((case kA => exact rfl); (case kF => exact rfl); (case kK => assumption); (case k1 => k_asm); (case k2 => k_asm); (case k3 => k_asm); (case k5 => k_asm); (case k6 => k_is); (case k7 => k_is); (case k8 => ktr_room); (case k9 => exact BindsTo.of_eq rfl); (case c5 => decide); (case kB => exact locs rfl); (case c2 => exact rfl); (case c3 => exact rfl); (case c4 => exact rfl); k_whole; intro L' h' F' N' B' X' T'; (try dsimp only); (try k_fold)))
  (k_with "m close" => ((rename News _ _ _ _ => nE'); (try simp only [List.push_toArray] at nE'); refine' retL_of ?h_z9 ?F_z9 ?N_z9 ?m_z9 ?i_z9 ?e_z9; (case h_z9 => assumption); (case N_z9 => exact nE'); (case F_z9 => assumption); (case m_z9 => k_mem); (case i_z9 => first | with_reducible assumption | exact IntsAre.cons _ _ IntsAre.nil | k_intsEnd); (case e_z9 => k_extra "ret")))
  (k_with "m close" => (refine' retV_of _ ?h_z9 ?F_z9 ?e_z9; (case h_z9 => assumption); (case F_z9 => assumption); (case e_z9 => first | rfl | k_extra "ret")))
  (k_with "m exec" => ((with_reducible show wpAny _ _ (exec (PySem.Stmt.While _ _ _ _) _) _ _ _); k_extra "mine while"))
  (k_with "m mine num" => first | with_reducible assumption | k_extra "num")
  (k_with "m call ref" => (k_here; (with_reducible show wpAny _ _ (call (Value.ref 67) _) _ _ _); k_dflt (refine' ct_list (r_add ?ia_z9 ?ib_z9 ?x_z9 ?y_z9 ?hw_z9 ?hw2_z9) ?B_z9 ?F_z9 ?X_z9 ?T_z9 ?k_z9 ?N_z9 ?p_z9 ?d_z9 ?u_z9 ?_; (case B_z9 => k_asm); (case F_z9 => k_asm); (case X_z9 => k_asm); (case T_z9 => k_asm); (case k_z9 => first | exact rfl | assumption); (case N_z9 => k_asm); (case p_z9 => exact ⟨by kmk_list, by kmk_list⟩); (case ia_z9 => l_ints); (case ib_z9 => l_ints); (case x_z9 => walk_at "mine num"); (case y_z9 => walk_at "mine num"); (case hw_z9 => assumption); (case hw2_z9 => assumption); (case d_z9 => ktr_room); (case u_z9 => ktr_units)); intro l9 us9 c9 h9 tk9 F9 N9 ne9 I9; (try dsimp only); (try k_fold)))
  (k_with "m call ref" => (k_here; (with_reducible show wpAny _ _ (call (Value.ref 203) _) _ _ _); k_dflt (refine' ct_list (r_mul ?ia_z9 ?ib_z9 ?x_z9 ?y_z9 ?hw_z9 ?hw2_z9) ?B_z9 ?F_z9 ?X_z9 ?T_z9 ?k_z9 ?N_z9 ?p_z9 ?d_z9 ?u_z9 ?_; (case B_z9 => k_asm); (case F_z9 => k_asm); (case X_z9 => k_asm); (case T_z9 => k_asm); (case k_z9 => first | exact rfl | assumption); (case N_z9 => k_asm); (case p_z9 => exact ⟨by kmk_list, by kmk_list⟩); (case ia_z9 => l_ints); (case ib_z9 => l_ints); (case x_z9 => walk_at "mine num"); (case y_z9 => walk_at "mine num"); (case hw_z9 => assumption); (case hw2_z9 => assumption); (case d_z9 => ktr_room); (case u_z9 => ktr_units)); intro l9 us9 c9 h9 tk9 F9 N9 ne9 I9; (try dsimp only); (try k_fold)))
  (k_with "m call ref" => (k_here; (with_reducible show wpAny _ _ (call (Value.ref 74) _) _ _ _); k_dflt (refine' ct_list (r_sub ?ia_z9 ?ib_z9 ?x_z9 ?y_z9 ?hw_z9 ?hw2_z9 ?hle_z9) ?B_z9 ?F_z9 ?X_z9 ?T_z9 ?k_z9 ?N_z9 ?p_z9 ?d_z9 ?u_z9 ?_; (case B_z9 => k_asm); (case F_z9 => k_asm); (case X_z9 => k_asm); (case T_z9 => k_asm); (case k_z9 => first | exact rfl | assumption); (case N_z9 => k_asm); (case p_z9 => exact ⟨by kmk_list, by kmk_list⟩); (case ia_z9 => l_ints); (case ib_z9 => l_ints); (case x_z9 => walk_at "mine num"); (case y_z9 => walk_at "mine num"); (case hw_z9 => assumption); (case hw2_z9 => assumption); (case d_z9 => ktr_room); (case u_z9 => ktr_units); (case hle_z9 => first | assumption | k_extra "le")); intro l9 us9 c9 h9 tk9 F9 N9 ne9 I9; (try dsimp only); (try k_fold)))
  (k_with "m call ref" => (k_here; (with_reducible show wpAny _ _ (call (Value.ref 53) _) _ _ _); k_dflt (refine' ct_list (r_nat ?x_z9 ?hw_z9 ?hw2_z9) ?B_z9 ?F_z9 ?X_z9 ?T_z9 ?k_z9 ?N_z9 ?p_z9 ?d_z9 ?u_z9 ?_; (case B_z9 => k_asm); (case F_z9 => k_asm); (case X_z9 => k_asm); (case T_z9 => k_asm); (case k_z9 => first | exact rfl | assumption); (case N_z9 => k_asm); (case p_z9 => exact True.intro); (case x_z9 => walk_at "mine num"); (case hw_z9 => assumption); (case hw2_z9 => assumption); (case d_z9 => ktr_room); (case u_z9 => ktr_units)); intro l9 us9 c9 h9 tk9 F9 N9 ne9 I9; (try dsimp only); (try k_fold)))
  (k_with "m call ref" => (k_here; (with_reducible show wpAny _ _ (call (Value.ref 60) _) _ _ _); k_dflt (refine' ct_val (r_cmp (wv := ?wv_z9) ?ia_z9 ?ib_z9 ?x_z9 ?y_z9 ?hw_z9) ?B_z9 ?F_z9 ?X_z9 ?T_z9 ?k_z9 ?N_z9 ?p_z9 ?d_z9 ?u_z9 ?_; (case B_z9 => k_asm); (case F_z9 => k_asm); (case X_z9 => k_asm); (case T_z9 => k_asm); (case k_z9 => first | exact rfl | assumption); (case N_z9 => k_asm); (case p_z9 => exact ⟨by kmk_list, by kmk_list⟩); (case ia_z9 => l_ints); (case ib_z9 => l_ints); (case x_z9 => walk_at "mine num"); (case y_z9 => walk_at "mine num"); (case hw_z9 => assumption); (case d_z9 => ktr_room); (case u_z9 => ktr_units)); intro t9 h9 tk9 F9 N9; (try dsimp only); (try k_fold)))
  (k_with "m close" => ((rename News _ _ _ _ => nE'); refine' retS_of ?h_z9 ?F_z9 ?N_z9 ?t_z9 ?m_z9 ?i_z9 ?eb_z9 ?e_z9; (case h_z9 => assumption); (case N_z9 => exact nE'); (case F_z9 => assumption); (case t_z9 => k_mem); (case m_z9 => k_mem); (case i_z9 => l_ints); (case eb_z9 => k_extra "sign"); (case e_z9 => first | rfl | k_extra "ret")))
  (k_with "m subscriptTail" => (k_here; (with_reducible show wpAny _ _ (subscriptTail _ _ (Value.ref _) (Value.int _ _)) _ _ _); k_dflt (refine' item_tupleT (IsTup.keeps (by with_reducible assumption) (Fr.keep (by k_asm))) ?a_z9 ?b_z9 ?c_z9 ?d_z9 ?_; (case a_z9 => decide); (case b_z9 => decide); (case c_z9 => rfl); (case d_z9 => rfl); k_whole)))
  (k_with "m close" => ((rename News _ _ _ _ => nE'); refine' retT_of ?h_z9 ?F_z9 ?N_z9 ?t_z9 ?e_z9; (case h_z9 => assumption); (case N_z9 => exact nE'); (case F_z9 => assumption); (case t_z9 => k_mem); (case e_z9 => first | rfl | k_extra "ret")))
  (k_with "m call ref" => (k_here; (with_reducible show wpAny _ _ (call (Value.ref 88) _) _ _ _); k_dflt (refine' ct_tup (r_signed (wv := ?wv_z9) ?ia_z9 ?x_z9 ?hw_z9) ?B_z9 ?F_z9 ?X_z9 ?T_z9 ?k_z9 ?N_z9 ?p_z9 ?d_z9 ?u_z9 ?_; (case B_z9 => k_asm); (case F_z9 => k_asm); (case X_z9 => k_asm); (case T_z9 => k_asm); (case k_z9 => first | exact rfl | assumption); (case N_z9 => k_asm); (case p_z9 => kmk_list); (case ia_z9 => l_ints); (case x_z9 => walk_at "mine num"); (case hw_z9 => assumption); (case d_z9 => ktr_room); (case u_z9 => ktr_units)); intro t9 h9 tk9 F9 N9 ne9; (try dsimp only); (try k_fold)))
  k_fill
  intro pp lo mean mg mb dp un gd cn cs a ccd cl outer A₀ base h₀ L m s Q E B F X T hk hP hd hu hret
  obtain ⟨⟨la, va, c1, hta, hla, hia⟩, ⟨lb, vb, c2, htb, hlb, hib⟩⟩ := hP
  have hPa := lstIs hla
  have hPb := lstIs hlb
  have hTa := tupIs hta
  have hTb := tupIs htb
  have hB := two_le (w := wv) (by omega)
  have hxc := row_cap hB hx
  have hyc := row_cap hB hy
  have hcap := cap_lt
  refine wpAny_call ?_
  k_dflt (refine' enter0 (binds := [(Str.ofString "x", .ref ta), (Str.ofString "y", .ref tb), (Str.ofString "w", .int wv tw)]) ?k1 ?k2 ?k3 ?k5 ?kA ?kF ?kK ?k6 ?k7 ?k8 ?k9 ?kB ?_ ?c2 ?c3 ?c4 ?c5; walk_at "mine enter")
  (k_with "num" => first | exact num_sub hy hx (cmp_lt (by with_reducible assumption)) | exact num_sub hx hy (cmp_ge (by with_reducible assumption)) | fail)
  (k_with "le" => first | exact cmp_lt (by with_reducible assumption) | exact cmp_ge (by with_reducible assumption) | fail)
  (k_with "sign" => first | exact sadd_eqB (by with_reducible assumption) | exact sadd_ltB (by with_reducible assumption) (by with_reducible assumption) | exact sadd_geB (by with_reducible assumption) (by with_reducible assumption) | fail)
  (k_with "ret" => first | exact sadd_eqM (by with_reducible assumption) | exact sadd_ltM (by with_reducible assumption) (by with_reducible assumption) | exact sadd_geM (by with_reducible assumption) (by with_reducible assumption) | fail)
  k_steps

end
section
/-- what a series tells of a term: sign, numerator, denominator, front -/
def RetA (B : Int) (b : Bool) (p q f : Int) (h : Heap) (r : Value) (h' : Heap) : Prop := ∃ t la lb lf va vb vf ca cb cf, r = .ref t ∧ h.get? t = none ∧ h'.get? t = some (tupOf [.bool b, .ref la, .ref lb, .ref lf]) ∧
  (h.get? la = none ∧ h'.get? la = some (listOf (List.toArray va) ca) ∧ IntsAre va (row B p)) ∧ (h.get? lb = none ∧ h'.get? lb = some (listOf (List.toArray vb) cb) ∧ IntsAre vb (row B q)) ∧ (h.get? lf = none ∧ h'.get? lf = some (listOf (List.toArray vf) cf) ∧ IntsAre vf (row B f))
theorem retA_of {B p q f : Int} {b : Bool} {h₀ h' : Heap} {L t la lb lf : Addr} {m : Str → Option Value} {news : List (Addr × Obj)} {s : Shared} {Q : Value → Shared → Prop} {ma mb mf : List Int} {wa wb wf : List Value} {ca cb cf tk : Nat}
    (hret : ∀ r h' tk', h₀.StaysIn h' → RetA B b p q f h₀ r h' → Q r { s with heap := h', toks := tk' }) (F : Fr h₀ L h' m) (N : News h₀ L h' news) (ht : (t, tupOf [.bool b, .ref la, .ref lb, .ref lf]) ∈ news)
    (ha : (la, listOf (List.toArray wa) ca) ∈ news) (hb : (lb, listOf (List.toArray wb) cb) ∈ news) (hf : (lf, listOf (List.toArray wf) cf) ∈ news) (ia : IntsAre wa ma) (ib : IntsAre wb mb) (if' : IntsAre wf mf) (ea : ma = row B p) (eb : mb = row B q) (ef : mf = row B f) :
    Q (.ref t) { s with heap := h', toks := tk } := by
  subst ea; subst eb; subst ef
  exact hret _ _ _ F.keep ⟨_, _, _, _, _, _, _, _, _, _, rfl, (N _ ht).2.2, (N _ ht).1, ⟨(N _ ha).2.2, (N _ ha).1, ia⟩, ⟨(N _ hb).2.2, (N _ hb).1, ib⟩, (N _ hf).2.2, (N _ hf).1, if'⟩
theorem ct_at {w : World} {B p q f : Int} {b : Bool} {d : Nat} {fn : Addr} {vs : List Value} {Pre : Heap → Prop} (C : CT w d fn vs Pre (RetA B b p q f))
    {pp : Program} {lo : List Str} {mean : ExcName → Option Value} {mg mb : Str → Option Value} {dp un : Nat} {gd : Option (List Code)} {cn : Str} {cs : Scope} {a : Addr} {ccd : Value} {cl : List (Str × Addr)} {outer : List Env} {A₀ : Around} {base h₀ : Heap} {L : Addr} {m : Str → Option Value} {s : Shared}
    {Q E : Value → Shared → Prop} {news : List (Addr × Obj)} (B' : Below A₀ base outer h₀) (F : Fr h₀ L s.heap m) (X : (hd.heap_39 w.params).In h₀) (T : Top pp lo mean mg mb h₀) (hk : cs.kind = .function) (N : News h₀ L s.heap news)
    (hp : Pre s.heap) (hd : dp + d < recursionLimit) (hu : un + 8 * d < cLine)
    (ret : ∀ t la lb lf va vb vf ca cb cf h' tk', Fr h₀ L h' m → News h₀ L h' ((t, tupOf [.bool b, .ref la, .ref lb, .ref lf]) :: (la, listOf (List.toArray va) ca) :: (lb, listOf (List.toArray vb) cb) :: (lf, listOf (List.toArray vf) cf) :: news) → IntsAre va (row B p) → IntsAre vb (row B q) → IntsAre vf (row B f) → Q (.ref t) { s with heap := h', toks := tk' }) :
    wpAny (model PySem.Challenge.rw_rr0055_01.row.prog w) (ktrTop dp un gd cn cs L a ccd cl outer) (call (.ref fn) vs) Q E s := by
  refine C _ _ _ _ _ _ _ _ _ _ _ _ _ _ _ _ _ _ _ _ _ _ B' F X T hk hp hd hu ?_
  rintro r h' tk' st ⟨t, la, lb, lf, va, vb, vf, ca, cb, cf, rfl, hnt, ht, ⟨hna, hla, ia⟩, ⟨hnb, hlb, ib⟩, ⟨hnf, hlf, if'⟩⟩
  exact ret t la lb lf va vb vf ca cb cf h' tk' (fr_stays F st) (news_more F hnt ht (news_more F hna hla (news_more F hnb hlb (news_more F hnf hlf (news_stays N st))))) ia ib if'

/-- the series' object, by its form -/
def SerAt (form : Nat) (x : Int) (h : Heap) (sx : Addr) : Prop := match form with
  | 0 => ∃ dx, h.get? sx = some (instObj 129 dx) ∧ h.get? dx = some (dictOf [] 0)
  | 1 => ∃ dx hs tk t, h.get? sx = some (instObj 157 dx) ∧ h.get? dx = some (dictOf [⟨hs, .str (Str.ofString "x") tk, .int x t⟩] 1)
  | _ => ∃ dx, h.get? sx = some (instObj 178 dx) ∧ h.get? dx = some (dictOf [] 0)
theorem inst_base {g h : Heap} {x C dx : Addr} {od : Obj} (k : ∀ b o, g.get? b = some o → h.get? b = some o) (h1 : g.get? x = some (instObj C dx)) (h2 : g.get? dx = some od) : InstAt h x (instObj C dx) C (some od) := ⟨k _ _ h1, rfl, rfl, k _ _ h2⟩
def cubes : List Int := [32, 32, 32, 9, 125, 23, 23, 23, 29, 29, 29]
theorem prod_cubes (k : Int) : prodL [k, k, k, 32, 32, 32, 9, 125, 23, 23, 23, 29, 29, 29] = 10939058860032000 * (k * k * k) := by
  simp only [prodL]
  have e : (32 : Int) * (32 * (32 * (9 * (125 * (23 * (23 * (23 * (29 * (29 * (29 * 1)))))))))) = 10939058860032000 := by decide
  rw [e, Int.mul_comm k 10939058860032000, ← Int.mul_assoc, ← Int.mul_assoc, Int.mul_comm (k * k)]
  rw [Int.mul_assoc, Int.mul_assoc]
theorem cnt_cubes {k : Int} (h1 : 1 ≤ k) (h2 : k ≤ 20) : Cnt [k, k, k, 32, 32, 32, 9, 125, 23, 23, 23, 29, 29, 29] := by
  refine ⟨fun x hx => ?_⟩
  rw [show (2 : Int) ^ 40 = 1099511627776 by decide]
  simp only [List.mem_cons, List.not_mem_nil, or_false] at hx
  omega
theorem cnt_three {a b c : Int} (ha : 1 ≤ a ∧ a < 1000) (hb : 1 ≤ b ∧ b < 1000) (hc : 1 ≤ c ∧ c < 1000) : Cnt [a, b, c] := by
  refine ⟨fun x hx => ?_⟩
  rw [show (2 : Int) ^ 40 = 1099511627776 by decide]
  simp only [List.mem_cons, List.not_mem_nil, or_false] at hx
  omega
theorem prod_three (a b c : Int) : prodL [a, b, c] = a * b * c := by simp only [prodL, Int.mul_one, Int.mul_assoc]
end
section
theorem c_at0 (w : World) (wv k x : Int) (sx : Addr) (tw tk₀ : Tok) (hw : 2 ≤ wv) (hw2 : wv ≤ 9) (hk1 : 1 ≤ k) (hk2 : k ≤ 20) :
    CT w 20 126 [.ref sx, .int k tk₀, .int wv tw, .ref 203] (fun h => SerAt 0 x h sx) (RetA (2 ^ wv.toNat) false 1 k 1) := by
  unfold CT
  w_top off
  k_with_none
  (k_with "m mine enter" => ((case kA => exact rfl); (case kF => exact rfl); (case kK => assumption); (case k1 => k_asm); (case k2 => k_asm); (case k3 => k_asm); (case k5 => k_asm); (case k6 => k_is); (case k7 => k_is); (case k8 => ktr_room); (case k9 => exact BindsTo.of_eq rfl); (case c5 => decide); (case kB => exact locs rfl); (case c2 => exact rfl); (case c3 => exact rfl); (case c4 => exact rfl); k_whole; intro L' h' F' N' B' X' T'; (try dsimp only); (try k_fold)))
  (k_with "m close" => ((rename News _ _ _ _ => nE'); (try simp only [List.push_toArray] at nE'); refine' retL_of ?h_z9 ?F_z9 ?N_z9 ?m_z9 ?i_z9 ?e_z9; (case h_z9 => assumption); (case N_z9 => exact nE'); (case F_z9 => assumption); (case m_z9 => k_mem); (case i_z9 => first | with_reducible assumption | exact IntsAre.cons _ _ IntsAre.nil | k_intsEnd); (case e_z9 => k_extra "ret")))
  (k_with "m close" => (refine' retV_of _ ?h_z9 ?F_z9 ?e_z9; (case h_z9 => assumption); (case F_z9 => assumption); (case e_z9 => first | rfl | k_extra "ret")))
  (k_with "m exec" => ((with_reducible show wpAny _ _ (exec (PySem.Stmt.While _ _ _ _) _) _ _ _); k_extra "mine while"))
  (k_with "m mine num" => first | with_reducible assumption | k_extra "num")
  (k_with "m call ref" => (k_here; (with_reducible show wpAny _ _ (call (Value.ref 67) _) _ _ _); k_dflt (refine' ct_list (r_add ?ia_z9 ?ib_z9 ?x_z9 ?y_z9 ?hw_z9 ?hw2_z9) ?B_z9 ?F_z9 ?X_z9 ?T_z9 ?k_z9 ?N_z9 ?p_z9 ?d_z9 ?u_z9 ?_; (case B_z9 => k_asm); (case F_z9 => k_asm); (case X_z9 => k_asm); (case T_z9 => k_asm); (case k_z9 => first | exact rfl | assumption); (case N_z9 => k_asm); (case p_z9 => exact ⟨by kmk_list, by kmk_list⟩); (case ia_z9 => l_ints); (case ib_z9 => l_ints); (case x_z9 => walk_at "mine num"); (case y_z9 => walk_at "mine num"); (case hw_z9 => assumption); (case hw2_z9 => assumption); (case d_z9 => ktr_room); (case u_z9 => ktr_units)); intro l9 us9 c9 h9 tk9 F9 N9 ne9 I9; (try dsimp only); (try k_fold)))
  (k_with "m call ref" => (k_here; (with_reducible show wpAny _ _ (call (Value.ref 203) _) _ _ _); k_dflt (refine' ct_list (r_mul ?ia_z9 ?ib_z9 ?x_z9 ?y_z9 ?hw_z9 ?hw2_z9) ?B_z9 ?F_z9 ?X_z9 ?T_z9 ?k_z9 ?N_z9 ?p_z9 ?d_z9 ?u_z9 ?_; (case B_z9 => k_asm); (case F_z9 => k_asm); (case X_z9 => k_asm); (case T_z9 => k_asm); (case k_z9 => first | exact rfl | assumption); (case N_z9 => k_asm); (case p_z9 => exact ⟨by kmk_list, by kmk_list⟩); (case ia_z9 => l_ints); (case ib_z9 => l_ints); (case x_z9 => walk_at "mine num"); (case y_z9 => walk_at "mine num"); (case hw_z9 => assumption); (case hw2_z9 => assumption); (case d_z9 => ktr_room); (case u_z9 => ktr_units)); intro l9 us9 c9 h9 tk9 F9 N9 ne9 I9; (try dsimp only); (try k_fold)))
  (k_with "m call ref" => (k_here; (with_reducible show wpAny _ _ (call (Value.ref 74) _) _ _ _); k_dflt (refine' ct_list (r_sub ?ia_z9 ?ib_z9 ?x_z9 ?y_z9 ?hw_z9 ?hw2_z9 ?hle_z9) ?B_z9 ?F_z9 ?X_z9 ?T_z9 ?k_z9 ?N_z9 ?p_z9 ?d_z9 ?u_z9 ?_; (case B_z9 => k_asm); (case F_z9 => k_asm); (case X_z9 => k_asm); (case T_z9 => k_asm); (case k_z9 => first | exact rfl | assumption); (case N_z9 => k_asm); (case p_z9 => exact ⟨by kmk_list, by kmk_list⟩); (case ia_z9 => l_ints); (case ib_z9 => l_ints); (case x_z9 => walk_at "mine num"); (case y_z9 => walk_at "mine num"); (case hw_z9 => assumption); (case hw2_z9 => assumption); (case d_z9 => ktr_room); (case u_z9 => ktr_units); (case hle_z9 => first | assumption | k_extra "le")); intro l9 us9 c9 h9 tk9 F9 N9 ne9 I9; (try dsimp only); (try k_fold)))
  (k_with "m call ref" => (k_here; (with_reducible show wpAny _ _ (call (Value.ref 53) _) _ _ _); k_dflt (refine' ct_list (r_nat ?x_z9 ?hw_z9 ?hw2_z9) ?B_z9 ?F_z9 ?X_z9 ?T_z9 ?k_z9 ?N_z9 ?p_z9 ?d_z9 ?u_z9 ?_; (case B_z9 => k_asm); (case F_z9 => k_asm); (case X_z9 => k_asm); (case T_z9 => k_asm); (case k_z9 => first | exact rfl | assumption); (case N_z9 => k_asm); (case p_z9 => exact True.intro); (case x_z9 => walk_at "mine num"); (case hw_z9 => assumption); (case hw2_z9 => assumption); (case d_z9 => ktr_room); (case u_z9 => ktr_units)); intro l9 us9 c9 h9 tk9 F9 N9 ne9 I9; (try dsimp only); (try k_fold)))
  (k_with "m call ref" => (k_here; (with_reducible show wpAny _ _ (call (Value.ref 60) _) _ _ _); k_dflt (refine' ct_val (r_cmp (wv := ?wv_z9) ?ia_z9 ?ib_z9 ?x_z9 ?y_z9 ?hw_z9) ?B_z9 ?F_z9 ?X_z9 ?T_z9 ?k_z9 ?N_z9 ?p_z9 ?d_z9 ?u_z9 ?_; (case B_z9 => k_asm); (case F_z9 => k_asm); (case X_z9 => k_asm); (case T_z9 => k_asm); (case k_z9 => first | exact rfl | assumption); (case N_z9 => k_asm); (case p_z9 => exact ⟨by kmk_list, by kmk_list⟩); (case ia_z9 => l_ints); (case ib_z9 => l_ints); (case x_z9 => walk_at "mine num"); (case y_z9 => walk_at "mine num"); (case hw_z9 => assumption); (case d_z9 => ktr_room); (case u_z9 => ktr_units)); intro t9 h9 tk9 F9 N9; (try dsimp only); (try k_fold)))
  (k_with "m close" => ((rename News _ _ _ _ => nE'); refine' retS_of ?h_z9 ?F_z9 ?N_z9 ?t_z9 ?m_z9 ?i_z9 ?eb_z9 ?e_z9; (case h_z9 => assumption); (case N_z9 => exact nE'); (case F_z9 => assumption); (case t_z9 => k_mem); (case m_z9 => k_mem); (case i_z9 => l_ints); (case eb_z9 => k_extra "sign"); (case e_z9 => first | rfl | k_extra "ret")))
  (k_with "m subscriptTail" => (k_here; (with_reducible show wpAny _ _ (subscriptTail _ _ (Value.ref _) (Value.int _ _)) _ _ _); k_dflt (refine' item_tupleT (IsTup.keeps (by with_reducible assumption) (Fr.keep (by k_asm))) ?a_z9 ?b_z9 ?c_z9 ?d_z9 ?_; (case a_z9 => decide); (case b_z9 => decide); (case c_z9 => rfl); (case d_z9 => rfl); k_whole)))
  (k_with "m close" => ((rename News _ _ _ _ => nE'); refine' retT_of ?h_z9 ?F_z9 ?N_z9 ?t_z9 ?e_z9; (case h_z9 => assumption); (case N_z9 => exact nE'); (case F_z9 => assumption); (case t_z9 => k_mem); (case e_z9 => first | rfl | k_extra "ret")))
  (k_with "m call ref" => (k_here; (with_reducible show wpAny _ _ (call (Value.ref 81) _) _ _ _); k_dflt (refine' ct_list (c_prod _ _ ?hw_z9 ?hw2_z9 _ _ _ _ _ rfl ?ia_z9 ?cn_z9 ?l20_z9) ?B_z9 ?F_z9 ?X_z9 ?T_z9 ?k_z9 ?N_z9 ?p_z9 ?d_z9 ?u_z9 ?_; (case B_z9 => k_asm); (case F_z9 => k_asm); (case X_z9 => k_asm); (case T_z9 => k_asm); (case k_z9 => first | exact rfl | assumption); (case N_z9 => k_asm); (case p_z9 => kmk_list); (case ia_z9 => first | exact (IntsAre.cons _ _ (IntsAre.cons _ _ (IntsAre.cons _ _ IntsAre.nil))) | exact (IntsAre.cons _ _ (IntsAre.cons _ _ (IntsAre.cons _ _ (IntsAre.cons _ _ (IntsAre.cons _ _ (IntsAre.cons _ _ (IntsAre.cons _ _ (IntsAre.cons _ _ (IntsAre.cons _ _ (IntsAre.cons _ _ (IntsAre.cons _ _ (IntsAre.cons _ _ (IntsAre.cons _ _ (IntsAre.cons _ _ IntsAre.nil)))))))))))))) | exact IntsAre.append (IntsAre.cons _ _ (IntsAre.cons _ _ (IntsAre.cons _ _ IntsAre.nil))) (by l_ints)  | exact IntsAre.append (IntsAre.cons _ _ (IntsAre.cons _ _ (IntsAre.cons _ _ IntsAre.nil))) (IntsAre.cons _ _ (IntsAre.cons _ _ (IntsAre.cons _ _ (IntsAre.cons _ _ (IntsAre.cons _ _ (IntsAre.cons _ _ (IntsAre.cons _ _ (IntsAre.cons _ _ (IntsAre.cons _ _ (IntsAre.cons _ _ (IntsAre.cons _ _ IntsAre.nil))))))))))) | fail); (case hw_z9 => assumption); (case hw2_z9 => assumption); (case cn_z9 => k_extra "cnt"); (case l20_z9 => exact Nat.le_of_ble_eq_true rfl); (case d_z9 => ((simp only [List.length_cons, List.length_nil]); ktr_room)); (case u_z9 => ((simp only [List.length_cons, List.length_nil]); ktr_units))); intro l9 us9 c9 h9 tk9 F9 N9 ne9 I9; (try dsimp only); (try k_fold)))
  (k_with "m call ref" => (k_here; (with_reducible show wpAny _ _ (call (Value.ref 112) _) _ _ _); k_dflt (first | refine' ct_list (c_of_groups103 _ _ _ ?hw_z9 ?hw2_z9) ?B_z9 ?F_z9 ?X_z9 ?T_z9 ?k_z9 ?N_z9 ?p_z9 ?d_z9 ?u_z9 ?_ | refine' ct_list (c_of_groups104 _ _ _ ?hw_z9 ?hw2_z9) ?B_z9 ?F_z9 ?X_z9 ?T_z9 ?k_z9 ?N_z9 ?p_z9 ?d_z9 ?u_z9 ?_); (case B_z9 => k_asm); (case F_z9 => k_asm); (case X_z9 => k_asm); (case T_z9 => k_asm); (case k_z9 => first | exact rfl | assumption); (case N_z9 => k_asm); (case p_z9 => exact True.intro); (case hw_z9 => assumption); (case hw2_z9 => assumption); (case d_z9 => ktr_room); (case u_z9 => ktr_units); intro l9 us9 c9 h9 tk9 F9 N9 ne9 I9; (try dsimp only); (try k_fold)))
  (k_with "m getAttr ref" => (k_here; k_dflt (refine' get_own ?k1_z9 ?k2_z9 (inst_base (Fr.keep (by k_asm)) (by with_reducible assumption) (by with_reducible assumption)) ?k4_z9 ?k5_z9 ?k6_z9 ?k7_z9 ?k8_z9 ?k9_z9 ?_; (case k1_z9 => k_asm); (case k2_z9 => k_asm); (case k4_z9 => k_is); (case k5_z9 => k_is); (case k6_z9 => k_is); (case k7_z9 => k_is); (case k8_z9 => k_get); (case k9_z9 => k_handed); k_whole)))
  (k_with "m close" => ((rename News _ _ _ _ => nE'); (try simp only [List.push_toArray] at nE'); refine' retA_of ?h_z9 ?F_z9 ?N_z9 ?t_z9 ?ma_z9 ?mb_z9 ?mf_z9 ?ia_z9 ?ib_z9 ?ig_z9 ?ea_z9 ?eb_z9 ?ef_z9; (case h_z9 => assumption); (case N_z9 => exact nE'); (case F_z9 => assumption); (case t_z9 => k_mem); (case ma_z9 => k_mem); (case mb_z9 => k_mem); (case mf_z9 => k_mem); (case ia_z9 => first | with_reducible assumption | exact IntsAre.cons _ _ IntsAre.nil); (case ib_z9 => first | with_reducible assumption | exact IntsAre.cons _ _ IntsAre.nil); (case ig_z9 => first | with_reducible assumption | exact IntsAre.cons _ _ IntsAre.nil); (case ea_z9 => k_extra "ret"); (case eb_z9 => k_extra "ret"); (case ef_z9 => k_extra "ret")))
  (k_with "m call type:list" => (k_here; (with_reducible show wpAny _ _ (call (Value.type _) [Value.ref _]) _ _ _); k_dflt (refine' list_copyKT ?F_z9 ?N_z9 (tupK ?X_z9 ?l_z9) ?_ ?z_z9; (case F_z9 => k_asm); (case N_z9 => k_asm); (case X_z9 => k_in); (case l_z9 => k_is); (case z_z9 => exact Nat.le_of_ble_eq_true rfl)); intro D' c' h' F' N' l1; (try k_lt l1); (try k_sweep)))
  k_fill
  intro pp lo mean mg mb dp un gd cn cs a ccd cl outer A₀ base h₀ L m s Q E B F X T hk hP hd hu hret
  have hB := two_le (w := wv) (by omega)
  obtain ⟨dx, hs1, hs2⟩ := hP
  have nk : Num k := num_lit (by omega) (by omega)
  refine wpAny_call ?_
  k_dflt (refine' enter0 (binds := [(Str.ofString "self", .ref sx), (Str.ofString "k", .int k tk₀), (Str.ofString "w", .int wv tw), (Str.ofString "mul", .ref 203)]) ?k1 ?k2 ?k3 ?k5 ?kA ?kF ?kK ?k6 ?k7 ?k8 ?k9 ?kB ?_ ?c2 ?c3 ?c4 ?c5; walk_at "mine enter")
  (k_with "ret" => first | rfl | exact (row_one hB).symm | fail)
  k_steps
theorem c_at1 (w : World) (wv k x : Int) (sx : Addr) (tw tk₀ : Tok) (hw : 2 ≤ wv) (hw2 : wv ≤ 9) (hk1 : 1 ≤ k) (hk2 : k ≤ 20) (hx1 : 2 ≤ x) (hx2 : x ≤ 7) :
    CT w 20 154 [.ref sx, .int k tk₀, .int wv tw, .ref 203] (fun h => SerAt 1 x h sx) (RetA (2 ^ wv.toNat) true (2 * k - 1) ((2 * k + 1) * x * x) 1) := by
  unfold CT
  w_top off
  k_with_none
  (k_with "m mine enter" => ((case kA => exact rfl); (case kF => exact rfl); (case kK => assumption); (case k1 => k_asm); (case k2 => k_asm); (case k3 => k_asm); (case k5 => k_asm); (case k6 => k_is); (case k7 => k_is); (case k8 => ktr_room); (case k9 => exact BindsTo.of_eq rfl); (case c5 => decide); (case kB => exact locs rfl); (case c2 => exact rfl); (case c3 => exact rfl); (case c4 => exact rfl); k_whole; intro L' h' F' N' B' X' T'; (try dsimp only); (try k_fold)))
  (k_with "m close" => ((rename News _ _ _ _ => nE'); (try simp only [List.push_toArray] at nE'); refine' retL_of ?h_z9 ?F_z9 ?N_z9 ?m_z9 ?i_z9 ?e_z9; (case h_z9 => assumption); (case N_z9 => exact nE'); (case F_z9 => assumption); (case m_z9 => k_mem); (case i_z9 => first | with_reducible assumption | exact IntsAre.cons _ _ IntsAre.nil | k_intsEnd); (case e_z9 => k_extra "ret")))
  (k_with "m close" => (refine' retV_of _ ?h_z9 ?F_z9 ?e_z9; (case h_z9 => assumption); (case F_z9 => assumption); (case e_z9 => first | rfl | k_extra "ret")))
  (k_with "m exec" => ((with_reducible show wpAny _ _ (exec (PySem.Stmt.While _ _ _ _) _) _ _ _); k_extra "mine while"))
  (k_with "m mine num" => first | with_reducible assumption | k_extra "num")
  (k_with "m call ref" => (k_here; (with_reducible show wpAny _ _ (call (Value.ref 67) _) _ _ _); k_dflt (refine' ct_list (r_add ?ia_z9 ?ib_z9 ?x_z9 ?y_z9 ?hw_z9 ?hw2_z9) ?B_z9 ?F_z9 ?X_z9 ?T_z9 ?k_z9 ?N_z9 ?p_z9 ?d_z9 ?u_z9 ?_; (case B_z9 => k_asm); (case F_z9 => k_asm); (case X_z9 => k_asm); (case T_z9 => k_asm); (case k_z9 => first | exact rfl | assumption); (case N_z9 => k_asm); (case p_z9 => exact ⟨by kmk_list, by kmk_list⟩); (case ia_z9 => l_ints); (case ib_z9 => l_ints); (case x_z9 => walk_at "mine num"); (case y_z9 => walk_at "mine num"); (case hw_z9 => assumption); (case hw2_z9 => assumption); (case d_z9 => ktr_room); (case u_z9 => ktr_units)); intro l9 us9 c9 h9 tk9 F9 N9 ne9 I9; (try dsimp only); (try k_fold)))
  (k_with "m call ref" => (k_here; (with_reducible show wpAny _ _ (call (Value.ref 203) _) _ _ _); k_dflt (refine' ct_list (r_mul ?ia_z9 ?ib_z9 ?x_z9 ?y_z9 ?hw_z9 ?hw2_z9) ?B_z9 ?F_z9 ?X_z9 ?T_z9 ?k_z9 ?N_z9 ?p_z9 ?d_z9 ?u_z9 ?_; (case B_z9 => k_asm); (case F_z9 => k_asm); (case X_z9 => k_asm); (case T_z9 => k_asm); (case k_z9 => first | exact rfl | assumption); (case N_z9 => k_asm); (case p_z9 => exact ⟨by kmk_list, by kmk_list⟩); (case ia_z9 => l_ints); (case ib_z9 => l_ints); (case x_z9 => walk_at "mine num"); (case y_z9 => walk_at "mine num"); (case hw_z9 => assumption); (case hw2_z9 => assumption); (case d_z9 => ktr_room); (case u_z9 => ktr_units)); intro l9 us9 c9 h9 tk9 F9 N9 ne9 I9; (try dsimp only); (try k_fold)))
  (k_with "m call ref" => (k_here; (with_reducible show wpAny _ _ (call (Value.ref 74) _) _ _ _); k_dflt (refine' ct_list (r_sub ?ia_z9 ?ib_z9 ?x_z9 ?y_z9 ?hw_z9 ?hw2_z9 ?hle_z9) ?B_z9 ?F_z9 ?X_z9 ?T_z9 ?k_z9 ?N_z9 ?p_z9 ?d_z9 ?u_z9 ?_; (case B_z9 => k_asm); (case F_z9 => k_asm); (case X_z9 => k_asm); (case T_z9 => k_asm); (case k_z9 => first | exact rfl | assumption); (case N_z9 => k_asm); (case p_z9 => exact ⟨by kmk_list, by kmk_list⟩); (case ia_z9 => l_ints); (case ib_z9 => l_ints); (case x_z9 => walk_at "mine num"); (case y_z9 => walk_at "mine num"); (case hw_z9 => assumption); (case hw2_z9 => assumption); (case d_z9 => ktr_room); (case u_z9 => ktr_units); (case hle_z9 => first | assumption | k_extra "le")); intro l9 us9 c9 h9 tk9 F9 N9 ne9 I9; (try dsimp only); (try k_fold)))
  (k_with "m call ref" => (k_here; (with_reducible show wpAny _ _ (call (Value.ref 53) _) _ _ _); k_dflt (refine' ct_list (r_nat ?x_z9 ?hw_z9 ?hw2_z9) ?B_z9 ?F_z9 ?X_z9 ?T_z9 ?k_z9 ?N_z9 ?p_z9 ?d_z9 ?u_z9 ?_; (case B_z9 => k_asm); (case F_z9 => k_asm); (case X_z9 => k_asm); (case T_z9 => k_asm); (case k_z9 => first | exact rfl | assumption); (case N_z9 => k_asm); (case p_z9 => exact True.intro); (case x_z9 => walk_at "mine num"); (case hw_z9 => assumption); (case hw2_z9 => assumption); (case d_z9 => ktr_room); (case u_z9 => ktr_units)); intro l9 us9 c9 h9 tk9 F9 N9 ne9 I9; (try dsimp only); (try k_fold)))
  (k_with "m call ref" => (k_here; (with_reducible show wpAny _ _ (call (Value.ref 60) _) _ _ _); k_dflt (refine' ct_val (r_cmp (wv := ?wv_z9) ?ia_z9 ?ib_z9 ?x_z9 ?y_z9 ?hw_z9) ?B_z9 ?F_z9 ?X_z9 ?T_z9 ?k_z9 ?N_z9 ?p_z9 ?d_z9 ?u_z9 ?_; (case B_z9 => k_asm); (case F_z9 => k_asm); (case X_z9 => k_asm); (case T_z9 => k_asm); (case k_z9 => first | exact rfl | assumption); (case N_z9 => k_asm); (case p_z9 => exact ⟨by kmk_list, by kmk_list⟩); (case ia_z9 => l_ints); (case ib_z9 => l_ints); (case x_z9 => walk_at "mine num"); (case y_z9 => walk_at "mine num"); (case hw_z9 => assumption); (case d_z9 => ktr_room); (case u_z9 => ktr_units)); intro t9 h9 tk9 F9 N9; (try dsimp only); (try k_fold)))
  (k_with "m close" => ((rename News _ _ _ _ => nE'); refine' retS_of ?h_z9 ?F_z9 ?N_z9 ?t_z9 ?m_z9 ?i_z9 ?eb_z9 ?e_z9; (case h_z9 => assumption); (case N_z9 => exact nE'); (case F_z9 => assumption); (case t_z9 => k_mem); (case m_z9 => k_mem); (case i_z9 => l_ints); (case eb_z9 => k_extra "sign"); (case e_z9 => first | rfl | k_extra "ret")))
  (k_with "m subscriptTail" => (k_here; (with_reducible show wpAny _ _ (subscriptTail _ _ (Value.ref _) (Value.int _ _)) _ _ _); k_dflt (refine' item_tupleT (IsTup.keeps (by with_reducible assumption) (Fr.keep (by k_asm))) ?a_z9 ?b_z9 ?c_z9 ?d_z9 ?_; (case a_z9 => decide); (case b_z9 => decide); (case c_z9 => rfl); (case d_z9 => rfl); k_whole)))
  (k_with "m close" => ((rename News _ _ _ _ => nE'); refine' retT_of ?h_z9 ?F_z9 ?N_z9 ?t_z9 ?e_z9; (case h_z9 => assumption); (case N_z9 => exact nE'); (case F_z9 => assumption); (case t_z9 => k_mem); (case e_z9 => first | rfl | k_extra "ret")))
  (k_with "m call ref" => (k_here; (with_reducible show wpAny _ _ (call (Value.ref 81) _) _ _ _); k_dflt (refine' ct_list (c_prod _ _ ?hw_z9 ?hw2_z9 _ _ _ _ _ rfl ?ia_z9 ?cn_z9 ?l20_z9) ?B_z9 ?F_z9 ?X_z9 ?T_z9 ?k_z9 ?N_z9 ?p_z9 ?d_z9 ?u_z9 ?_; (case B_z9 => k_asm); (case F_z9 => k_asm); (case X_z9 => k_asm); (case T_z9 => k_asm); (case k_z9 => first | exact rfl | assumption); (case N_z9 => k_asm); (case p_z9 => kmk_list); (case ia_z9 => first | exact (IntsAre.cons _ _ (IntsAre.cons _ _ (IntsAre.cons _ _ IntsAre.nil))) | exact (IntsAre.cons _ _ (IntsAre.cons _ _ (IntsAre.cons _ _ (IntsAre.cons _ _ (IntsAre.cons _ _ (IntsAre.cons _ _ (IntsAre.cons _ _ (IntsAre.cons _ _ (IntsAre.cons _ _ (IntsAre.cons _ _ (IntsAre.cons _ _ (IntsAre.cons _ _ (IntsAre.cons _ _ (IntsAre.cons _ _ IntsAre.nil)))))))))))))) | exact IntsAre.append (IntsAre.cons _ _ (IntsAre.cons _ _ (IntsAre.cons _ _ IntsAre.nil))) (by l_ints)  | exact IntsAre.append (IntsAre.cons _ _ (IntsAre.cons _ _ (IntsAre.cons _ _ IntsAre.nil))) (IntsAre.cons _ _ (IntsAre.cons _ _ (IntsAre.cons _ _ (IntsAre.cons _ _ (IntsAre.cons _ _ (IntsAre.cons _ _ (IntsAre.cons _ _ (IntsAre.cons _ _ (IntsAre.cons _ _ (IntsAre.cons _ _ (IntsAre.cons _ _ IntsAre.nil))))))))))) | fail); (case hw_z9 => assumption); (case hw2_z9 => assumption); (case cn_z9 => k_extra "cnt"); (case l20_z9 => exact Nat.le_of_ble_eq_true rfl); (case d_z9 => ((simp only [List.length_cons, List.length_nil]); ktr_room)); (case u_z9 => ((simp only [List.length_cons, List.length_nil]); ktr_units))); intro l9 us9 c9 h9 tk9 F9 N9 ne9 I9; (try dsimp only); (try k_fold)))
  (k_with "m call ref" => (k_here; (with_reducible show wpAny _ _ (call (Value.ref 112) _) _ _ _); k_dflt (first | refine' ct_list (c_of_groups103 _ _ _ ?hw_z9 ?hw2_z9) ?B_z9 ?F_z9 ?X_z9 ?T_z9 ?k_z9 ?N_z9 ?p_z9 ?d_z9 ?u_z9 ?_ | refine' ct_list (c_of_groups104 _ _ _ ?hw_z9 ?hw2_z9) ?B_z9 ?F_z9 ?X_z9 ?T_z9 ?k_z9 ?N_z9 ?p_z9 ?d_z9 ?u_z9 ?_); (case B_z9 => k_asm); (case F_z9 => k_asm); (case X_z9 => k_asm); (case T_z9 => k_asm); (case k_z9 => first | exact rfl | assumption); (case N_z9 => k_asm); (case p_z9 => exact True.intro); (case hw_z9 => assumption); (case hw2_z9 => assumption); (case d_z9 => ktr_room); (case u_z9 => ktr_units); intro l9 us9 c9 h9 tk9 F9 N9 ne9 I9; (try dsimp only); (try k_fold)))
  (k_with "m getAttr ref" => (k_here; k_dflt (refine' get_own ?k1_z9 ?k2_z9 (inst_base (Fr.keep (by k_asm)) (by with_reducible assumption) (by with_reducible assumption)) ?k4_z9 ?k5_z9 ?k6_z9 ?k7_z9 ?k8_z9 ?k9_z9 ?_; (case k1_z9 => k_asm); (case k2_z9 => k_asm); (case k4_z9 => k_is); (case k5_z9 => k_is); (case k6_z9 => k_is); (case k7_z9 => k_is); (case k8_z9 => k_get); (case k9_z9 => k_handed); k_whole)))
  (k_with "m close" => ((rename News _ _ _ _ => nE'); (try simp only [List.push_toArray] at nE'); refine' retA_of ?h_z9 ?F_z9 ?N_z9 ?t_z9 ?ma_z9 ?mb_z9 ?mf_z9 ?ia_z9 ?ib_z9 ?ig_z9 ?ea_z9 ?eb_z9 ?ef_z9; (case h_z9 => assumption); (case N_z9 => exact nE'); (case F_z9 => assumption); (case t_z9 => k_mem); (case ma_z9 => k_mem); (case mb_z9 => k_mem); (case mf_z9 => k_mem); (case ia_z9 => first | with_reducible assumption | exact IntsAre.cons _ _ IntsAre.nil); (case ib_z9 => first | with_reducible assumption | exact IntsAre.cons _ _ IntsAre.nil); (case ig_z9 => first | with_reducible assumption | exact IntsAre.cons _ _ IntsAre.nil); (case ea_z9 => k_extra "ret"); (case eb_z9 => k_extra "ret"); (case ef_z9 => k_extra "ret")))
  (k_with "m call type:list" => (k_here; (with_reducible show wpAny _ _ (call (Value.type _) [Value.ref _]) _ _ _); k_dflt (refine' list_copyKT ?F_z9 ?N_z9 (tupK ?X_z9 ?l_z9) ?_ ?z_z9; (case F_z9 => k_asm); (case N_z9 => k_asm); (case X_z9 => k_in); (case l_z9 => k_is); (case z_z9 => exact Nat.le_of_ble_eq_true rfl)); intro D' c' h' F' N' l1; (try k_lt l1); (try k_sweep)))
  k_fill
  intro pp lo mean mg mb dp un gd cn cs a ccd cl outer A₀ base h₀ L m s Q E B F X T hk hP hd hu hret
  have hB := two_le (w := wv) (by omega)
  obtain ⟨dx, hsh, tks, tx, hs1, hs2⟩ := hP
  have nk : Num (2 * k - 1) := num_lit (by omega) (by omega)
  refine wpAny_call ?_
  k_dflt (refine' enter0 (binds := [(Str.ofString "self", .ref sx), (Str.ofString "k", .int k tk₀), (Str.ofString "w", .int wv tw), (Str.ofString "mul", .ref 203)]) ?k1 ?k2 ?k3 ?k5 ?kA ?kF ?kK ?k6 ?k7 ?k8 ?k9 ?kB ?_ ?c2 ?c3 ?c4 ?c5; walk_at "mine enter")
  (k_with "cnt" => first | exact cnt_three (by omega) (by omega) (by omega) | fail)
  (k_with "ret" => first | rfl | exact (row_one hB).symm | rw [prod_three] | fail)
  k_steps
theorem c_at2 (w : World) (wv k x : Int) (sx : Addr) (tw tk₀ : Tok) (hw : 2 ≤ wv) (hw2 : wv ≤ 9) (hk1 : 1 ≤ k) (hk2 : k ≤ 20) :
    CT w 20 175 [.ref sx, .int k tk₀, .int wv tw, .ref 203] (fun h => SerAt 2 x h sx) (RetA (2 ^ wv.toNat) true ((6 * k - 5) * (2 * k - 1) * (6 * k - 1)) (10939058860032000 * (k * k * k)) (13591409 + 545140134 * k)) := by
  unfold CT
  w_top off
  k_with_none
  (k_with "m mine enter" => ((case kA => exact rfl); (case kF => exact rfl); (case kK => assumption); (case k1 => k_asm); (case k2 => k_asm); (case k3 => k_asm); (case k5 => k_asm); (case k6 => k_is); (case k7 => k_is); (case k8 => ktr_room); (case k9 => exact BindsTo.of_eq rfl); (case c5 => decide); (case kB => exact locs rfl); (case c2 => exact rfl); (case c3 => exact rfl); (case c4 => exact rfl); k_whole; intro L' h' F' N' B' X' T'; (try dsimp only); (try k_fold)))
  (k_with "m close" => ((rename News _ _ _ _ => nE'); (try simp only [List.push_toArray] at nE'); refine' retL_of ?h_z9 ?F_z9 ?N_z9 ?m_z9 ?i_z9 ?e_z9; (case h_z9 => assumption); (case N_z9 => exact nE'); (case F_z9 => assumption); (case m_z9 => k_mem); (case i_z9 => first | with_reducible assumption | exact IntsAre.cons _ _ IntsAre.nil | k_intsEnd); (case e_z9 => k_extra "ret")))
  (k_with "m close" => (refine' retV_of _ ?h_z9 ?F_z9 ?e_z9; (case h_z9 => assumption); (case F_z9 => assumption); (case e_z9 => first | rfl | k_extra "ret")))
  (k_with "m exec" => ((with_reducible show wpAny _ _ (exec (PySem.Stmt.While _ _ _ _) _) _ _ _); k_extra "mine while"))
  (k_with "m mine num" => first | with_reducible assumption | k_extra "num")
  (k_with "m call ref" => (k_here; (with_reducible show wpAny _ _ (call (Value.ref 67) _) _ _ _); k_dflt (refine' ct_list (r_add ?ia_z9 ?ib_z9 ?x_z9 ?y_z9 ?hw_z9 ?hw2_z9) ?B_z9 ?F_z9 ?X_z9 ?T_z9 ?k_z9 ?N_z9 ?p_z9 ?d_z9 ?u_z9 ?_; (case B_z9 => k_asm); (case F_z9 => k_asm); (case X_z9 => k_asm); (case T_z9 => k_asm); (case k_z9 => first | exact rfl | assumption); (case N_z9 => k_asm); (case p_z9 => exact ⟨by kmk_list, by kmk_list⟩); (case ia_z9 => l_ints); (case ib_z9 => l_ints); (case x_z9 => walk_at "mine num"); (case y_z9 => walk_at "mine num"); (case hw_z9 => assumption); (case hw2_z9 => assumption); (case d_z9 => ktr_room); (case u_z9 => ktr_units)); intro l9 us9 c9 h9 tk9 F9 N9 ne9 I9; (try dsimp only); (try k_fold)))
  (k_with "m call ref" => (k_here; (with_reducible show wpAny _ _ (call (Value.ref 203) _) _ _ _); k_dflt (refine' ct_list (r_mul ?ia_z9 ?ib_z9 ?x_z9 ?y_z9 ?hw_z9 ?hw2_z9) ?B_z9 ?F_z9 ?X_z9 ?T_z9 ?k_z9 ?N_z9 ?p_z9 ?d_z9 ?u_z9 ?_; (case B_z9 => k_asm); (case F_z9 => k_asm); (case X_z9 => k_asm); (case T_z9 => k_asm); (case k_z9 => first | exact rfl | assumption); (case N_z9 => k_asm); (case p_z9 => exact ⟨by kmk_list, by kmk_list⟩); (case ia_z9 => l_ints); (case ib_z9 => l_ints); (case x_z9 => walk_at "mine num"); (case y_z9 => walk_at "mine num"); (case hw_z9 => assumption); (case hw2_z9 => assumption); (case d_z9 => ktr_room); (case u_z9 => ktr_units)); intro l9 us9 c9 h9 tk9 F9 N9 ne9 I9; (try dsimp only); (try k_fold)))
  (k_with "m call ref" => (k_here; (with_reducible show wpAny _ _ (call (Value.ref 74) _) _ _ _); k_dflt (refine' ct_list (r_sub ?ia_z9 ?ib_z9 ?x_z9 ?y_z9 ?hw_z9 ?hw2_z9 ?hle_z9) ?B_z9 ?F_z9 ?X_z9 ?T_z9 ?k_z9 ?N_z9 ?p_z9 ?d_z9 ?u_z9 ?_; (case B_z9 => k_asm); (case F_z9 => k_asm); (case X_z9 => k_asm); (case T_z9 => k_asm); (case k_z9 => first | exact rfl | assumption); (case N_z9 => k_asm); (case p_z9 => exact ⟨by kmk_list, by kmk_list⟩); (case ia_z9 => l_ints); (case ib_z9 => l_ints); (case x_z9 => walk_at "mine num"); (case y_z9 => walk_at "mine num"); (case hw_z9 => assumption); (case hw2_z9 => assumption); (case d_z9 => ktr_room); (case u_z9 => ktr_units); (case hle_z9 => first | assumption | k_extra "le")); intro l9 us9 c9 h9 tk9 F9 N9 ne9 I9; (try dsimp only); (try k_fold)))
  (k_with "m call ref" => (k_here; (with_reducible show wpAny _ _ (call (Value.ref 53) _) _ _ _); k_dflt (refine' ct_list (r_nat ?x_z9 ?hw_z9 ?hw2_z9) ?B_z9 ?F_z9 ?X_z9 ?T_z9 ?k_z9 ?N_z9 ?p_z9 ?d_z9 ?u_z9 ?_; (case B_z9 => k_asm); (case F_z9 => k_asm); (case X_z9 => k_asm); (case T_z9 => k_asm); (case k_z9 => first | exact rfl | assumption); (case N_z9 => k_asm); (case p_z9 => exact True.intro); (case x_z9 => walk_at "mine num"); (case hw_z9 => assumption); (case hw2_z9 => assumption); (case d_z9 => ktr_room); (case u_z9 => ktr_units)); intro l9 us9 c9 h9 tk9 F9 N9 ne9 I9; (try dsimp only); (try k_fold)))
  (k_with "m call ref" => (k_here; (with_reducible show wpAny _ _ (call (Value.ref 60) _) _ _ _); k_dflt (refine' ct_val (r_cmp (wv := ?wv_z9) ?ia_z9 ?ib_z9 ?x_z9 ?y_z9 ?hw_z9) ?B_z9 ?F_z9 ?X_z9 ?T_z9 ?k_z9 ?N_z9 ?p_z9 ?d_z9 ?u_z9 ?_; (case B_z9 => k_asm); (case F_z9 => k_asm); (case X_z9 => k_asm); (case T_z9 => k_asm); (case k_z9 => first | exact rfl | assumption); (case N_z9 => k_asm); (case p_z9 => exact ⟨by kmk_list, by kmk_list⟩); (case ia_z9 => l_ints); (case ib_z9 => l_ints); (case x_z9 => walk_at "mine num"); (case y_z9 => walk_at "mine num"); (case hw_z9 => assumption); (case d_z9 => ktr_room); (case u_z9 => ktr_units)); intro t9 h9 tk9 F9 N9; (try dsimp only); (try k_fold)))
  (k_with "m close" => ((rename News _ _ _ _ => nE'); refine' retS_of ?h_z9 ?F_z9 ?N_z9 ?t_z9 ?m_z9 ?i_z9 ?eb_z9 ?e_z9; (case h_z9 => assumption); (case N_z9 => exact nE'); (case F_z9 => assumption); (case t_z9 => k_mem); (case m_z9 => k_mem); (case i_z9 => l_ints); (case eb_z9 => k_extra "sign"); (case e_z9 => first | rfl | k_extra "ret")))
  (k_with "m subscriptTail" => (k_here; (with_reducible show wpAny _ _ (subscriptTail _ _ (Value.ref _) (Value.int _ _)) _ _ _); k_dflt (refine' item_tupleT (IsTup.keeps (by with_reducible assumption) (Fr.keep (by k_asm))) ?a_z9 ?b_z9 ?c_z9 ?d_z9 ?_; (case a_z9 => decide); (case b_z9 => decide); (case c_z9 => rfl); (case d_z9 => rfl); k_whole)))
  (k_with "m close" => ((rename News _ _ _ _ => nE'); refine' retT_of ?h_z9 ?F_z9 ?N_z9 ?t_z9 ?e_z9; (case h_z9 => assumption); (case N_z9 => exact nE'); (case F_z9 => assumption); (case t_z9 => k_mem); (case e_z9 => first | rfl | k_extra "ret")))
  (k_with "m call ref" => (k_here; (with_reducible show wpAny _ _ (call (Value.ref 81) _) _ _ _); k_dflt (refine' ct_list (c_prod _ _ ?hw_z9 ?hw2_z9 _ _ _ _ _ rfl ?ia_z9 ?cn_z9 ?l20_z9) ?B_z9 ?F_z9 ?X_z9 ?T_z9 ?k_z9 ?N_z9 ?p_z9 ?d_z9 ?u_z9 ?_; (case B_z9 => k_asm); (case F_z9 => k_asm); (case X_z9 => k_asm); (case T_z9 => k_asm); (case k_z9 => first | exact rfl | assumption); (case N_z9 => k_asm); (case p_z9 => kmk_list); (case ia_z9 => first | exact (IntsAre.cons _ _ (IntsAre.cons _ _ (IntsAre.cons _ _ IntsAre.nil))) | exact (IntsAre.cons _ _ (IntsAre.cons _ _ (IntsAre.cons _ _ (IntsAre.cons _ _ (IntsAre.cons _ _ (IntsAre.cons _ _ (IntsAre.cons _ _ (IntsAre.cons _ _ (IntsAre.cons _ _ (IntsAre.cons _ _ (IntsAre.cons _ _ (IntsAre.cons _ _ (IntsAre.cons _ _ (IntsAre.cons _ _ IntsAre.nil)))))))))))))) | exact IntsAre.append (IntsAre.cons _ _ (IntsAre.cons _ _ (IntsAre.cons _ _ IntsAre.nil))) (by l_ints)  | exact IntsAre.append (IntsAre.cons _ _ (IntsAre.cons _ _ (IntsAre.cons _ _ IntsAre.nil))) (IntsAre.cons _ _ (IntsAre.cons _ _ (IntsAre.cons _ _ (IntsAre.cons _ _ (IntsAre.cons _ _ (IntsAre.cons _ _ (IntsAre.cons _ _ (IntsAre.cons _ _ (IntsAre.cons _ _ (IntsAre.cons _ _ (IntsAre.cons _ _ IntsAre.nil))))))))))) | fail); (case hw_z9 => assumption); (case hw2_z9 => assumption); (case cn_z9 => k_extra "cnt"); (case l20_z9 => exact Nat.le_of_ble_eq_true rfl); (case d_z9 => ((simp only [List.length_cons, List.length_nil]); ktr_room)); (case u_z9 => ((simp only [List.length_cons, List.length_nil]); ktr_units))); intro l9 us9 c9 h9 tk9 F9 N9 ne9 I9; (try dsimp only); (try k_fold)))
  (k_with "m call ref" => (k_here; (with_reducible show wpAny _ _ (call (Value.ref 112) _) _ _ _); k_dflt (first | refine' ct_list (c_of_groups103 _ _ _ ?hw_z9 ?hw2_z9) ?B_z9 ?F_z9 ?X_z9 ?T_z9 ?k_z9 ?N_z9 ?p_z9 ?d_z9 ?u_z9 ?_ | refine' ct_list (c_of_groups104 _ _ _ ?hw_z9 ?hw2_z9) ?B_z9 ?F_z9 ?X_z9 ?T_z9 ?k_z9 ?N_z9 ?p_z9 ?d_z9 ?u_z9 ?_); (case B_z9 => k_asm); (case F_z9 => k_asm); (case X_z9 => k_asm); (case T_z9 => k_asm); (case k_z9 => first | exact rfl | assumption); (case N_z9 => k_asm); (case p_z9 => exact True.intro); (case hw_z9 => assumption); (case hw2_z9 => assumption); (case d_z9 => ktr_room); (case u_z9 => ktr_units); intro l9 us9 c9 h9 tk9 F9 N9 ne9 I9; (try dsimp only); (try k_fold)))
  (k_with "m getAttr ref" => (k_here; k_dflt (refine' get_own ?k1_z9 ?k2_z9 (inst_base (Fr.keep (by k_asm)) (by with_reducible assumption) (by with_reducible assumption)) ?k4_z9 ?k5_z9 ?k6_z9 ?k7_z9 ?k8_z9 ?k9_z9 ?_; (case k1_z9 => k_asm); (case k2_z9 => k_asm); (case k4_z9 => k_is); (case k5_z9 => k_is); (case k6_z9 => k_is); (case k7_z9 => k_is); (case k8_z9 => k_get); (case k9_z9 => k_handed); k_whole)))
  (k_with "m close" => ((rename News _ _ _ _ => nE'); (try simp only [List.push_toArray] at nE'); refine' retA_of ?h_z9 ?F_z9 ?N_z9 ?t_z9 ?ma_z9 ?mb_z9 ?mf_z9 ?ia_z9 ?ib_z9 ?ig_z9 ?ea_z9 ?eb_z9 ?ef_z9; (case h_z9 => assumption); (case N_z9 => exact nE'); (case F_z9 => assumption); (case t_z9 => k_mem); (case ma_z9 => k_mem); (case mb_z9 => k_mem); (case mf_z9 => k_mem); (case ia_z9 => first | with_reducible assumption | exact IntsAre.cons _ _ IntsAre.nil); (case ib_z9 => first | with_reducible assumption | exact IntsAre.cons _ _ IntsAre.nil); (case ig_z9 => first | with_reducible assumption | exact IntsAre.cons _ _ IntsAre.nil); (case ea_z9 => k_extra "ret"); (case eb_z9 => k_extra "ret"); (case ef_z9 => k_extra "ret")))
  (k_with "m call type:list" => (k_here; (with_reducible show wpAny _ _ (call (Value.type _) [Value.ref _]) _ _ _); k_dflt (refine' list_copyKT ?F_z9 ?N_z9 (tupK ?X_z9 ?l_z9) ?_ ?z_z9; (case F_z9 => k_asm); (case N_z9 => k_asm); (case X_z9 => k_in); (case l_z9 => k_is); (case z_z9 => exact Nat.le_of_ble_eq_true rfl)); intro D' c' h' F' N' l1; (try k_lt l1); (try k_sweep)))
  k_fill
  intro pp lo mean mg mb dp un gd cn cs a ccd cl outer A₀ base h₀ L m s Q E B F X T hk hP hd hu hret
  have hB := two_le (w := wv) (by omega)
  obtain ⟨dx, hs1, hs2⟩ := hP
  have nk : Num k := num_lit (by omega) (by omega)
  have n1 : Num 545140134 := num_lit (by omega) (by omega)
  have n2 : Num 13591409 := num_lit (by omega) (by omega)
  have n3 : Num (545140134 * k) := num_lit (by omega) (by omega)
  have hc1 : Cnt [6 * k - 5, 2 * k - 1, 6 * k - 1] := cnt_three (by omega) (by omega) (by omega)
  have hc2 := cnt_cubes hk1 hk2
  refine wpAny_call ?_
  k_dflt (refine' enter0 (binds := [(Str.ofString "self", .ref sx), (Str.ofString "k", .int k tk₀), (Str.ofString "w", .int wv tw), (Str.ofString "mul", .ref 203)]) ?k1 ?k2 ?k3 ?k5 ?kA ?kF ?kK ?k6 ?k7 ?k8 ?k9 ?kB ?_ ?c2 ?c3 ?c4 ?c5; walk_at "mine enter")
  (k_with "cnt" => first | exact hc1 | exact hc2 | fail)
  (k_with "ret" => first | rfl | rw [prod_three] | rw [prod_cubes] | fail)
  k_steps

end
section
/-! ## the series: a term, a piece -/
def tP (form : Nat) (_x k : Int) : Int := match form with
  | 0 => 1
  | 1 => 1 - 2 * k
  | _ => 0 - (6 * k - 5) * (2 * k - 1) * (6 * k - 1)
def tQ (form : Nat) (x k : Int) : Int := match form with
  | 0 => k
  | 1 => (2 * k + 1) * x * x
  | _ => 10939058860032000 * (k * k * k)
def tA (form : Nat) (_x k : Int) : Int := match form with
  | 0 => 1
  | 1 => 1
  | _ => 13591409 + 545140134 * k
def pP (form : Nat) (x b : Int) : Nat → Int
  | 0 => 1
  | n + 1 => pP form x b n * tP form x (b + n)
def pQ (form : Nat) (x b : Int) : Nat → Int
  | 0 => 1
  | n + 1 => pQ form x b n * tQ form x (b + n)
def pT (form : Nat) (x b : Int) : Nat → Int
  | 0 => 0
  | n + 1 => pT form x b n * tQ form x (b + n) + tA form x (b + n) * (pP form x b n * tP form x (b + n))
theorem pP_split (form : Nat) (x b : Int) (n : Nat) : ∀ m : Nat, pP form x b (n + m) = pP form x b n * pP form x (b + n) m
  | 0 => by simp [pP]
  | m + 1 => by
    rw [← Nat.add_assoc]
    simp only [pP, pP_split form x b n m, Int.natCast_add, Int.mul_assoc, Int.add_assoc]
theorem pQ_split (form : Nat) (x b : Int) (n : Nat) : ∀ m : Nat, pQ form x b (n + m) = pQ form x b n * pQ form x (b + n) m
  | 0 => by simp [pQ]
  | m + 1 => by
    rw [← Nat.add_assoc]
    simp only [pQ, pQ_split form x b n m, Int.natCast_add, Int.mul_assoc, Int.add_assoc]
theorem pT_split (form : Nat) (x b : Int) (n : Nat) : ∀ m : Nat, pT form x b (n + m) = pT form x b n * pQ form x (b + n) m + pP form x b n * pT form x (b + n) m
  | 0 => by simp [pT, pQ]
  | m + 1 => by
    rw [← Nat.add_assoc]
    simp only [pT, pQ, pP_split, pT_split form x b n m, Int.natCast_add, Int.add_assoc]
    generalize tQ form x (b + (n + m)) = q
    generalize tP form x (b + (n + m)) = p
    generalize tA form x (b + (n + m)) = a
    generalize pP form x b n = P1
    generalize pP form x (b + n) m = P2
    generalize pT form x b n = T1
    generalize pT form x (b + n) m = T2
    generalize pQ form x (b + n) m = Q2
    rw [Int.add_mul, Int.mul_add, Int.add_assoc, Int.mul_assoc, Int.mul_assoc]
    congr 1; congr 1
    rw [Int.mul_assoc P1 P2 p, Int.mul_left_comm]
theorem dec_of {k : Int} (P : Int → Prop) (h : ∀ n : Nat, n < 21 → P n) (h1 : 0 ≤ k) (h2 : k ≤ 20) : P k := by
  have := h k.toNat (by omega)
  rwa [show ((k.toNat : Nat) : Int) = k by omega] at this
theorem tP_le {form : Nat} {x k : Int} (h1 : 1 ≤ k) (h2 : k ≤ 20) : (tP form x k).natAbs ≤ 2 ^ 70 := by
  match form with
  | 0 => simp only [tP]; decide
  | 1 => simp only [tP]; have : (2 : Nat) ^ 70 = 1180591620717411303424 := by decide
         omega
  | f + 2 =>
    simp only [tP]
    exact dec_of (fun k => (0 - (6 * k - 5) * (2 * k - 1) * (6 * k - 1)).natAbs ≤ 2 ^ 70) (by decide) (by omega) h2
theorem tQ_le {form : Nat} {x k : Int} (h1 : 1 ≤ k) (h2 : k ≤ 20) (hx : 2 ≤ x) (hx2 : x ≤ 7) : 1 ≤ tQ form x k ∧ (tQ form x k).natAbs ≤ 2 ^ 70 := by
  have e : (2 : Nat) ^ 70 = 1180591620717411303424 := by decide
  match form with
  | 0 => simp only [tQ]; omega
  | 1 =>
    simp only [tQ]
    have h3 : 1 ≤ (2 * k + 1) * x := Int.le_trans (show (1 : Int) ≤ 1 * 1 by decide) (Int.mul_le_mul (by omega) (by omega) (by omega) (by omega))
    have h4 : (2 * k + 1) * x ≤ 41 * 7 := Int.mul_le_mul (by omega) hx2 (by omega) (by omega)
    have h5 : (1 : Int) * 1 ≤ (2 * k + 1) * x * x := Int.mul_le_mul h3 (by omega) (by omega) (by omega)
    have h6 : (2 * k + 1) * x * x ≤ 41 * 7 * 7 := Int.mul_le_mul h4 hx2 (by omega) (by omega)
    omega
  | f + 2 =>
    simp only [tQ]
    obtain ⟨m, rfl⟩ : ∃ m : Int, k = m + 1 := ⟨k - 1, by omega⟩
    exact dec_of (fun m => m ≤ 19 → 1 ≤ 10939058860032000 * ((m + 1) * (m + 1) * (m + 1)) ∧ (10939058860032000 * ((m + 1) * (m + 1) * (m + 1))).natAbs ≤ 2 ^ 70) (by decide) (by omega) (by omega) (by omega)
theorem tA_le {form : Nat} {x k : Int} (h1 : 1 ≤ k) (h2 : k ≤ 20) : 1 ≤ tA form x k ∧ (tA form x k).natAbs ≤ 2 ^ 34 := by
  have e : (2 : Nat) ^ 34 = 17179869184 := by decide
  match form with
  | 0 => simp only [tA]; omega
  | 1 => simp only [tA]; omega
  | f + 2 => simp only [tA]; omega
section
variable {form : Nat} {x b : Int}
theorem pP_le (h1 : 1 ≤ b) (hx : 2 ≤ x) (hx2 : x ≤ 7) : ∀ {n : Nat}, b + n ≤ 21 → (pP form x b n).natAbs ≤ 2 ^ (70 * n)
  | 0, _ => by simp [pP]
  | n + 1, h => by
    have ih := pP_le h1 hx hx2 (n := n) (by omega)
    have ht := tP_le (form := form) (x := x) (k := b + n) (by omega) (by omega)
    simp only [pP, Int.natAbs_mul]
    rw [show 70 * (n + 1) = 70 * n + 70 by omega, Nat.pow_add]
    exact Nat.mul_le_mul ih ht
theorem pQ_le (h1 : 1 ≤ b) (hx : 2 ≤ x) (hx2 : x ≤ 7) : ∀ {n : Nat}, b + n ≤ 21 → 1 ≤ pQ form x b n ∧ (pQ form x b n).natAbs ≤ 2 ^ (70 * n)
  | 0, _ => by simp [pQ]
  | n + 1, h => by
    have ih := pQ_le h1 hx hx2 (n := n) (by omega)
    have ht := tQ_le (form := form) (x := x) (k := b + n) (by omega) (by omega) hx hx2
    simp only [pQ, Int.natAbs_mul]
    rw [show 70 * (n + 1) = 70 * n + 70 by omega, Nat.pow_add]
    refine ⟨?_, Nat.mul_le_mul ih.2 ht.2⟩
    have := Int.mul_le_mul ih.1 ht.1 (by omega) (by omega)
    omega
theorem pT_le (h1 : 1 ≤ b) (hx : 2 ≤ x) (hx2 : x ≤ 7) : ∀ {n : Nat}, b + n ≤ 21 → (pT form x b n).natAbs ≤ n * 2 ^ 34 * 2 ^ (70 * n)
  | 0, _ => by simp [pT]
  | n + 1, h => by
    have ih := pT_le h1 hx hx2 (n := n) (by omega)
    have hP := pP_le (form := form) h1 hx hx2 (n := n) (by omega)
    have hp := tP_le (form := form) (x := x) (k := b + n) (by omega) (by omega)
    have hq := tQ_le (form := form) (x := x) (k := b + n) (by omega) (by omega) hx hx2
    have ha := tA_le (form := form) (x := x) (k := b + n) (by omega) (by omega)
    simp only [pT]
    refine Nat.le_trans (Int.natAbs_add_le _ _) ?_
    simp only [Int.natAbs_mul]
    have e1 := Nat.mul_le_mul ih hq.2
    have e2 := Nat.mul_le_mul ha.2 (Nat.mul_le_mul hP hp)
    refine Nat.le_trans (Nat.add_le_add e1 e2) ?_
    rw [show 70 * (n + 1) = 70 * n + 70 by omega, Nat.pow_add, Nat.add_mul n 1, Nat.add_mul, Nat.one_mul, Nat.mul_assoc (n * 2 ^ 34)]
    exact Nat.le_refl _
theorem pT_le' (h1 : 1 ≤ b) (hx : 2 ≤ x) (hx2 : x ≤ 7) {n : Nat} (h : b + n ≤ 21) (hn : n ≤ 12) : (pT form x b n).natAbs ≤ 2 ^ (70 * n + 38) := by
  refine Nat.le_trans (pT_le h1 hx hx2 h) ?_
  rw [Nat.mul_comm, Nat.pow_add]
  refine Nat.mul_le_mul (Nat.le_refl _) ?_
  rw [show (38 : Nat) = 4 + 34 by rfl, Nat.pow_add]
  exact Nat.mul_le_mul (by omega) (Nat.le_refl _)
end
theorem num_abs {z : Int} (k : Nat) (h : z.natAbs ≤ 2 ^ k) (hk : k ≤ 998) : Num (z.natAbs : Int) := by
  refine Num.of (k + 1) (by omega) ?_ (by omega)
  have e : ((2 ^ k : Nat) : Int) = (2 : Int) ^ k := kbt_cast k
  have h2 : (z.natAbs : Int) ≤ 2 ^ k := by rw [← e]; exact Int.ofNat_le.mpr h
  rw [Int.pow_succ]
  have := kbt_pos k
  omega
theorem num_mulA {z₁ z₂ : Int} (k₁ k₂ : Nat) (h₁ : z₁.natAbs ≤ 2 ^ k₁) (h₂ : z₂.natAbs ≤ 2 ^ k₂) (hk : k₁ + k₂ ≤ 998) : Num ((z₁.natAbs : Int) * (z₂.natAbs : Int)) := by
  have h := num_abs (z := z₁ * z₂) (k₁ + k₂) (by rw [Int.natAbs_mul, Nat.pow_add]; exact Nat.mul_le_mul h₁ h₂) hk
  rwa [Int.natAbs_mul, Int.natCast_mul] at h
theorem num_sumA {z₁ z₂ z₃ z₄ : Int} (k₁ k₂ k₃ k₄ k : Nat) (h₁ : z₁.natAbs ≤ 2 ^ k₁) (h₂ : z₂.natAbs ≤ 2 ^ k₂) (h₃ : z₃.natAbs ≤ 2 ^ k₃) (h₄ : z₄.natAbs ≤ 2 ^ k₄) (e₁ : k₁ + k₂ ≤ k) (e₂ : k₃ + k₄ ≤ k) (hk : k ≤ 997) : Num ((z₁.natAbs : Int) * (z₂.natAbs : Int) + (z₃.natAbs : Int) * (z₄.natAbs : Int)) := by
  have a1 : z₁.natAbs * z₂.natAbs ≤ 2 ^ k := Nat.le_trans (Nat.mul_le_mul h₁ h₂) (by rw [← Nat.pow_add]; exact Nat.pow_le_pow_right (by decide) e₁)
  have a2 : z₃.natAbs * z₄.natAbs ≤ 2 ^ k := Nat.le_trans (Nat.mul_le_mul h₃ h₄) (by rw [← Nat.pow_add]; exact Nat.pow_le_pow_right (by decide) e₂)
  have h := num_abs (z := ((z₁.natAbs * z₂.natAbs + z₃.natAbs * z₄.natAbs : Nat) : Int)) (k + 1) (by rw [Int.natAbs_natCast, Nat.pow_succ]; omega) (by omega)
  rw [Int.natAbs_natCast, Int.natCast_add, Int.natCast_mul, Int.natCast_mul] at h
  exact h
end
section
/-- a piece, freshly made: (products, below, told) -/
def RetP (B P Q T : Int) (h : Heap) (r : Value) (h' : Heap) : Prop := ∃ t t₁ t₃ l₁ l₂ l₃ v₁ v₂ v₃ c₁ c₂ c₃, r = .ref t ∧ (h.get? t = none ∧ h'.get? t = some (tupOf [.ref t₁, .ref l₂, .ref t₃])) ∧
  (h.get? t₁ = none ∧ h'.get? t₁ = some (tupOf [.bool (decide (P < 0)), .ref l₁])) ∧ (h.get? t₃ = none ∧ h'.get? t₃ = some (tupOf [.bool (decide (T < 0)), .ref l₃])) ∧
  (h.get? l₁ = none ∧ h'.get? l₁ = some (listOf (List.toArray v₁) c₁) ∧ IntsAre v₁ (row B P.natAbs)) ∧ (h.get? l₂ = none ∧ h'.get? l₂ = some (listOf (List.toArray v₂) c₂) ∧ IntsAre v₂ (row B Q.natAbs)) ∧ (h.get? l₃ = none ∧ h'.get? l₃ = some (listOf (List.toArray v₃) c₃) ∧ IntsAre v₃ (row B T.natAbs))
theorem retP_of {B P Q T : Int} {b₁ b₃ : Bool} {h₀ h' : Heap} {L t t₁ t₃ l₁ l₂ l₃ : Addr} {m : Str → Option Value} {news : List (Addr × Obj)} {s : Shared} {QQ : Value → Shared → Prop} {m₁ m₂ m₃ : List Int} {w₁ w₂ w₃ : List Value} {c₁ c₂ c₃ tk : Nat}
    (hret : ∀ r h' tk', h₀.StaysIn h' → RetP B P Q T h₀ r h' → QQ r { s with heap := h', toks := tk' }) (F : Fr h₀ L h' m) (N : News h₀ L h' news) (ht : (t, tupOf [.ref t₁, .ref l₂, .ref t₃]) ∈ news)
    (ht₁ : (t₁, tupOf [.bool b₁, .ref l₁]) ∈ news) (ht₃ : (t₃, tupOf [.bool b₃, .ref l₃]) ∈ news) (h₁ : (l₁, listOf (List.toArray w₁) c₁) ∈ news) (h₂ : (l₂, listOf (List.toArray w₂) c₂) ∈ news) (h₃ : (l₃, listOf (List.toArray w₃) c₃) ∈ news)
    (i₁ : IntsAre w₁ m₁) (i₂ : IntsAre w₂ m₂) (i₃ : IntsAre w₃ m₃) (e₁ : b₁ = decide (P < 0)) (e₃ : b₃ = decide (T < 0)) (q₁ : m₁ = row B P.natAbs) (q₂ : m₂ = row B Q.natAbs) (q₃ : m₃ = row B T.natAbs) :
    QQ (.ref t) { s with heap := h', toks := tk } := by
  subst e₁; subst e₃; subst q₁; subst q₂; subst q₃
  exact hret _ _ _ F.keep ⟨_, _, _, _, _, _, _, _, _, _, _, _, rfl, ⟨(N _ ht).2.2, (N _ ht).1⟩, ⟨(N _ ht₁).2.2, (N _ ht₁).1⟩, ⟨(N _ ht₃).2.2, (N _ ht₃).1⟩, ⟨(N _ h₁).2.2, (N _ h₁).1, i₁⟩, ⟨(N _ h₂).2.2, (N _ h₂).1, i₂⟩, (N _ h₃).2.2, (N _ h₃).1, i₃⟩
theorem ct_piece {w : World} {B P Q₀ T₀ : Int} {d : Nat} {fn : Addr} {vs : List Value} {Pre : Heap → Prop} (C : CT w d fn vs Pre (RetP B P Q₀ T₀))
    {pp : Program} {lo : List Str} {mean : ExcName → Option Value} {mg mb : Str → Option Value} {dp un : Nat} {gd : Option (List Code)} {cn : Str} {cs : Scope} {a : Addr} {ccd : Value} {cl : List (Str × Addr)} {outer : List Env} {A₀ : Around} {base h₀ : Heap} {L : Addr} {m : Str → Option Value} {s : Shared}
    {Q E : Value → Shared → Prop} {news : List (Addr × Obj)} (B' : Below A₀ base outer h₀) (F : Fr h₀ L s.heap m) (X : (hd.heap_39 w.params).In h₀) (T : Top pp lo mean mg mb h₀) (hk : cs.kind = .function) (N : News h₀ L s.heap news)
    (hp : Pre s.heap) (hd : dp + d < recursionLimit) (hu : un + 8 * d < cLine)
    (ret : ∀ t t₁ t₃ l₁ l₂ l₃ v₁ v₂ v₃ c₁ c₂ c₃ h' tk', Fr h₀ L h' m → News h₀ L h' ((t, tupOf [.ref t₁, .ref l₂, .ref t₃]) :: (t₁, tupOf [.bool (decide (P < 0)), .ref l₁]) :: (t₃, tupOf [.bool (decide (T₀ < 0)), .ref l₃]) :: (l₁, listOf (List.toArray v₁) c₁) :: (l₂, listOf (List.toArray v₂) c₂) :: (l₃, listOf (List.toArray v₃) c₃) :: news) →
      AllNe t news → AllNe t₁ news → AllNe t₃ news → AllNe l₁ news → AllNe l₂ news → AllNe l₃ news → IntsAre v₁ (row B P.natAbs) → IntsAre v₂ (row B Q₀.natAbs) → IntsAre v₃ (row B T₀.natAbs) → Q (.ref t) { s with heap := h', toks := tk' }) :
    wpAny (model PySem.Challenge.rw_rr0055_01.row.prog w) (ktrTop dp un gd cn cs L a ccd cl outer) (call (.ref fn) vs) Q E s := by
  refine C _ _ _ _ _ _ _ _ _ _ _ _ _ _ _ _ _ _ _ _ _ _ B' F X T hk hp hd hu ?_
  rintro r h' tk' st ⟨t, t₁, t₃, l₁, l₂, l₃, v₁, v₂, v₃, c₁, c₂, c₃, rfl, ⟨n0, g0⟩, ⟨n1, g1⟩, ⟨n3, g3⟩, ⟨k1, d1, i1⟩, ⟨k2, d2, i2⟩, k3, d3, i3⟩
  exact ret t t₁ t₃ l₁ l₂ l₃ v₁ v₂ v₃ c₁ c₂ c₃ h' tk' (fr_stays F st) (news_more F n0 g0 (news_more F n1 g1 (news_more F n3 g3 (news_more F k1 d1 (news_more F k2 d2 (news_more F k3 d3 (news_stays N st)))))))
    (allNe_of (h' := h') n0 N) (allNe_of (h' := h') n1 N) (allNe_of (h' := h') n3 N) (allNe_of (h' := h') k1 N) (allNe_of (h' := h') k2 N) (allNe_of (h' := h') k3 N) i1 i2 i3

theorem sv_sign {b : Bool} {x z z' : Int} (h : SV b x z) (e : z = z') : b = decide (z' < 0) := e ▸ h.sign
theorem sv_row {B : Int} {b : Bool} {x z z' : Int} (h : SV b x z) (e : z = z') : row B x = row B z'.natAbs := by rw [h.abs, e]
theorem row_abs {B x z : Int} (h : 0 ≤ x) (e : x = z) : row B x = row B z.natAbs := by subst e; rw [show (x.natAbs : Int) = x by omega]
end
section
theorem three_pos {b : Int} (h1 : 1 ≤ b) (h2 : b ≤ 21) : 0 < (6 * b - 5) * (2 * b - 1) * (6 * b - 1) ∧ (6 * b - 5) * (2 * b - 1) * (6 * b - 1) ≤ 640625 := by
  refine ⟨Int.mul_pos (Int.mul_pos (by omega) (by omega)) (by omega), ?_⟩
  have h3 : (6 * b - 5) * (2 * b - 1) ≤ 125 * 41 := Int.mul_le_mul (by omega) (by omega) (by omega) (by omega)
  have h4 : (6 * b - 5) * (2 * b - 1) * (6 * b - 1) ≤ 125 * 41 * 125 := Int.mul_le_mul h3 (by omega) (by omega) (by omega)
  omega
theorem num_three {b : Int} (h1 : 1 ≤ b) (h2 : b ≤ 21) : Num ((6 * b - 5) * (2 * b - 1) * (6 * b - 1)) := by
  have := three_pos h1 h2
  exact num_lit (by omega) (by omega)
theorem num_front {b : Int} (h1 : 1 ≤ b) (h2 : b ≤ 21) : Num ((13591409 + 545140134 * b) * ((6 * b - 5) * (2 * b - 1) * (6 * b - 1))) := by
  have h := three_pos h1 h2
  have h3 : (13591409 + 545140134 * b) * ((6 * b - 5) * (2 * b - 1) * (6 * b - 1)) ≤ 12000000000 * 640625 := Int.mul_le_mul (by omega) h.2 (by omega) (by omega)
  have h4 : 0 < (13591409 + 545140134 * b) * ((6 * b - 5) * (2 * b - 1) * (6 * b - 1)) := Int.mul_pos (by omega) h.1
  exact Num.of 60 (by omega) (by rw [show (2 : Int) ^ 60 = 1152921504606846976 by decide]; omega) (by decide)
structure XR (x : Int) : Prop where
  lo : 2 ≤ x
  hi : x ≤ 7
theorem c_at1' {w : World} {wv k x : Int} {sx : Addr} {tw tk₀ : Tok} (hx : XR x) (hw : 2 ≤ wv) (hw2 : wv ≤ 9) (hk1 : 1 ≤ k) (hk2 : k ≤ 20) :
    CT w 20 154 [.ref sx, .int k tk₀, .int wv tw, .ref 203] (fun h => SerAt 1 x h sx) (RetA (2 ^ wv.toNat) true (2 * k - 1) ((2 * k + 1) * x * x) 1) :=
  c_at1 w wv k x sx tw tk₀ hw hw2 hk1 hk2 hx.lo hx.hi
theorem sv_true {z : Int} (h : 0 < z) {z' : Int} (e : z' = -z) : SV (true && decide (0 < z)) z z' := by
  subst e
  have := sv_neg h
  rwa [show (true && decide (0 < z)) = true by simp [h]]
end
section
theorem serAt_keep {f : Nat} {x : Int} {g h : Heap} {sx : Addr} (k : ∀ b o, g.get? b = some o → h.get? b = some o) (q : SerAt f x g sx) : SerAt f x h sx := by
  match f, q with
  | 0, ⟨dx, h1, h2⟩ => exact ⟨dx, k _ _ h1, k _ _ h2⟩
  | 1, ⟨dx, hs, t1, t2, h1, h2⟩ => exact ⟨dx, hs, t1, t2, k _ _ h1, k _ _ h2⟩
  | _ + 2, ⟨dx, h1, h2⟩ => exact ⟨dx, k _ _ h1, k _ _ h2⟩

theorem c_split (f : Nat) (hf3 : f = 0 ∨ f = 1 ∨ f = 2) (w : World) (wv x : Int) (hw : 2 ≤ wv) (hw2 : wv ≤ 9) (hx : 2 ≤ x) (hx2 : x ≤ 7) : ∀ (n : Nat) (b e : Int) (sx : Addr) (tb te tw : Tok) (_ : e = b + n) (_ : 1 ≤ b) (_ : e ≤ 21) (_ : n ≤ 12),
    CT w (n + 24) 189 [.ref sx, .int b tb, .int e te, .int wv tw, .ref 203] (fun h => SerAt f x h sx) (RetP (2 ^ wv.toNat) (pP f x b n) (pQ f x b n) (pT f x b n)) := by
  intro n
  induction n using Nat.strongRecOn with
  | ind n IH =>
  intro b e sx tb te tw he hb he2 hn12
  unfold CT
  w_top off
  k_with_none
  (k_with "m mine enter" => ((case kA => exact rfl); (case kF => exact rfl); (case kK => assumption); (case k1 => k_asm); (case k2 => k_asm); (case k3 => k_asm); (case k5 => k_asm); (case k6 => k_is); (case k7 => k_is); (case k8 => ktr_room); (case k9 => exact BindsTo.of_eq rfl); (case c5 => decide); (case kB => exact locs rfl); (case c2 => exact rfl); (case c3 => exact rfl); (case c4 => exact rfl); k_whole; intro L' h' F' N' B' X' T'; (try dsimp only); (try k_fold)))
  (k_with "m close" => ((rename News _ _ _ _ => nE'); (try simp only [List.push_toArray] at nE'); refine' retL_of ?h_z9 ?F_z9 ?N_z9 ?m_z9 ?i_z9 ?e_z9; (case h_z9 => assumption); (case N_z9 => exact nE'); (case F_z9 => assumption); (case m_z9 => k_mem); (case i_z9 => first | with_reducible assumption | exact IntsAre.cons _ _ IntsAre.nil | k_intsEnd); (case e_z9 => k_extra "ret")))
  (k_with "m close" => (refine' retV_of _ ?h_z9 ?F_z9 ?e_z9; (case h_z9 => assumption); (case F_z9 => assumption); (case e_z9 => first | rfl | k_extra "ret")))
  (k_with "m exec" => ((with_reducible show wpAny _ _ (exec (PySem.Stmt.While _ _ _ _) _) _ _ _); k_extra "mine while"))
  (k_with "m mine num" => first | with_reducible assumption | k_extra "num")
  (k_with "m call ref" => (k_here; (with_reducible show wpAny _ _ (call (Value.ref 67) _) _ _ _); k_dflt (refine' ct_list (r_add ?ia_z9 ?ib_z9 ?x_z9 ?y_z9 ?hw_z9 ?hw2_z9) ?B_z9 ?F_z9 ?X_z9 ?T_z9 ?k_z9 ?N_z9 ?p_z9 ?d_z9 ?u_z9 ?_; (case B_z9 => k_asm); (case F_z9 => k_asm); (case X_z9 => k_asm); (case T_z9 => k_asm); (case k_z9 => first | exact rfl | assumption); (case N_z9 => k_asm); (case p_z9 => exact ⟨by kmk_list, by kmk_list⟩); (case ia_z9 => l_ints); (case ib_z9 => l_ints); (case x_z9 => walk_at "mine num"); (case y_z9 => walk_at "mine num"); (case hw_z9 => assumption); (case hw2_z9 => assumption); (case d_z9 => ktr_room); (case u_z9 => ktr_units)); intro l9 us9 c9 h9 tk9 F9 N9 ne9 I9; (try dsimp only); (try k_fold)))
  (k_with "m call ref" => (k_here; (with_reducible show wpAny _ _ (call (Value.ref 203) _) _ _ _); k_dflt (refine' ct_list (r_mul ?ia_z9 ?ib_z9 ?x_z9 ?y_z9 ?hw_z9 ?hw2_z9) ?B_z9 ?F_z9 ?X_z9 ?T_z9 ?k_z9 ?N_z9 ?p_z9 ?d_z9 ?u_z9 ?_; (case B_z9 => k_asm); (case F_z9 => k_asm); (case X_z9 => k_asm); (case T_z9 => k_asm); (case k_z9 => first | exact rfl | assumption); (case N_z9 => k_asm); (case p_z9 => exact ⟨by kmk_list, by kmk_list⟩); (case ia_z9 => l_ints); (case ib_z9 => l_ints); (case x_z9 => walk_at "mine num"); (case y_z9 => walk_at "mine num"); (case hw_z9 => assumption); (case hw2_z9 => assumption); (case d_z9 => ktr_room); (case u_z9 => ktr_units)); intro l9 us9 c9 h9 tk9 F9 N9 ne9 I9; (try dsimp only); (try k_fold)))
  (k_with "m call ref" => (k_here; (with_reducible show wpAny _ _ (call (Value.ref 74) _) _ _ _); k_dflt (refine' ct_list (r_sub ?ia_z9 ?ib_z9 ?x_z9 ?y_z9 ?hw_z9 ?hw2_z9 ?hle_z9) ?B_z9 ?F_z9 ?X_z9 ?T_z9 ?k_z9 ?N_z9 ?p_z9 ?d_z9 ?u_z9 ?_; (case B_z9 => k_asm); (case F_z9 => k_asm); (case X_z9 => k_asm); (case T_z9 => k_asm); (case k_z9 => first | exact rfl | assumption); (case N_z9 => k_asm); (case p_z9 => exact ⟨by kmk_list, by kmk_list⟩); (case ia_z9 => l_ints); (case ib_z9 => l_ints); (case x_z9 => walk_at "mine num"); (case y_z9 => walk_at "mine num"); (case hw_z9 => assumption); (case hw2_z9 => assumption); (case d_z9 => ktr_room); (case u_z9 => ktr_units); (case hle_z9 => first | assumption | k_extra "le")); intro l9 us9 c9 h9 tk9 F9 N9 ne9 I9; (try dsimp only); (try k_fold)))
  (k_with "m call ref" => (k_here; (with_reducible show wpAny _ _ (call (Value.ref 53) _) _ _ _); k_dflt (refine' ct_list (r_nat ?x_z9 ?hw_z9 ?hw2_z9) ?B_z9 ?F_z9 ?X_z9 ?T_z9 ?k_z9 ?N_z9 ?p_z9 ?d_z9 ?u_z9 ?_; (case B_z9 => k_asm); (case F_z9 => k_asm); (case X_z9 => k_asm); (case T_z9 => k_asm); (case k_z9 => first | exact rfl | assumption); (case N_z9 => k_asm); (case p_z9 => exact True.intro); (case x_z9 => walk_at "mine num"); (case hw_z9 => assumption); (case hw2_z9 => assumption); (case d_z9 => ktr_room); (case u_z9 => ktr_units)); intro l9 us9 c9 h9 tk9 F9 N9 ne9 I9; (try dsimp only); (try k_fold)))
  (k_with "m call ref" => (k_here; (with_reducible show wpAny _ _ (call (Value.ref 60) _) _ _ _); k_dflt (refine' ct_val (r_cmp (wv := ?wv_z9) ?ia_z9 ?ib_z9 ?x_z9 ?y_z9 ?hw_z9) ?B_z9 ?F_z9 ?X_z9 ?T_z9 ?k_z9 ?N_z9 ?p_z9 ?d_z9 ?u_z9 ?_; (case B_z9 => k_asm); (case F_z9 => k_asm); (case X_z9 => k_asm); (case T_z9 => k_asm); (case k_z9 => first | exact rfl | assumption); (case N_z9 => k_asm); (case p_z9 => exact ⟨by kmk_list, by kmk_list⟩); (case ia_z9 => l_ints); (case ib_z9 => l_ints); (case x_z9 => walk_at "mine num"); (case y_z9 => walk_at "mine num"); (case hw_z9 => assumption); (case d_z9 => ktr_room); (case u_z9 => ktr_units)); intro t9 h9 tk9 F9 N9; (try dsimp only); (try k_fold)))
  (k_with "m close" => ((rename News _ _ _ _ => nE'); refine' retS_of ?h_z9 ?F_z9 ?N_z9 ?t_z9 ?m_z9 ?i_z9 ?eb_z9 ?e_z9; (case h_z9 => assumption); (case N_z9 => exact nE'); (case F_z9 => assumption); (case t_z9 => k_mem); (case m_z9 => k_mem); (case i_z9 => l_ints); (case eb_z9 => k_extra "sign"); (case e_z9 => first | rfl | k_extra "ret")))
  (k_with "m subscriptTail" => (k_here; (with_reducible show wpAny _ _ (subscriptTail _ _ (Value.ref _) (Value.int _ _)) _ _ _); k_dflt (refine' item_tupleT (IsTup.keeps (by with_reducible assumption) (Fr.keep (by k_asm))) ?a_z9 ?b_z9 ?c_z9 ?d_z9 ?_; (case a_z9 => decide); (case b_z9 => decide); (case c_z9 => rfl); (case d_z9 => rfl); k_whole)))
  (k_with "m close" => ((rename News _ _ _ _ => nE'); refine' retT_of ?h_z9 ?F_z9 ?N_z9 ?t_z9 ?e_z9; (case h_z9 => assumption); (case N_z9 => exact nE'); (case F_z9 => assumption); (case t_z9 => k_mem); (case e_z9 => first | rfl | k_extra "ret")))
  (k_with "m call ref" => (k_here; (with_reducible show wpAny _ _ (call (Value.ref 81) _) _ _ _); k_dflt (refine' ct_list (c_prod _ _ ?hw_z9 ?hw2_z9 _ _ _ _ _ rfl ?ia_z9 ?cn_z9 ?l20_z9) ?B_z9 ?F_z9 ?X_z9 ?T_z9 ?k_z9 ?N_z9 ?p_z9 ?d_z9 ?u_z9 ?_; (case B_z9 => k_asm); (case F_z9 => k_asm); (case X_z9 => k_asm); (case T_z9 => k_asm); (case k_z9 => first | exact rfl | assumption); (case N_z9 => k_asm); (case p_z9 => kmk_list); (case ia_z9 => first | exact (IntsAre.cons _ _ (IntsAre.cons _ _ (IntsAre.cons _ _ IntsAre.nil))) | exact (IntsAre.cons _ _ (IntsAre.cons _ _ (IntsAre.cons _ _ (IntsAre.cons _ _ (IntsAre.cons _ _ (IntsAre.cons _ _ (IntsAre.cons _ _ (IntsAre.cons _ _ (IntsAre.cons _ _ (IntsAre.cons _ _ (IntsAre.cons _ _ (IntsAre.cons _ _ (IntsAre.cons _ _ (IntsAre.cons _ _ IntsAre.nil)))))))))))))) | exact IntsAre.append (IntsAre.cons _ _ (IntsAre.cons _ _ (IntsAre.cons _ _ IntsAre.nil))) (by l_ints)  | exact IntsAre.append (IntsAre.cons _ _ (IntsAre.cons _ _ (IntsAre.cons _ _ IntsAre.nil))) (IntsAre.cons _ _ (IntsAre.cons _ _ (IntsAre.cons _ _ (IntsAre.cons _ _ (IntsAre.cons _ _ (IntsAre.cons _ _ (IntsAre.cons _ _ (IntsAre.cons _ _ (IntsAre.cons _ _ (IntsAre.cons _ _ (IntsAre.cons _ _ IntsAre.nil))))))))))) | fail); (case hw_z9 => assumption); (case hw2_z9 => assumption); (case cn_z9 => k_extra "cnt"); (case l20_z9 => exact Nat.le_of_ble_eq_true rfl); (case d_z9 => ((simp only [List.length_cons, List.length_nil]); ktr_room)); (case u_z9 => ((simp only [List.length_cons, List.length_nil]); ktr_units))); intro l9 us9 c9 h9 tk9 F9 N9 ne9 I9; (try dsimp only); (try k_fold)))
  (k_with "m call ref" => (k_here; (with_reducible show wpAny _ _ (call (Value.ref 112) _) _ _ _); k_dflt (first | refine' ct_list (c_of_groups103 _ _ _ ?hw_z9 ?hw2_z9) ?B_z9 ?F_z9 ?X_z9 ?T_z9 ?k_z9 ?N_z9 ?p_z9 ?d_z9 ?u_z9 ?_ | refine' ct_list (c_of_groups104 _ _ _ ?hw_z9 ?hw2_z9) ?B_z9 ?F_z9 ?X_z9 ?T_z9 ?k_z9 ?N_z9 ?p_z9 ?d_z9 ?u_z9 ?_); (case B_z9 => k_asm); (case F_z9 => k_asm); (case X_z9 => k_asm); (case T_z9 => k_asm); (case k_z9 => first | exact rfl | assumption); (case N_z9 => k_asm); (case p_z9 => exact True.intro); (case hw_z9 => assumption); (case hw2_z9 => assumption); (case d_z9 => ktr_room); (case u_z9 => ktr_units); intro l9 us9 c9 h9 tk9 F9 N9 ne9 I9; (try dsimp only); (try k_fold)))
  (k_with "m getAttr ref" => (k_here; k_dflt (refine' get_own ?k1_z9 ?k2_z9 (inst_base (Fr.keep (by k_asm)) (by with_reducible assumption) (by with_reducible assumption)) ?k4_z9 ?k5_z9 ?k6_z9 ?k7_z9 ?k8_z9 ?k9_z9 ?_; (case k1_z9 => k_asm); (case k2_z9 => k_asm); (case k4_z9 => k_is); (case k5_z9 => k_is); (case k6_z9 => k_is); (case k7_z9 => k_is); (case k8_z9 => k_get); (case k9_z9 => k_handed); k_whole)))
  (k_with "m close" => ((rename News _ _ _ _ => nE'); (try simp only [List.push_toArray] at nE'); refine' retA_of ?h_z9 ?F_z9 ?N_z9 ?t_z9 ?ma_z9 ?mb_z9 ?mf_z9 ?ia_z9 ?ib_z9 ?ig_z9 ?ea_z9 ?eb_z9 ?ef_z9; (case h_z9 => assumption); (case N_z9 => exact nE'); (case F_z9 => assumption); (case t_z9 => k_mem); (case ma_z9 => k_mem); (case mb_z9 => k_mem); (case mf_z9 => k_mem); (case ia_z9 => first | with_reducible assumption | exact IntsAre.cons _ _ IntsAre.nil); (case ib_z9 => first | with_reducible assumption | exact IntsAre.cons _ _ IntsAre.nil); (case ig_z9 => first | with_reducible assumption | exact IntsAre.cons _ _ IntsAre.nil); (case ea_z9 => k_extra "ret"); (case eb_z9 => k_extra "ret"); (case ef_z9 => k_extra "ret")))
  (k_with "m call ref" => (k_here; (with_reducible show wpAny _ _ (call (Value.ref 88) _) _ _ _); k_dflt (refine' ct_tup (r_signed (wv := ?wv_z9) ?ia_z9 ?x_z9 ?hw_z9) ?B_z9 ?F_z9 ?X_z9 ?T_z9 ?k_z9 ?N_z9 ?p_z9 ?d_z9 ?u_z9 ?_; (case B_z9 => k_asm); (case F_z9 => k_asm); (case X_z9 => k_asm); (case T_z9 => k_asm); (case k_z9 => first | exact rfl | assumption); (case N_z9 => k_asm); (case p_z9 => kmk_list); (case ia_z9 => l_ints); (case x_z9 => walk_at "mine num"); (case hw_z9 => assumption); (case d_z9 => ktr_room); (case u_z9 => ktr_units)); intro t9 h9 tk9 F9 N9 ne9; (try dsimp only); (try k_fold)))
  (k_with "m call ref" => (k_here; (with_reducible show wpAny _ _ (call (Value.ref 102) _) _ _ _); k_dflt (refine' ct_sgn (c_smul _ _ _ _ _ _ _ _ _ ?x_z9 ?y_z9 ?xy_z9 ?hw_z9 ?hw2_z9) ?B_z9 ?F_z9 ?X_z9 ?T_z9 ?k_z9 ?N_z9 ?p_z9 ?d_z9 ?u_z9 ?_; (case B_z9 => k_asm); (case F_z9 => k_asm); (case X_z9 => k_asm); (case T_z9 => k_asm); (case k_z9 => first | exact rfl | assumption); (case N_z9 => k_asm); (case p_z9 => exact ⟨⟨_, _, _, News.get (by k_asm) (by k_mem), News.get (by k_asm) (by k_mem), by l_ints⟩, ⟨_, _, _, News.get (by k_asm) (by k_mem), News.get (by k_asm) (by k_mem), by l_ints⟩⟩); (case x_z9 => walk_at "mine num"); (case y_z9 => walk_at "mine num"); (case xy_z9 => walk_at "mine num"); (case hw_z9 => assumption); (case hw2_z9 => assumption); (case d_z9 => ktr_room); (case u_z9 => ktr_units)); intro t9 l9 us9 c9 h9 tk9 F9 N9 ne9 ne9' I9; (try dsimp only); (try k_fold)))
  (k_with "m call ref" => (k_here; (with_reducible show wpAny _ _ (call (Value.ref 95) _) _ _ _); k_dflt (refine' ct_sgn (c_sadd _ _ _ _ _ _ _ _ _ ?x_z9 ?y_z9 ?xy_z9 ?hw_z9 ?hw2_z9) ?B_z9 ?F_z9 ?X_z9 ?T_z9 ?k_z9 ?N_z9 ?p_z9 ?d_z9 ?u_z9 ?_; (case B_z9 => k_asm); (case F_z9 => k_asm); (case X_z9 => k_asm); (case T_z9 => k_asm); (case k_z9 => first | exact rfl | assumption); (case N_z9 => k_asm); (case p_z9 => exact ⟨⟨_, _, _, News.get (by k_asm) (by k_mem), News.get (by k_asm) (by k_mem), by l_ints⟩, ⟨_, _, _, News.get (by k_asm) (by k_mem), News.get (by k_asm) (by k_mem), by l_ints⟩⟩); (case x_z9 => walk_at "mine num"); (case y_z9 => walk_at "mine num"); (case xy_z9 => walk_at "mine num"); (case hw_z9 => assumption); (case hw2_z9 => assumption); (case d_z9 => ktr_room); (case u_z9 => ktr_units)); intro t9 l9 us9 c9 h9 tk9 F9 N9 ne9 ne9' I9; (try dsimp only); (try k_fold)))
  (k_with "m call ref" => (k_here; k_dflt (first | (with_reducible show wpAny _ _ (call (Value.ref 126) _) _ _ _); refine' ct_at (c_at0 _ _ _ 0 _ _ _ ?hw_z9 ?hw2_z9 ?k1_z9 ?k2_z9) ?B_z9 ?F_z9 ?X_z9 ?T_z9 ?k_z9 ?N_z9 ?p_z9 ?d_z9 ?u_z9 ?_ | (with_reducible show wpAny _ _ (call (Value.ref 175) _) _ _ _); refine' ct_at (c_at2 _ _ _ 0 _ _ _ ?hw_z9 ?hw2_z9 ?k1_z9 ?k2_z9) ?B_z9 ?F_z9 ?X_z9 ?T_z9 ?k_z9 ?N_z9 ?p_z9 ?d_z9 ?u_z9 ?_); (case B_z9 => k_asm); (case F_z9 => k_asm); (case X_z9 => k_asm); (case T_z9 => k_asm); (case k_z9 => first | exact rfl | assumption); (case N_z9 => k_asm); (case p_z9 => k_extra "ser"); (case k1_z9 => omega); (case k2_z9 => omega); (case hw_z9 => assumption); (case hw2_z9 => assumption); (case d_z9 => ktr_room); (case u_z9 => ktr_units); intro t9 la9 lb9 lf9 va9 vb9 vf9 ca9 cb9 cf9 h9 tk9 F9 N9 Ia9 Ib9 If9; (try dsimp only); (try k_fold)))
  (k_with "m call ref" => (k_here; (with_reducible show wpAny _ _ (call (Value.ref 154) _) _ _ _); k_dflt (refine' ct_at (c_at1' ?x1_z9 ?hw_z9 ?hw2_z9 ?k1_z9 ?k2_z9) ?B_z9 ?F_z9 ?X_z9 ?T_z9 ?k_z9 ?N_z9 ?p_z9 ?d_z9 ?u_z9 ?_; (case B_z9 => k_asm); (case F_z9 => k_asm); (case X_z9 => k_asm); (case T_z9 => k_asm); (case k_z9 => first | exact rfl | assumption); (case N_z9 => k_asm); (case x1_z9 => with_reducible assumption); (case p_z9 => k_extra "ser"); (case k1_z9 => omega); (case k2_z9 => omega); (case hw_z9 => assumption); (case hw2_z9 => assumption); (case d_z9 => ktr_room); (case u_z9 => ktr_units)); intro t9 la9 lb9 lf9 va9 vb9 vf9 ca9 cb9 cf9 h9 tk9 F9 N9 Ia9 Ib9 If9; (try dsimp only); (try k_fold)))
  (k_with "m getMethod ref" => (k_here; k_dflt (refine' method_inst ?k1_z9 ?k2_z9 (inst_base (Fr.keep (by k_asm)) (by with_reducible assumption) (by with_reducible assumption)) ?k4_z9 ?k5_z9 ?k6_z9 ?k7_z9 ?_; (case k1_z9 => k_asm); (case k2_z9 => k_asm); (case k4_z9 => k_is); (case k5_z9 => k_is); (case k6_z9 => k_is); (case k7_z9 => k_get); k_whole)))
  (k_with "m close" => ((rename News _ _ _ _ => nE'); (try simp only [List.push_toArray] at nE'); refine' retP_of ?h_z9 ?F_z9 ?N_z9 ?t_z9 ?t1_z9 ?t3_z9 ?h1_z9 ?h2_z9 ?h3_z9 ?i1_z9 ?i2_z9 ?i3_z9 ?e1_z9 ?e3_z9 ?q1_z9 ?q2_z9 ?q3_z9; (case h_z9 => assumption); (case N_z9 => exact nE'); (case F_z9 => assumption); (case t_z9 => k_mem); (case t1_z9 => k_mem); (case t3_z9 => k_mem); (case h1_z9 => k_mem); (case h2_z9 => k_mem); (case h3_z9 => k_mem); (case i1_z9 => first | with_reducible assumption | exact IntsAre.cons _ _ IntsAre.nil | exact IntsAre.nil); (case i2_z9 => first | with_reducible assumption | exact IntsAre.cons _ _ IntsAre.nil | exact IntsAre.nil); (case i3_z9 => first | with_reducible assumption | exact IntsAre.cons _ _ IntsAre.nil | exact IntsAre.nil); (case e1_z9 => k_extra "sign"); (case e3_z9 => k_extra "sign"); (case q1_z9 => k_extra "ret"); (case q2_z9 => k_extra "ret"); (case q3_z9 => k_extra "ret")))
  k_fill
  intro pp lo mean mg mb dp un gd cn cs a ccd cl outer A₀ base h₀ L m s Q E B F X T hk hP hd hu hret
  have hB := two_le (w := wv) (by omega)
  have hser := hP
  have hhalf : (b + e).fdiv 2 = b + ((n / 2 : Nat) : Int) := by rw [Int.fdiv_eq_ediv_of_nonneg _ (by decide)]; omega
  have bP1 := pP_le (form := f) hb hx hx2 (n := n / 2) (by omega)
  have bQ1 := pQ_le (form := f) hb hx hx2 (n := n / 2) (by omega)
  have bT1 := pT_le' (form := f) hb hx hx2 (n := n / 2) (by omega) (by omega)
  have bP2 := pP_le (form := f) (b := (b + e).fdiv 2) (by omega) hx hx2 (n := n - n / 2) (by omega)
  have bQ2 := pQ_le (form := f) (b := (b + e).fdiv 2) (by omega) hx hx2 (n := n - n / 2) (by omega)
  have bT2 := pT_le' (form := f) (b := (b + e).fdiv 2) (by omega) hx hx2 (n := n - n / 2) (by omega) (by omega)
  have bQ := (pQ_le (form := f) hb hx hx2 (n := n) (by omega)).1
  have nP1 := num_abs _ bP1 (by omega)
  have nQ1 := num_abs _ bQ1.2 (by omega)
  have nT1 := num_abs _ bT1 (by omega)
  have nP2 := num_abs _ bP2 (by omega)
  have nQ2 := num_abs _ bQ2.2 (by omega)
  have nT2 := num_abs _ bT2 (by omega)
  have nTQ := num_mulA _ _ bT1 bQ2.2 (by omega)
  have nPT := num_mulA _ _ bP1 bT2 (by omega)
  have nPP := num_mulA _ _ bP1 bP2 (by omega)
  have nSS := num_sumA _ _ _ _ (70 * n + 38) bT1 bQ2.2 bP1 bT2 (by omega) (by omega) (by omega)
  have eP : pP f x b (n / 2) * pP f x ((b + e).fdiv 2) (n - n / 2) = pP f x b n := by rw [hhalf, ← pP_split, show n / 2 + (n - n / 2) = n by omega]
  have eQ : pQ f x b (n / 2) * pQ f x ((b + e).fdiv 2) (n - n / 2) = pQ f x b n := by rw [hhalf, ← pQ_split, show n / 2 + (n - n / 2) = n by omega]
  have eT : pT f x b (n / 2) * pQ f x ((b + e).fdiv 2) (n - n / 2) + pP f x b (n / 2) * pT f x ((b + e).fdiv 2) (n - n / 2) = pT f x b n := by rw [hhalf, ← pT_split, show n / 2 + (n - n / 2) = n by omega]
  have eQ' : ((pQ f x b (n / 2)).natAbs : Int) * ((pQ f x ((b + e).fdiv 2) (n - n / 2)).natAbs : Int) = pQ f x b n := by rw [← eQ]; have := bQ1.1; have := bQ2.1; rw [show ((pQ f x b (n / 2)).natAbs : Int) = pQ f x b (n / 2) by omega, show ((pQ f x ((b + e).fdiv 2) (n - n / 2)).natAbs : Int) = pQ f x ((b + e).fdiv 2) (n - n / 2) by omega]
  have svP := sv_of (pP f x b (n / 2))
  have svT := sv_of (pT f x b (n / 2))
  have svP2 := sv_of (pP f x ((b + e).fdiv 2) (n - n / 2))
  have svT2 := sv_of (pT f x ((b + e).fdiv 2) (n - n / 2))
  have svQ2 : SV false ((pQ f x ((b + e).fdiv 2) (n - n / 2)).natAbs : Int) (pQ f x ((b + e).fdiv 2) (n - n / 2)) := ⟨by have := bQ2.1; simp; omega, rfl⟩
  have hv0P : n = 0 → SV false 1 (pP f x b n) := by intro h; subst h; exact sv_nn (by decide)
  have hv0Q : n = 0 → SV false 1 (pQ f x b n) := by intro h; subst h; exact sv_nn (by decide)
  have hv0T : n = 0 → SV false 0 (pT f x b n) := by intro h; subst h; exact sv_nn (by decide)
  refine wpAny_call ?_
  k_dflt (refine' enter0 (binds := [(Str.ofString "series", .ref sx), (Str.ofString "begin", .int b tb), (Str.ofString "end", .int e te), (Str.ofString "w", .int wv tw), (Str.ofString "mul", .ref 203)]) ?k1 ?k2 ?k3 ?k5 ?kA ?kF ?kK ?k6 ?k7 ?k8 ?k9 ?kB ?_ ?c2 ?c3 ?c4 ?c5; walk_at "mine enter")
  (k_with "ser" => exact serAt_keep (Fr.keep (by k_asm)) hser)
  (k_with "call ref" => (with_reducible show wpAny _ _ (call (Value.ref 189) _) _ _ _); k_dflt ((first | refine' ct_piece (IH (n / 2) ?q9lt _ _ _ _ _ _ (by omega) ?q9b ?q9e ?q9n) ?q9B ?q9F ?q9X ?q9T ?q9k ?q9N ?q9p ?q9d ?q9u ?_ | refine' ct_piece (IH (n - n / 2) ?q9lt _ _ _ _ _ _ (by omega) ?q9b ?q9e ?q9n) ?q9B ?q9F ?q9X ?q9T ?q9k ?q9N ?q9p ?q9d ?q9u ?_); (case q9B => k_asm); (case q9F => k_asm); (case q9X => k_asm); (case q9T => k_asm); (case q9k => first | exact rfl | assumption); (case q9N => k_asm); (case q9p => k_extra "ser"); (case q9lt => omega); (case q9b => omega); (case q9e => omega); (case q9n => omega); (case q9d => ktr_room); (case q9u => ktr_units)); intro t9 t91 t93 l91 l92 l93 v91 v92 v93 c91 c92 c93 h9 tk9 F9 N9 ne91 ne92 ne93 ne94 ne95 ne96 I91 I92 I93; (try dsimp only); (try k_fold))
  (k_with "num" => fail)
  (k_with "sign" =>
    first
    | exact sv_sign (hv0P (by omega)) rfl
    | exact sv_sign (hv0T (by omega)) rfl
    | exact sv_sign (hv1P (by omega)) rfl
    | exact sv_sign (hv1T (by omega)) rfl
    | exact sv_sign (sv_mul svP svP2) eP
    | exact sv_sign (sv_add (sv_mul svT svQ2) (sv_mul svP svT2)) eT
    | fail)
  (k_with "ret" =>
    first
    | exact (row_one hB).symm.trans (sv_row (hv0P (by omega)) rfl)
    | exact (row_one hB).symm.trans (sv_row (hv0Q (by omega)) rfl)
    | exact (row_zero (by omega)).symm.trans (sv_row (hv0T (by omega)) rfl)
    | exact sv_row (hv1P (by omega)) rfl
    | exact sv_row (hv1T (by omega)) rfl
    | exact sv_row (hv1Q (by omega)) rfl
    | exact sv_row (sv_mul svP svP2) eP
    | exact sv_row (sv_add (sv_mul svT svQ2) (sv_mul svP svT2)) eT
    | exact row_abs (by rw [eQ']; omega) eQ'
    | fail)
  k_steps
  rcases hf3 with rfl | rfl | rfl
  · obtain ⟨dx, hs1, hs2⟩ := (show SerAt 0 x s.heap sx from hser)
    have hv1P : n = 1 → SV (false && decide (0 < (1 : Int))) 1 (pP 0 x b n) := by intro h; subst h; exact sv_nn (by decide)
    have hv1Q : n = 1 → SV false b (pQ 0 x b n) := by intro h; subst h; simp only [pQ, tQ, Int.one_mul, Int.natCast_zero, Int.add_zero]; exact sv_nn (by omega)
    have hv1T : n = 1 → SV (false && decide (0 < (1 : Int) * 1)) (1 * 1) (pT 0 x b n) := by intro h; subst h; simp only [pT, pP, tQ, tP, tA]; rw [Int.zero_mul]; exact sv_nn (by decide)
    have n1 : n = 1 → Num b := fun _ => num_lit (by omega) (by omega)
    have nn1 := num_one
    have nn2 : Num (1 * 1) := num_one
    k_steps
  · obtain ⟨dx, hsh, tks, tx, hs1, hs2⟩ := (show SerAt 1 x s.heap sx from hser)
    have hv1P : n = 1 → SV (true && decide (0 < 2 * b - 1)) (2 * b - 1) (pP 1 x b n) := by intro h; subst h; exact sv_true (by omega) (by simp only [pP, tP, Int.one_mul, Int.natCast_zero, Int.add_zero]; omega)
    have hv1Q : n = 1 → SV false ((2 * b + 1) * x * x) (pQ 1 x b n) := by
      intro h
      have hq := bQ
      subst h
      simp only [pQ, tQ, Int.one_mul, Int.natCast_zero, Int.add_zero] at hq ⊢
      exact sv_nn (by omega)
    have hv1T : n = 1 → SV (true && decide (0 < 1 * (2 * b - 1))) (1 * (2 * b - 1)) (pT 1 x b n) := by intro h; subst h; exact sv_true (by omega) (by simp only [pT, pP, tP, tA, Int.one_mul, Int.zero_mul, Int.zero_add, Int.natCast_zero, Int.add_zero]; omega)
    have nn1 := num_one
    have hxr : XR x := ⟨hx, hx2⟩
    have nn2 : Num (2 * b - 1) := num_lit (by omega) (by omega)
    have nn3 : Num (1 * (2 * b - 1)) := num_lit (by omega) (by omega)
    k_steps
  · obtain ⟨dx, hs1, hs2⟩ := (show SerAt 2 x s.heap sx from hser)
    have hv1P : n = 1 → SV (true && decide (0 < (6 * b - 5) * (2 * b - 1) * (6 * b - 1))) ((6 * b - 5) * (2 * b - 1) * (6 * b - 1)) (pP 2 x b n) := by intro h; subst h; exact sv_true (three_pos hb (by omega)).1 (by simp only [pP, tP, Int.one_mul, Int.natCast_zero, Int.add_zero, Int.zero_sub])
    have hv1Q : n = 1 → SV false (10939058860032000 * (b * b * b)) (pQ 2 x b n) := by
      intro h
      have hq := bQ
      subst h
      simp only [pQ, tQ, Int.one_mul, Int.natCast_zero, Int.add_zero] at hq ⊢
      exact sv_nn (by omega)
    have hv1T : n = 1 → SV (true && decide (0 < (13591409 + 545140134 * b) * ((6 * b - 5) * (2 * b - 1) * (6 * b - 1)))) ((13591409 + 545140134 * b) * ((6 * b - 5) * (2 * b - 1) * (6 * b - 1))) (pT 2 x b n) := by intro h; subst h; exact sv_true (Int.mul_pos (by omega) (three_pos hb (by omega)).1) (by simp only [pT, pP, tP, tA, Int.one_mul, Int.zero_mul, Int.zero_add, Int.natCast_zero, Int.add_zero, Int.zero_sub, Int.mul_neg])
    have nn1 : Num (13591409 + 545140134 * b) := num_lit (by omega) (by omega)
    have nn2 := num_three hb (show b ≤ 21 by omega)
    have nn3 := num_front hb (show b ≤ 21 by omega)
    k_steps


theorem c_split0 (w : World) (wv x : Int) (hw : 2 ≤ wv) (hw2 : wv ≤ 9) (hx : 2 ≤ x) (hx2 : x ≤ 7) : ∀ (n : Nat) (b e : Int) (sx : Addr) (tb te tw : Tok) (_ : e = b + n) (_ : 1 ≤ b) (_ : e ≤ 21) (_ : n ≤ 12),
    CT w (n + 24) 189 [.ref sx, .int b tb, .int e te, .int wv tw, .ref 203] (fun h => SerAt 0 x h sx) (RetP (2 ^ wv.toNat) (pP 0 x b n) (pQ 0 x b n) (pT 0 x b n)) := c_split 0 (.inl rfl) w wv x hw hw2 hx hx2
theorem c_split1 (w : World) (wv x : Int) (hw : 2 ≤ wv) (hw2 : wv ≤ 9) (hx : 2 ≤ x) (hx2 : x ≤ 7) : ∀ (n : Nat) (b e : Int) (sx : Addr) (tb te tw : Tok) (_ : e = b + n) (_ : 1 ≤ b) (_ : e ≤ 21) (_ : n ≤ 12),
    CT w (n + 24) 189 [.ref sx, .int b tb, .int e te, .int wv tw, .ref 203] (fun h => SerAt 1 x h sx) (RetP (2 ^ wv.toNat) (pP 1 x b n) (pQ 1 x b n) (pT 1 x b n)) := c_split 1 (.inr (.inl rfl)) w wv x hw hw2 hx hx2
theorem c_split2 (w : World) (wv x : Int) (hw : 2 ≤ wv) (hw2 : wv ≤ 9) (hx : 2 ≤ x) (hx2 : x ≤ 7) : ∀ (n : Nat) (b e : Int) (sx : Addr) (tb te tw : Tok) (_ : e = b + n) (_ : 1 ≤ b) (_ : e ≤ 21) (_ : n ≤ 12),
    CT w (n + 24) 189 [.ref sx, .int b tb, .int e te, .int wv tw, .ref 203] (fun h => SerAt 2 x h sx) (RetP (2 ^ wv.toNat) (pP 2 x b n) (pQ 2 x b n) (pT 2 x b n)) := c_split 2 (.inr (.inr rfl)) w wv x hw hw2 hx hx2
end
section
/-- the sum of the first terms is no less than nought -/
theorem frac_nn {form : Nat} (hf : form ≤ 2) {x : Int} (hx : 2 ≤ x) (hx2 : x ≤ 7) {n : Nat} (hn : n ≤ 4) : 0 ≤ pQ form x 1 n + pT form x 1 n := by
  have h : ∀ f : Nat, f < 3 → ∀ n : Nat, n < 5 → ∀ k : Nat, k < 6 → 0 ≤ pQ f ((k : Int) + 2) 1 n + pT f ((k : Int) + 2) 1 n := by decide +kernel
  have := h form (by omega) n (by omega) (x - 2).toNat (by omega)
  rwa [show (((x - 2).toNat : Nat) : Int) + 2 = x by omega] at this
/-- two rows in a tuple, freshly made -/
def RetF (B p q : Int) (h : Heap) (r : Value) (h' : Heap) : Prop := ∃ t l₁ l₂ v₁ v₂ c₁ c₂, r = .ref t ∧ (h.get? t = none ∧ h'.get? t = some (tupOf [.ref l₁, .ref l₂])) ∧
  (h.get? l₁ = none ∧ h'.get? l₁ = some (listOf (List.toArray v₁) c₁) ∧ IntsAre v₁ (row B p)) ∧ (h.get? l₂ = none ∧ h'.get? l₂ = some (listOf (List.toArray v₂) c₂) ∧ IntsAre v₂ (row B q))
theorem retF_of {B p q : Int} {h₀ h' : Heap} {L t l₁ l₂ : Addr} {m : Str → Option Value} {news : List (Addr × Obj)} {s : Shared} {QQ : Value → Shared → Prop} {m₁ m₂ : List Int} {w₁ w₂ : List Value} {c₁ c₂ tk : Nat}
    (hret : ∀ r h' tk', h₀.StaysIn h' → RetF B p q h₀ r h' → QQ r { s with heap := h', toks := tk' }) (F : Fr h₀ L h' m) (N : News h₀ L h' news) (ht : (t, tupOf [.ref l₁, .ref l₂]) ∈ news)
    (h₁ : (l₁, listOf (List.toArray w₁) c₁) ∈ news) (h₂ : (l₂, listOf (List.toArray w₂) c₂) ∈ news) (i₁ : IntsAre w₁ m₁) (i₂ : IntsAre w₂ m₂) (q₁ : m₁ = row B p) (q₂ : m₂ = row B q) :
    QQ (.ref t) { s with heap := h', toks := tk } := by
  subst q₁; subst q₂
  exact hret _ _ _ F.keep ⟨_, _, _, _, _, _, _, rfl, ⟨(N _ ht).2.2, (N _ ht).1⟩, ⟨(N _ h₁).2.2, (N _ h₁).1, i₁⟩, (N _ h₂).2.2, (N _ h₂).1, i₂⟩
theorem ct_frac {w : World} {B p q : Int} {d : Nat} {fn : Addr} {vs : List Value} {Pre : Heap → Prop} (C : CT w d fn vs Pre (RetF B p q))
    {pp : Program} {lo : List Str} {mean : ExcName → Option Value} {mg mb : Str → Option Value} {dp un : Nat} {gd : Option (List Code)} {cn : Str} {cs : Scope} {a : Addr} {ccd : Value} {cl : List (Str × Addr)} {outer : List Env} {A₀ : Around} {base h₀ : Heap} {L : Addr} {m : Str → Option Value} {s : Shared}
    {Q E : Value → Shared → Prop} {news : List (Addr × Obj)} (B' : Below A₀ base outer h₀) (F : Fr h₀ L s.heap m) (X : (hd.heap_39 w.params).In h₀) (T : Top pp lo mean mg mb h₀) (hk : cs.kind = .function) (N : News h₀ L s.heap news)
    (hp : Pre s.heap) (hd : dp + d < recursionLimit) (hu : un + 8 * d < cLine)
    (ret : ∀ t l₁ l₂ v₁ v₂ c₁ c₂ h' tk', Fr h₀ L h' m → News h₀ L h' ((t, tupOf [.ref l₁, .ref l₂]) :: (l₁, listOf (List.toArray v₁) c₁) :: (l₂, listOf (List.toArray v₂) c₂) :: news) →
      AllNe t news → AllNe l₁ news → AllNe l₂ news → IntsAre v₁ (row B p) → IntsAre v₂ (row B q) → Q (.ref t) { s with heap := h', toks := tk' }) :
    wpAny (model PySem.Challenge.rw_rr0055_01.row.prog w) (ktrTop dp un gd cn cs L a ccd cl outer) (call (.ref fn) vs) Q E s := by
  refine C _ _ _ _ _ _ _ _ _ _ _ _ _ _ _ _ _ _ _ _ _ _ B' F X T hk hp hd hu ?_
  rintro r h' tk' st ⟨t, l₁, l₂, v₁, v₂, c₁, c₂, rfl, ⟨n0, g0⟩, ⟨k1, d1, i1⟩, k2, d2, i2⟩
  exact ret t l₁ l₂ v₁ v₂ c₁ c₂ h' tk' (fr_stays F st) (news_more F n0 g0 (news_more F k1 d1 (news_more F k2 d2 (news_stays N st)))) (allNe_of (h' := h') n0 N) (allNe_of (h' := h') k1 N) (allNe_of (h' := h') k2 N) i1 i2
/-- three ints in a tuple, freshly made -/
def RetI (p q a : Int) (h : Heap) (r : Value) (h' : Heap) : Prop := ∃ t t₁ t₂ t₃, r = .ref t ∧ h.get? t = none ∧ h'.get? t = some (tupOf [.int p t₁, .int q t₂, .int a t₃])
theorem retI_of {p q a p' q' a' : Int} {t₁ t₂ t₃ : Tok} {h₀ h' : Heap} {L t : Addr} {m : Str → Option Value} {news : List (Addr × Obj)} {s : Shared} {QQ : Value → Shared → Prop} {tk : Nat}
    (hret : ∀ r h' tk', h₀.StaysIn h' → RetI p q a h₀ r h' → QQ r { s with heap := h', toks := tk' }) (F : Fr h₀ L h' m) (N : News h₀ L h' news) (ht : (t, tupOf [.int p' t₁, .int q' t₂, .int a' t₃]) ∈ news) (e₁ : p' = p) (e₂ : q' = q) (e₃ : a' = a) :
    QQ (.ref t) { s with heap := h', toks := tk } := by
  subst e₁; subst e₂; subst e₃
  exact hret _ _ _ F.keep ⟨_, _, _, _, rfl, (N _ ht).2.2, (N _ ht).1⟩
theorem ct_ints {w : World} {p q a₀ : Int} {d : Nat} {fn : Addr} {vs : List Value} {Pre : Heap → Prop} (C : CT w d fn vs Pre (RetI p q a₀))
    {pp : Program} {lo : List Str} {mean : ExcName → Option Value} {mg mb : Str → Option Value} {dp un : Nat} {gd : Option (List Code)} {cn : Str} {cs : Scope} {a : Addr} {ccd : Value} {cl : List (Str × Addr)} {outer : List Env} {A₀ : Around} {base h₀ : Heap} {L : Addr} {m : Str → Option Value} {s : Shared}
    {Q E : Value → Shared → Prop} {news : List (Addr × Obj)} (B' : Below A₀ base outer h₀) (F : Fr h₀ L s.heap m) (X : (hd.heap_39 w.params).In h₀) (T : Top pp lo mean mg mb h₀) (hk : cs.kind = .function) (N : News h₀ L s.heap news)
    (hp : Pre s.heap) (hd : dp + d < recursionLimit) (hu : un + 8 * d < cLine)
    (ret : ∀ t t₁ t₂ t₃ h' tk', Fr h₀ L h' m → News h₀ L h' ((t, tupOf [.int p t₁, .int q t₂, .int a₀ t₃]) :: news) → AllNe t news → Q (.ref t) { s with heap := h', toks := tk' }) :
    wpAny (model PySem.Challenge.rw_rr0055_01.row.prog w) (ktrTop dp un gd cn cs L a ccd cl outer) (call (.ref fn) vs) Q E s := by
  refine C _ _ _ _ _ _ _ _ _ _ _ _ _ _ _ _ _ _ _ _ _ _ B' F X T hk hp hd hu ?_
  rintro r h' tk' st ⟨t, t₁, t₂, t₃, rfl, n0, g0⟩
  exact ret t t₁ t₂ t₃ h' tk' (fr_stays F st) (news_more F n0 g0 (news_stays N st)) (allNe_of (h' := h') n0 N)
end
section
theorem r_lrow {w : World} {wv x : Int} {tn tw : Tok} (hn : Num x) (hw : 2 ≤ wv) (hw2 : wv ≤ 9) : CT w 1 217 [.int x tn, .int wv tw] (fun _ => True) (RetL (row (2 ^ wv.toNat) x)) :=
  c_lrow w x wv tn tw hn.small hw hw2
end
section
theorem c_frac (f : Nat) (hf3 : f = 0 ∨ f = 1 ∨ f = 2) (w : World) (wv x : Int) (hw : 2 ≤ wv) (hw2 : wv ≤ 9) (hx : 2 ≤ x) (hx2 : x ≤ 7) (n : Nat) (hn : n ≤ 4) (many : Int) (hm : many = n) (sx : Addr) (tm tw : Tok) :
    CT w 32 196 [.ref sx, .int many tm, .int wv tw, .ref 203] (fun h => SerAt f x h sx) (RetF (2 ^ wv.toNat) (pQ f x 1 n + pT f x 1 n) (pQ f x 1 n)) := by
  unfold CT
  w_top off
  k_with_none
  (k_with "m mine enter" => ((case kA => exact rfl); (case kF => exact rfl); (case kK => assumption); (case k1 => k_asm); (case k2 => k_asm); (case k3 => k_asm); (case k5 => k_asm); (case k6 => k_is); (case k7 => k_is); (case k8 => ktr_room); (case k9 => exact BindsTo.of_eq rfl); (case c5 => decide); (case kB => exact locs rfl); (case c2 => exact rfl); (case c3 => exact rfl); (case c4 => exact rfl); k_whole; intro L' h' F' N' B' X' T'; (try dsimp only); (try k_fold)))
  (k_with "m close" => ((rename News _ _ _ _ => nE'); (try simp only [List.push_toArray] at nE'); refine' retL_of ?h_z9 ?F_z9 ?N_z9 ?m_z9 ?i_z9 ?e_z9; (case h_z9 => assumption); (case N_z9 => exact nE'); (case F_z9 => assumption); (case m_z9 => k_mem); (case i_z9 => first | with_reducible assumption | exact IntsAre.cons _ _ IntsAre.nil | k_intsEnd); (case e_z9 => k_extra "ret")))
  (k_with "m close" => (refine' retV_of _ ?h_z9 ?F_z9 ?e_z9; (case h_z9 => assumption); (case F_z9 => assumption); (case e_z9 => first | rfl | k_extra "ret")))
  (k_with "m exec" => ((with_reducible show wpAny _ _ (exec (PySem.Stmt.While _ _ _ _) _) _ _ _); k_extra "mine while"))
  (k_with "m mine num" => first | with_reducible assumption | k_extra "num")
  (k_with "m call ref" => (k_here; (with_reducible show wpAny _ _ (call (Value.ref 67) _) _ _ _); k_dflt (refine' ct_list (r_add ?ia_z9 ?ib_z9 ?x_z9 ?y_z9 ?hw_z9 ?hw2_z9) ?B_z9 ?F_z9 ?X_z9 ?T_z9 ?k_z9 ?N_z9 ?p_z9 ?d_z9 ?u_z9 ?_; (case B_z9 => k_asm); (case F_z9 => k_asm); (case X_z9 => k_asm); (case T_z9 => k_asm); (case k_z9 => first | exact rfl | assumption); (case N_z9 => k_asm); (case p_z9 => exact ⟨by kmk_list, by kmk_list⟩); (case ia_z9 => l_ints); (case ib_z9 => l_ints); (case x_z9 => walk_at "mine num"); (case y_z9 => walk_at "mine num"); (case hw_z9 => assumption); (case hw2_z9 => assumption); (case d_z9 => ktr_room); (case u_z9 => ktr_units)); intro l9 us9 c9 h9 tk9 F9 N9 ne9 I9; (try dsimp only); (try k_fold)))
  (k_with "m call ref" => (k_here; (with_reducible show wpAny _ _ (call (Value.ref 203) _) _ _ _); k_dflt (refine' ct_list (r_mul ?ia_z9 ?ib_z9 ?x_z9 ?y_z9 ?hw_z9 ?hw2_z9) ?B_z9 ?F_z9 ?X_z9 ?T_z9 ?k_z9 ?N_z9 ?p_z9 ?d_z9 ?u_z9 ?_; (case B_z9 => k_asm); (case F_z9 => k_asm); (case X_z9 => k_asm); (case T_z9 => k_asm); (case k_z9 => first | exact rfl | assumption); (case N_z9 => k_asm); (case p_z9 => exact ⟨by kmk_list, by kmk_list⟩); (case ia_z9 => l_ints); (case ib_z9 => l_ints); (case x_z9 => walk_at "mine num"); (case y_z9 => walk_at "mine num"); (case hw_z9 => assumption); (case hw2_z9 => assumption); (case d_z9 => ktr_room); (case u_z9 => ktr_units)); intro l9 us9 c9 h9 tk9 F9 N9 ne9 I9; (try dsimp only); (try k_fold)))
  (k_with "m call ref" => (k_here; (with_reducible show wpAny _ _ (call (Value.ref 74) _) _ _ _); k_dflt (refine' ct_list (r_sub ?ia_z9 ?ib_z9 ?x_z9 ?y_z9 ?hw_z9 ?hw2_z9 ?hle_z9) ?B_z9 ?F_z9 ?X_z9 ?T_z9 ?k_z9 ?N_z9 ?p_z9 ?d_z9 ?u_z9 ?_; (case B_z9 => k_asm); (case F_z9 => k_asm); (case X_z9 => k_asm); (case T_z9 => k_asm); (case k_z9 => first | exact rfl | assumption); (case N_z9 => k_asm); (case p_z9 => exact ⟨by kmk_list, by kmk_list⟩); (case ia_z9 => l_ints); (case ib_z9 => l_ints); (case x_z9 => walk_at "mine num"); (case y_z9 => walk_at "mine num"); (case hw_z9 => assumption); (case hw2_z9 => assumption); (case d_z9 => ktr_room); (case u_z9 => ktr_units); (case hle_z9 => first | assumption | k_extra "le")); intro l9 us9 c9 h9 tk9 F9 N9 ne9 I9; (try dsimp only); (try k_fold)))
  (k_with "m call ref" => (k_here; (with_reducible show wpAny _ _ (call (Value.ref 53) _) _ _ _); k_dflt (refine' ct_list (r_nat ?x_z9 ?hw_z9 ?hw2_z9) ?B_z9 ?F_z9 ?X_z9 ?T_z9 ?k_z9 ?N_z9 ?p_z9 ?d_z9 ?u_z9 ?_; (case B_z9 => k_asm); (case F_z9 => k_asm); (case X_z9 => k_asm); (case T_z9 => k_asm); (case k_z9 => first | exact rfl | assumption); (case N_z9 => k_asm); (case p_z9 => exact True.intro); (case x_z9 => walk_at "mine num"); (case hw_z9 => assumption); (case hw2_z9 => assumption); (case d_z9 => ktr_room); (case u_z9 => ktr_units)); intro l9 us9 c9 h9 tk9 F9 N9 ne9 I9; (try dsimp only); (try k_fold)))
  (k_with "m call ref" => (k_here; (with_reducible show wpAny _ _ (call (Value.ref 60) _) _ _ _); k_dflt (refine' ct_val (r_cmp (wv := ?wv_z9) ?ia_z9 ?ib_z9 ?x_z9 ?y_z9 ?hw_z9) ?B_z9 ?F_z9 ?X_z9 ?T_z9 ?k_z9 ?N_z9 ?p_z9 ?d_z9 ?u_z9 ?_; (case B_z9 => k_asm); (case F_z9 => k_asm); (case X_z9 => k_asm); (case T_z9 => k_asm); (case k_z9 => first | exact rfl | assumption); (case N_z9 => k_asm); (case p_z9 => exact ⟨by kmk_list, by kmk_list⟩); (case ia_z9 => l_ints); (case ib_z9 => l_ints); (case x_z9 => walk_at "mine num"); (case y_z9 => walk_at "mine num"); (case hw_z9 => assumption); (case d_z9 => ktr_room); (case u_z9 => ktr_units)); intro t9 h9 tk9 F9 N9; (try dsimp only); (try k_fold)))
  (k_with "m close" => ((rename News _ _ _ _ => nE'); refine' retS_of ?h_z9 ?F_z9 ?N_z9 ?t_z9 ?m_z9 ?i_z9 ?eb_z9 ?e_z9; (case h_z9 => assumption); (case N_z9 => exact nE'); (case F_z9 => assumption); (case t_z9 => k_mem); (case m_z9 => k_mem); (case i_z9 => l_ints); (case eb_z9 => k_extra "sign"); (case e_z9 => first | rfl | k_extra "ret")))
  (k_with "m subscriptTail" => (k_here; (with_reducible show wpAny _ _ (subscriptTail _ _ (Value.ref _) (Value.int _ _)) _ _ _); k_dflt (refine' item_tupleT (IsTup.keeps (by with_reducible assumption) (Fr.keep (by k_asm))) ?a_z9 ?b_z9 ?c_z9 ?d_z9 ?_; (case a_z9 => decide); (case b_z9 => decide); (case c_z9 => rfl); (case d_z9 => rfl); k_whole)))
  (k_with "m close" => ((rename News _ _ _ _ => nE'); refine' retT_of ?h_z9 ?F_z9 ?N_z9 ?t_z9 ?e_z9; (case h_z9 => assumption); (case N_z9 => exact nE'); (case F_z9 => assumption); (case t_z9 => k_mem); (case e_z9 => first | rfl | k_extra "ret")))
  (k_with "m call ref" => (k_here; (with_reducible show wpAny _ _ (call (Value.ref 81) _) _ _ _); k_dflt (refine' ct_list (c_prod _ _ ?hw_z9 ?hw2_z9 _ _ _ _ _ rfl ?ia_z9 ?cn_z9 ?l20_z9) ?B_z9 ?F_z9 ?X_z9 ?T_z9 ?k_z9 ?N_z9 ?p_z9 ?d_z9 ?u_z9 ?_; (case B_z9 => k_asm); (case F_z9 => k_asm); (case X_z9 => k_asm); (case T_z9 => k_asm); (case k_z9 => first | exact rfl | assumption); (case N_z9 => k_asm); (case p_z9 => kmk_list); (case ia_z9 => first | exact (IntsAre.cons _ _ (IntsAre.cons _ _ (IntsAre.cons _ _ IntsAre.nil))) | exact (IntsAre.cons _ _ (IntsAre.cons _ _ (IntsAre.cons _ _ (IntsAre.cons _ _ (IntsAre.cons _ _ (IntsAre.cons _ _ (IntsAre.cons _ _ (IntsAre.cons _ _ (IntsAre.cons _ _ (IntsAre.cons _ _ (IntsAre.cons _ _ (IntsAre.cons _ _ (IntsAre.cons _ _ (IntsAre.cons _ _ IntsAre.nil)))))))))))))) | exact IntsAre.append (IntsAre.cons _ _ (IntsAre.cons _ _ (IntsAre.cons _ _ IntsAre.nil))) (by l_ints)  | exact IntsAre.append (IntsAre.cons _ _ (IntsAre.cons _ _ (IntsAre.cons _ _ IntsAre.nil))) (IntsAre.cons _ _ (IntsAre.cons _ _ (IntsAre.cons _ _ (IntsAre.cons _ _ (IntsAre.cons _ _ (IntsAre.cons _ _ (IntsAre.cons _ _ (IntsAre.cons _ _ (IntsAre.cons _ _ (IntsAre.cons _ _ (IntsAre.cons _ _ IntsAre.nil))))))))))) | fail); (case hw_z9 => assumption); (case hw2_z9 => assumption); (case cn_z9 => k_extra "cnt"); (case l20_z9 => exact Nat.le_of_ble_eq_true rfl); (case d_z9 => ((simp only [List.length_cons, List.length_nil]); ktr_room)); (case u_z9 => ((simp only [List.length_cons, List.length_nil]); ktr_units))); intro l9 us9 c9 h9 tk9 F9 N9 ne9 I9; (try dsimp only); (try k_fold)))
  (k_with "m call ref" => (k_here; (with_reducible show wpAny _ _ (call (Value.ref 112) _) _ _ _); k_dflt (first | refine' ct_list (c_of_groups103 _ _ _ ?hw_z9 ?hw2_z9) ?B_z9 ?F_z9 ?X_z9 ?T_z9 ?k_z9 ?N_z9 ?p_z9 ?d_z9 ?u_z9 ?_ | refine' ct_list (c_of_groups104 _ _ _ ?hw_z9 ?hw2_z9) ?B_z9 ?F_z9 ?X_z9 ?T_z9 ?k_z9 ?N_z9 ?p_z9 ?d_z9 ?u_z9 ?_); (case B_z9 => k_asm); (case F_z9 => k_asm); (case X_z9 => k_asm); (case T_z9 => k_asm); (case k_z9 => first | exact rfl | assumption); (case N_z9 => k_asm); (case p_z9 => exact True.intro); (case hw_z9 => assumption); (case hw2_z9 => assumption); (case d_z9 => ktr_room); (case u_z9 => ktr_units); intro l9 us9 c9 h9 tk9 F9 N9 ne9 I9; (try dsimp only); (try k_fold)))
  (k_with "m getAttr ref" => (k_here; k_dflt (refine' get_own ?k1_z9 ?k2_z9 (inst_base (Fr.keep (by k_asm)) (by with_reducible assumption) (by with_reducible assumption)) ?k4_z9 ?k5_z9 ?k6_z9 ?k7_z9 ?k8_z9 ?k9_z9 ?_; (case k1_z9 => k_asm); (case k2_z9 => k_asm); (case k4_z9 => k_is); (case k5_z9 => k_is); (case k6_z9 => k_is); (case k7_z9 => k_is); (case k8_z9 => k_get); (case k9_z9 => k_handed); k_whole)))
  (k_with "m close" => ((rename News _ _ _ _ => nE'); (try simp only [List.push_toArray] at nE'); refine' retA_of ?h_z9 ?F_z9 ?N_z9 ?t_z9 ?ma_z9 ?mb_z9 ?mf_z9 ?ia_z9 ?ib_z9 ?ig_z9 ?ea_z9 ?eb_z9 ?ef_z9; (case h_z9 => assumption); (case N_z9 => exact nE'); (case F_z9 => assumption); (case t_z9 => k_mem); (case ma_z9 => k_mem); (case mb_z9 => k_mem); (case mf_z9 => k_mem); (case ia_z9 => first | with_reducible assumption | exact IntsAre.cons _ _ IntsAre.nil); (case ib_z9 => first | with_reducible assumption | exact IntsAre.cons _ _ IntsAre.nil); (case ig_z9 => first | with_reducible assumption | exact IntsAre.cons _ _ IntsAre.nil); (case ea_z9 => k_extra "ret"); (case eb_z9 => k_extra "ret"); (case ef_z9 => k_extra "ret")))
  (k_with "m call ref" => (k_here; (with_reducible show wpAny _ _ (call (Value.ref 88) _) _ _ _); k_dflt (refine' ct_tup (r_signed (wv := ?wv_z9) ?ia_z9 ?x_z9 ?hw_z9) ?B_z9 ?F_z9 ?X_z9 ?T_z9 ?k_z9 ?N_z9 ?p_z9 ?d_z9 ?u_z9 ?_; (case B_z9 => k_asm); (case F_z9 => k_asm); (case X_z9 => k_asm); (case T_z9 => k_asm); (case k_z9 => first | exact rfl | assumption); (case N_z9 => k_asm); (case p_z9 => kmk_list); (case ia_z9 => l_ints); (case x_z9 => walk_at "mine num"); (case hw_z9 => assumption); (case d_z9 => ktr_room); (case u_z9 => ktr_units)); intro t9 h9 tk9 F9 N9 ne9; (try dsimp only); (try k_fold)))
  (k_with "m call ref" => (k_here; (with_reducible show wpAny _ _ (call (Value.ref 102) _) _ _ _); k_dflt (refine' ct_sgn (c_smul _ _ _ _ _ _ _ _ _ ?x_z9 ?y_z9 ?xy_z9 ?hw_z9 ?hw2_z9) ?B_z9 ?F_z9 ?X_z9 ?T_z9 ?k_z9 ?N_z9 ?p_z9 ?d_z9 ?u_z9 ?_; (case B_z9 => k_asm); (case F_z9 => k_asm); (case X_z9 => k_asm); (case T_z9 => k_asm); (case k_z9 => first | exact rfl | assumption); (case N_z9 => k_asm); (case p_z9 => exact ⟨⟨_, _, _, News.get (by k_asm) (by k_mem), News.get (by k_asm) (by k_mem), by l_ints⟩, ⟨_, _, _, News.get (by k_asm) (by k_mem), News.get (by k_asm) (by k_mem), by l_ints⟩⟩); (case x_z9 => walk_at "mine num"); (case y_z9 => walk_at "mine num"); (case xy_z9 => walk_at "mine num"); (case hw_z9 => assumption); (case hw2_z9 => assumption); (case d_z9 => ktr_room); (case u_z9 => ktr_units)); intro t9 l9 us9 c9 h9 tk9 F9 N9 ne9 ne9' I9; (try dsimp only); (try k_fold)))
  (k_with "m call ref" => (k_here; (with_reducible show wpAny _ _ (call (Value.ref 95) _) _ _ _); k_dflt (refine' ct_sgn (c_sadd _ _ _ _ _ _ _ _ _ ?x_z9 ?y_z9 ?xy_z9 ?hw_z9 ?hw2_z9) ?B_z9 ?F_z9 ?X_z9 ?T_z9 ?k_z9 ?N_z9 ?p_z9 ?d_z9 ?u_z9 ?_; (case B_z9 => k_asm); (case F_z9 => k_asm); (case X_z9 => k_asm); (case T_z9 => k_asm); (case k_z9 => first | exact rfl | assumption); (case N_z9 => k_asm); (case p_z9 => exact ⟨⟨_, _, _, News.get (by k_asm) (by k_mem), News.get (by k_asm) (by k_mem), by l_ints⟩, ⟨_, _, _, News.get (by k_asm) (by k_mem), News.get (by k_asm) (by k_mem), by l_ints⟩⟩); (case x_z9 => walk_at "mine num"); (case y_z9 => walk_at "mine num"); (case xy_z9 => walk_at "mine num"); (case hw_z9 => assumption); (case hw2_z9 => assumption); (case d_z9 => ktr_room); (case u_z9 => ktr_units)); intro t9 l9 us9 c9 h9 tk9 F9 N9 ne9 ne9' I9; (try dsimp only); (try k_fold)))
  (k_with "m call ref" => (k_here; k_dflt (first | (with_reducible show wpAny _ _ (call (Value.ref 126) _) _ _ _); refine' ct_at (c_at0 _ _ _ 0 _ _ _ ?hw_z9 ?hw2_z9 ?k1_z9 ?k2_z9) ?B_z9 ?F_z9 ?X_z9 ?T_z9 ?k_z9 ?N_z9 ?p_z9 ?d_z9 ?u_z9 ?_ | (with_reducible show wpAny _ _ (call (Value.ref 175) _) _ _ _); refine' ct_at (c_at2 _ _ _ 0 _ _ _ ?hw_z9 ?hw2_z9 ?k1_z9 ?k2_z9) ?B_z9 ?F_z9 ?X_z9 ?T_z9 ?k_z9 ?N_z9 ?p_z9 ?d_z9 ?u_z9 ?_); (case B_z9 => k_asm); (case F_z9 => k_asm); (case X_z9 => k_asm); (case T_z9 => k_asm); (case k_z9 => first | exact rfl | assumption); (case N_z9 => k_asm); (case p_z9 => k_extra "ser"); (case k1_z9 => omega); (case k2_z9 => omega); (case hw_z9 => assumption); (case hw2_z9 => assumption); (case d_z9 => ktr_room); (case u_z9 => ktr_units); intro t9 la9 lb9 lf9 va9 vb9 vf9 ca9 cb9 cf9 h9 tk9 F9 N9 Ia9 Ib9 If9; (try dsimp only); (try k_fold)))
  (k_with "m call ref" => (k_here; (with_reducible show wpAny _ _ (call (Value.ref 154) _) _ _ _); k_dflt (refine' ct_at (c_at1' ?x1_z9 ?hw_z9 ?hw2_z9 ?k1_z9 ?k2_z9) ?B_z9 ?F_z9 ?X_z9 ?T_z9 ?k_z9 ?N_z9 ?p_z9 ?d_z9 ?u_z9 ?_; (case B_z9 => k_asm); (case F_z9 => k_asm); (case X_z9 => k_asm); (case T_z9 => k_asm); (case k_z9 => first | exact rfl | assumption); (case N_z9 => k_asm); (case x1_z9 => with_reducible assumption); (case p_z9 => k_extra "ser"); (case k1_z9 => omega); (case k2_z9 => omega); (case hw_z9 => assumption); (case hw2_z9 => assumption); (case d_z9 => ktr_room); (case u_z9 => ktr_units)); intro t9 la9 lb9 lf9 va9 vb9 vf9 ca9 cb9 cf9 h9 tk9 F9 N9 Ia9 Ib9 If9; (try dsimp only); (try k_fold)))
  (k_with "m getMethod ref" => (k_here; k_dflt (refine' method_inst ?k1_z9 ?k2_z9 (inst_base (Fr.keep (by k_asm)) (by with_reducible assumption) (by with_reducible assumption)) ?k4_z9 ?k5_z9 ?k6_z9 ?k7_z9 ?_; (case k1_z9 => k_asm); (case k2_z9 => k_asm); (case k4_z9 => k_is); (case k5_z9 => k_is); (case k6_z9 => k_is); (case k7_z9 => k_get); k_whole)))
  (k_with "m close" => ((rename News _ _ _ _ => nE'); (try simp only [List.push_toArray] at nE'); refine' retP_of ?h_z9 ?F_z9 ?N_z9 ?t_z9 ?t1_z9 ?t3_z9 ?h1_z9 ?h2_z9 ?h3_z9 ?i1_z9 ?i2_z9 ?i3_z9 ?e1_z9 ?e3_z9 ?q1_z9 ?q2_z9 ?q3_z9; (case h_z9 => assumption); (case N_z9 => exact nE'); (case F_z9 => assumption); (case t_z9 => k_mem); (case t1_z9 => k_mem); (case t3_z9 => k_mem); (case h1_z9 => k_mem); (case h2_z9 => k_mem); (case h3_z9 => k_mem); (case i1_z9 => first | with_reducible assumption | exact IntsAre.cons _ _ IntsAre.nil | exact IntsAre.nil); (case i2_z9 => first | with_reducible assumption | exact IntsAre.cons _ _ IntsAre.nil | exact IntsAre.nil); (case i3_z9 => first | with_reducible assumption | exact IntsAre.cons _ _ IntsAre.nil | exact IntsAre.nil); (case e1_z9 => k_extra "sign"); (case e3_z9 => k_extra "sign"); (case q1_z9 => k_extra "ret"); (case q2_z9 => k_extra "ret"); (case q3_z9 => k_extra "ret")))
  (k_with "m close" => ((rename News _ _ _ _ => nE'); refine' retF_of ?h_z9 ?F_z9 ?N_z9 ?t_z9 ?h1_z9 ?h2_z9 ?i1_z9 ?i2_z9 ?q1_z9 ?q2_z9; (case h_z9 => assumption); (case N_z9 => exact nE'); (case F_z9 => assumption); (case t_z9 => k_mem); (case h1_z9 => k_mem); (case h2_z9 => k_mem); (case i1_z9 => first | with_reducible assumption | exact IntsAre.cons _ _ IntsAre.nil | exact IntsAre.nil); (case i2_z9 => first | with_reducible assumption | exact IntsAre.cons _ _ IntsAre.nil | exact IntsAre.nil); (case q1_z9 => k_extra "ret"); (case q2_z9 => k_extra "ret")))
  (k_with "m close" => ((rename News _ _ _ _ => nE'); refine' retI_of ?h_z9 ?F_z9 ?N_z9 ?t_z9 ?q1_z9 ?q2_z9 ?q3_z9; (case h_z9 => assumption); (case N_z9 => exact nE'); (case F_z9 => assumption); (case t_z9 => k_mem); (case q1_z9 => k_extra "ret"); (case q2_z9 => k_extra "ret"); (case q3_z9 => k_extra "ret")))
  (k_with "m call ref" => (k_here; (with_reducible show wpAny _ _ (call (Value.ref 217) _) _ _ _); k_dflt (refine' ct_list (r_lrow ?x_z9 ?hw_z9 ?hw2_z9) ?B_z9 ?F_z9 ?X_z9 ?T_z9 ?k_z9 ?N_z9 ?p_z9 ?d_z9 ?u_z9 ?_; (case B_z9 => k_asm); (case F_z9 => k_asm); (case X_z9 => k_asm); (case T_z9 => k_asm); (case k_z9 => first | exact rfl | assumption); (case N_z9 => k_asm); (case p_z9 => exact True.intro); (case x_z9 => walk_at "mine num"); (case hw_z9 => assumption); (case hw2_z9 => assumption); (case d_z9 => ktr_room); (case u_z9 => ktr_units)); intro l9 us9 c9 h9 tk9 F9 N9 ne9 I9; (try dsimp only); (try k_fold)))
  k_fill
  intro pp lo mean mg mb dp un gd cn cs a ccd cl outer A₀ base h₀ L m s Q E B F X T hk hP hd hu hret
  have hB := two_le (w := wv) (by omega)
  have hser := hP
  have bQ := pQ_le (form := f) (b := 1) (by omega) hx hx2 (n := n) (by omega)
  have bT := pT_le' (form := f) (b := 1) (by omega) hx hx2 (n := n) (by omega) (by omega)
  have nQ := num_abs _ bQ.2 (by omega)
  have nT := num_abs _ bT (by omega)
  have nn := frac_nn (form := f) (by omega) hx hx2 hn
  have nS : Num (((pQ f x 1 n).natAbs : Int) + ((pT f x 1 n).natAbs : Int)) := by
    have h := num_sumA (z₂ := 1) (z₄ := 1) _ 0 _ 0 (70 * n + 38) bQ.2 (by decide) bT (by decide) (by omega) (by omega) (by omega)
    simpa using h
  have svQ : SV false ((pQ f x 1 n).natAbs : Int) (pQ f x 1 n) := ⟨by have := bQ.1; simp; omega, rfl⟩
  have svT := sv_of (pT f x 1 n)
  have h0Q : n = 0 → pQ f x 1 n = 1 := by intro h; subst h; rfl
  have h0T : n = 0 → pT f x 1 n = 0 := by intro h; subst h; rfl
  refine wpAny_call ?_
  k_dflt (refine' enter0 (binds := [(Str.ofString "series", .ref sx), (Str.ofString "many", .int many tm), (Str.ofString "w", .int wv tw), (Str.ofString "mul", .ref 203)]) ?k1 ?k2 ?k3 ?k5 ?kA ?kF ?kK ?k6 ?k7 ?k8 ?k9 ?kB ?_ ?c2 ?c3 ?c4 ?c5; walk_at "mine enter")
  (k_with "ser" => exact serAt_keep (Fr.keep (by k_asm)) hser)
  (k_with "call ref" => (with_reducible show wpAny _ _ (call (Value.ref 189) _) _ _ _); k_dflt (refine' ct_piece (c_split f hf3 w wv x hw hw2 hx hx2 n 1 (many + 1) sx _ _ _ (by omega) (by omega) (by omega) (by omega)) ?q9B ?q9F ?q9X ?q9T ?q9k ?q9N ?q9p ?q9d ?q9u ?_; (case q9B => k_asm); (case q9F => k_asm); (case q9X => k_asm); (case q9T => k_asm); (case q9k => first | exact rfl | assumption); (case q9N => k_asm); (case q9p => k_extra "ser"); (case q9d => ktr_room); (case q9u => ktr_units)); intro t9 t91 t93 l91 l92 l93 v91 v92 v93 c91 c92 c93 h9 tk9 F9 N9 ne91 ne92 ne93 ne94 ne95 ne96 I91 I92 I93; (try dsimp only); (try k_fold))
  (k_with "num" => fail)
  (k_with "ret" =>
    first
    | exact (row_one hB).symm.trans (by rw [h0Q (by omega), h0T (by omega)]; rfl)
    | exact (row_one hB).symm.trans (by rw [h0Q (by omega)])
    | exact (sv_row (sv_add svQ svT) rfl).trans (by rw [show ((pQ f x 1 n + pT f x 1 n).natAbs : Int) = pQ f x 1 n + pT f x 1 n by omega])
    | exact congrArg _ (by have := bQ.1; omega)
    | fail)
  k_steps

theorem c_frac0 (w : World) (wv x : Int) (hw : 2 ≤ wv) (hw2 : wv ≤ 9) (hx : 2 ≤ x) (hx2 : x ≤ 7) (n : Nat) (hn : n ≤ 4) (many : Int) (hm : many = n) (sx : Addr) (tm tw : Tok) :
    CT w 32 196 [.ref sx, .int many tm, .int wv tw, .ref 203] (fun h => SerAt 0 x h sx) (RetF (2 ^ wv.toNat) (pQ 0 x 1 n + pT 0 x 1 n) (pQ 0 x 1 n)) := c_frac 0 (.inl rfl) w wv x hw hw2 hx hx2 n hn many hm sx tm tw
theorem c_frac1 (w : World) (wv x : Int) (hw : 2 ≤ wv) (hw2 : wv ≤ 9) (hx : 2 ≤ x) (hx2 : x ≤ 7) (n : Nat) (hn : n ≤ 4) (many : Int) (hm : many = n) (sx : Addr) (tm tw : Tok) :
    CT w 32 196 [.ref sx, .int many tm, .int wv tw, .ref 203] (fun h => SerAt 1 x h sx) (RetF (2 ^ wv.toNat) (pQ 1 x 1 n + pT 1 x 1 n) (pQ 1 x 1 n)) := c_frac 1 (.inr (.inl rfl)) w wv x hw hw2 hx hx2 n hn many hm sx tm tw
theorem c_frac2 (w : World) (wv x : Int) (hw : 2 ≤ wv) (hw2 : wv ≤ 9) (hx : 2 ≤ x) (hx2 : x ≤ 7) (n : Nat) (hn : n ≤ 4) (many : Int) (hm : many = n) (sx : Addr) (tm tw : Tok) :
    CT w 32 196 [.ref sx, .int many tm, .int wv tw, .ref 203] (fun h => SerAt 2 x h sx) (RetF (2 ^ wv.toNat) (pQ 2 x 1 n + pT 2 x 1 n) (pQ 2 x 1 n)) := c_frac 2 (.inr (.inr rfl)) w wv x hw hw2 hx hx2 n hn many hm sx tm tw
end
section
theorem c_lsigned (w : World) (z wv : Int) (tn tw : Tok) (hz : Num (z.natAbs : Int)) (hw : 2 ≤ wv) (hw2 : wv ≤ 9) :
    CT w 2 224 [.int z tn, .int wv tw] (fun _ => True) (RetS (2 ^ wv.toNat) (decide (z < 0)) (z.natAbs : Int)) := by
  unfold CT
  w_top off
  k_with_none
  (k_with "m mine enter" => ((case kA => exact rfl); (case kF => exact rfl); (case kK => assumption); (case k1 => k_asm); (case k2 => k_asm); (case k3 => k_asm); (case k5 => k_asm); (case k6 => k_is); (case k7 => k_is); (case k8 => ktr_room); (case k9 => exact BindsTo.of_eq rfl); (case c5 => decide); (case kB => exact locs rfl); (case c2 => exact rfl); (case c3 => exact rfl); (case c4 => exact rfl); k_whole; intro L' h' F' N' B' X' T'; (try dsimp only); (try k_fold)))
  (k_with "m close" => ((rename News _ _ _ _ => nE'); (try simp only [List.push_toArray] at nE'); refine' retL_of ?h_z9 ?F_z9 ?N_z9 ?m_z9 ?i_z9 ?e_z9; (case h_z9 => assumption); (case N_z9 => exact nE'); (case F_z9 => assumption); (case m_z9 => k_mem); (case i_z9 => first | with_reducible assumption | exact IntsAre.cons _ _ IntsAre.nil | k_intsEnd); (case e_z9 => k_extra "ret")))
  (k_with "m close" => (refine' retV_of _ ?h_z9 ?F_z9 ?e_z9; (case h_z9 => assumption); (case F_z9 => assumption); (case e_z9 => first | rfl | k_extra "ret")))
  (k_with "m exec" => ((with_reducible show wpAny _ _ (exec (PySem.Stmt.While _ _ _ _) _) _ _ _); k_extra "mine while"))
  (k_with "m mine num" => first | with_reducible assumption | k_extra "num")
  (k_with "m call ref" => (k_here; (with_reducible show wpAny _ _ (call (Value.ref 67) _) _ _ _); k_dflt (refine' ct_list (r_add ?ia_z9 ?ib_z9 ?x_z9 ?y_z9 ?hw_z9 ?hw2_z9) ?B_z9 ?F_z9 ?X_z9 ?T_z9 ?k_z9 ?N_z9 ?p_z9 ?d_z9 ?u_z9 ?_; (case B_z9 => k_asm); (case F_z9 => k_asm); (case X_z9 => k_asm); (case T_z9 => k_asm); (case k_z9 => first | exact rfl | assumption); (case N_z9 => k_asm); (case p_z9 => exact ⟨by kmk_list, by kmk_list⟩); (case ia_z9 => l_ints); (case ib_z9 => l_ints); (case x_z9 => walk_at "mine num"); (case y_z9 => walk_at "mine num"); (case hw_z9 => assumption); (case hw2_z9 => assumption); (case d_z9 => ktr_room); (case u_z9 => ktr_units)); intro l9 us9 c9 h9 tk9 F9 N9 ne9 I9; (try dsimp only); (try k_fold)))
  (k_with "m call ref" => (k_here; (with_reducible show wpAny _ _ (call (Value.ref 203) _) _ _ _); k_dflt (refine' ct_list (r_mul ?ia_z9 ?ib_z9 ?x_z9 ?y_z9 ?hw_z9 ?hw2_z9) ?B_z9 ?F_z9 ?X_z9 ?T_z9 ?k_z9 ?N_z9 ?p_z9 ?d_z9 ?u_z9 ?_; (case B_z9 => k_asm); (case F_z9 => k_asm); (case X_z9 => k_asm); (case T_z9 => k_asm); (case k_z9 => first | exact rfl | assumption); (case N_z9 => k_asm); (case p_z9 => exact ⟨by kmk_list, by kmk_list⟩); (case ia_z9 => l_ints); (case ib_z9 => l_ints); (case x_z9 => walk_at "mine num"); (case y_z9 => walk_at "mine num"); (case hw_z9 => assumption); (case hw2_z9 => assumption); (case d_z9 => ktr_room); (case u_z9 => ktr_units)); intro l9 us9 c9 h9 tk9 F9 N9 ne9 I9; (try dsimp only); (try k_fold)))
  (k_with "m call ref" => (k_here; (with_reducible show wpAny _ _ (call (Value.ref 74) _) _ _ _); k_dflt (refine' ct_list (r_sub ?ia_z9 ?ib_z9 ?x_z9 ?y_z9 ?hw_z9 ?hw2_z9 ?hle_z9) ?B_z9 ?F_z9 ?X_z9 ?T_z9 ?k_z9 ?N_z9 ?p_z9 ?d_z9 ?u_z9 ?_; (case B_z9 => k_asm); (case F_z9 => k_asm); (case X_z9 => k_asm); (case T_z9 => k_asm); (case k_z9 => first | exact rfl | assumption); (case N_z9 => k_asm); (case p_z9 => exact ⟨by kmk_list, by kmk_list⟩); (case ia_z9 => l_ints); (case ib_z9 => l_ints); (case x_z9 => walk_at "mine num"); (case y_z9 => walk_at "mine num"); (case hw_z9 => assumption); (case hw2_z9 => assumption); (case d_z9 => ktr_room); (case u_z9 => ktr_units); (case hle_z9 => first | assumption | k_extra "le")); intro l9 us9 c9 h9 tk9 F9 N9 ne9 I9; (try dsimp only); (try k_fold)))
  (k_with "m call ref" => (k_here; (with_reducible show wpAny _ _ (call (Value.ref 53) _) _ _ _); k_dflt (refine' ct_list (r_nat ?x_z9 ?hw_z9 ?hw2_z9) ?B_z9 ?F_z9 ?X_z9 ?T_z9 ?k_z9 ?N_z9 ?p_z9 ?d_z9 ?u_z9 ?_; (case B_z9 => k_asm); (case F_z9 => k_asm); (case X_z9 => k_asm); (case T_z9 => k_asm); (case k_z9 => first | exact rfl | assumption); (case N_z9 => k_asm); (case p_z9 => exact True.intro); (case x_z9 => walk_at "mine num"); (case hw_z9 => assumption); (case hw2_z9 => assumption); (case d_z9 => ktr_room); (case u_z9 => ktr_units)); intro l9 us9 c9 h9 tk9 F9 N9 ne9 I9; (try dsimp only); (try k_fold)))
  (k_with "m call ref" => (k_here; (with_reducible show wpAny _ _ (call (Value.ref 60) _) _ _ _); k_dflt (refine' ct_val (r_cmp (wv := ?wv_z9) ?ia_z9 ?ib_z9 ?x_z9 ?y_z9 ?hw_z9) ?B_z9 ?F_z9 ?X_z9 ?T_z9 ?k_z9 ?N_z9 ?p_z9 ?d_z9 ?u_z9 ?_; (case B_z9 => k_asm); (case F_z9 => k_asm); (case X_z9 => k_asm); (case T_z9 => k_asm); (case k_z9 => first | exact rfl | assumption); (case N_z9 => k_asm); (case p_z9 => exact ⟨by kmk_list, by kmk_list⟩); (case ia_z9 => l_ints); (case ib_z9 => l_ints); (case x_z9 => walk_at "mine num"); (case y_z9 => walk_at "mine num"); (case hw_z9 => assumption); (case d_z9 => ktr_room); (case u_z9 => ktr_units)); intro t9 h9 tk9 F9 N9; (try dsimp only); (try k_fold)))
  (k_with "m close" => ((rename News _ _ _ _ => nE'); refine' retS_of ?h_z9 ?F_z9 ?N_z9 ?t_z9 ?m_z9 ?i_z9 ?eb_z9 ?e_z9; (case h_z9 => assumption); (case N_z9 => exact nE'); (case F_z9 => assumption); (case t_z9 => k_mem); (case m_z9 => k_mem); (case i_z9 => l_ints); (case eb_z9 => k_extra "sign"); (case e_z9 => first | rfl | k_extra "ret")))
  (k_with "m subscriptTail" => (k_here; (with_reducible show wpAny _ _ (subscriptTail _ _ (Value.ref _) (Value.int _ _)) _ _ _); k_dflt (refine' item_tupleT (IsTup.keeps (by with_reducible assumption) (Fr.keep (by k_asm))) ?a_z9 ?b_z9 ?c_z9 ?d_z9 ?_; (case a_z9 => decide); (case b_z9 => decide); (case c_z9 => rfl); (case d_z9 => rfl); k_whole)))
  (k_with "m close" => ((rename News _ _ _ _ => nE'); refine' retT_of ?h_z9 ?F_z9 ?N_z9 ?t_z9 ?e_z9; (case h_z9 => assumption); (case N_z9 => exact nE'); (case F_z9 => assumption); (case t_z9 => k_mem); (case e_z9 => first | rfl | k_extra "ret")))
  (k_with "m call ref" => (k_here; (with_reducible show wpAny _ _ (call (Value.ref 81) _) _ _ _); k_dflt (refine' ct_list (c_prod _ _ ?hw_z9 ?hw2_z9 _ _ _ _ _ rfl ?ia_z9 ?cn_z9 ?l20_z9) ?B_z9 ?F_z9 ?X_z9 ?T_z9 ?k_z9 ?N_z9 ?p_z9 ?d_z9 ?u_z9 ?_; (case B_z9 => k_asm); (case F_z9 => k_asm); (case X_z9 => k_asm); (case T_z9 => k_asm); (case k_z9 => first | exact rfl | assumption); (case N_z9 => k_asm); (case p_z9 => kmk_list); (case ia_z9 => first | exact (IntsAre.cons _ _ (IntsAre.cons _ _ (IntsAre.cons _ _ IntsAre.nil))) | exact (IntsAre.cons _ _ (IntsAre.cons _ _ (IntsAre.cons _ _ (IntsAre.cons _ _ (IntsAre.cons _ _ (IntsAre.cons _ _ (IntsAre.cons _ _ (IntsAre.cons _ _ (IntsAre.cons _ _ (IntsAre.cons _ _ (IntsAre.cons _ _ (IntsAre.cons _ _ (IntsAre.cons _ _ (IntsAre.cons _ _ IntsAre.nil)))))))))))))) | exact IntsAre.append (IntsAre.cons _ _ (IntsAre.cons _ _ (IntsAre.cons _ _ IntsAre.nil))) (by l_ints)  | exact IntsAre.append (IntsAre.cons _ _ (IntsAre.cons _ _ (IntsAre.cons _ _ IntsAre.nil))) (IntsAre.cons _ _ (IntsAre.cons _ _ (IntsAre.cons _ _ (IntsAre.cons _ _ (IntsAre.cons _ _ (IntsAre.cons _ _ (IntsAre.cons _ _ (IntsAre.cons _ _ (IntsAre.cons _ _ (IntsAre.cons _ _ (IntsAre.cons _ _ IntsAre.nil))))))))))) | fail); (case hw_z9 => assumption); (case hw2_z9 => assumption); (case cn_z9 => k_extra "cnt"); (case l20_z9 => exact Nat.le_of_ble_eq_true rfl); (case d_z9 => ((simp only [List.length_cons, List.length_nil]); ktr_room)); (case u_z9 => ((simp only [List.length_cons, List.length_nil]); ktr_units))); intro l9 us9 c9 h9 tk9 F9 N9 ne9 I9; (try dsimp only); (try k_fold)))
  (k_with "m call ref" => (k_here; (with_reducible show wpAny _ _ (call (Value.ref 112) _) _ _ _); k_dflt (first | refine' ct_list (c_of_groups103 _ _ _ ?hw_z9 ?hw2_z9) ?B_z9 ?F_z9 ?X_z9 ?T_z9 ?k_z9 ?N_z9 ?p_z9 ?d_z9 ?u_z9 ?_ | refine' ct_list (c_of_groups104 _ _ _ ?hw_z9 ?hw2_z9) ?B_z9 ?F_z9 ?X_z9 ?T_z9 ?k_z9 ?N_z9 ?p_z9 ?d_z9 ?u_z9 ?_); (case B_z9 => k_asm); (case F_z9 => k_asm); (case X_z9 => k_asm); (case T_z9 => k_asm); (case k_z9 => first | exact rfl | assumption); (case N_z9 => k_asm); (case p_z9 => exact True.intro); (case hw_z9 => assumption); (case hw2_z9 => assumption); (case d_z9 => ktr_room); (case u_z9 => ktr_units); intro l9 us9 c9 h9 tk9 F9 N9 ne9 I9; (try dsimp only); (try k_fold)))
  (k_with "m getAttr ref" => (k_here; k_dflt (refine' get_own ?k1_z9 ?k2_z9 (inst_base (Fr.keep (by k_asm)) (by with_reducible assumption) (by with_reducible assumption)) ?k4_z9 ?k5_z9 ?k6_z9 ?k7_z9 ?k8_z9 ?k9_z9 ?_; (case k1_z9 => k_asm); (case k2_z9 => k_asm); (case k4_z9 => k_is); (case k5_z9 => k_is); (case k6_z9 => k_is); (case k7_z9 => k_is); (case k8_z9 => k_get); (case k9_z9 => k_handed); k_whole)))
  (k_with "m close" => ((rename News _ _ _ _ => nE'); (try simp only [List.push_toArray] at nE'); refine' retA_of ?h_z9 ?F_z9 ?N_z9 ?t_z9 ?ma_z9 ?mb_z9 ?mf_z9 ?ia_z9 ?ib_z9 ?ig_z9 ?ea_z9 ?eb_z9 ?ef_z9; (case h_z9 => assumption); (case N_z9 => exact nE'); (case F_z9 => assumption); (case t_z9 => k_mem); (case ma_z9 => k_mem); (case mb_z9 => k_mem); (case mf_z9 => k_mem); (case ia_z9 => first | with_reducible assumption | exact IntsAre.cons _ _ IntsAre.nil); (case ib_z9 => first | with_reducible assumption | exact IntsAre.cons _ _ IntsAre.nil); (case ig_z9 => first | with_reducible assumption | exact IntsAre.cons _ _ IntsAre.nil); (case ea_z9 => k_extra "ret"); (case eb_z9 => k_extra "ret"); (case ef_z9 => k_extra "ret")))
  (k_with "m call ref" => (k_here; (with_reducible show wpAny _ _ (call (Value.ref 88) _) _ _ _); k_dflt (refine' ct_tup (r_signed (wv := ?wv_z9) ?ia_z9 ?x_z9 ?hw_z9) ?B_z9 ?F_z9 ?X_z9 ?T_z9 ?k_z9 ?N_z9 ?p_z9 ?d_z9 ?u_z9 ?_; (case B_z9 => k_asm); (case F_z9 => k_asm); (case X_z9 => k_asm); (case T_z9 => k_asm); (case k_z9 => first | exact rfl | assumption); (case N_z9 => k_asm); (case p_z9 => kmk_list); (case ia_z9 => l_ints); (case x_z9 => walk_at "mine num"); (case hw_z9 => assumption); (case d_z9 => ktr_room); (case u_z9 => ktr_units)); intro t9 h9 tk9 F9 N9 ne9; (try dsimp only); (try k_fold)))
  (k_with "m call ref" => (k_here; (with_reducible show wpAny _ _ (call (Value.ref 102) _) _ _ _); k_dflt (refine' ct_sgn (c_smul _ _ _ _ _ _ _ _ _ ?x_z9 ?y_z9 ?xy_z9 ?hw_z9 ?hw2_z9) ?B_z9 ?F_z9 ?X_z9 ?T_z9 ?k_z9 ?N_z9 ?p_z9 ?d_z9 ?u_z9 ?_; (case B_z9 => k_asm); (case F_z9 => k_asm); (case X_z9 => k_asm); (case T_z9 => k_asm); (case k_z9 => first | exact rfl | assumption); (case N_z9 => k_asm); (case p_z9 => exact ⟨⟨_, _, _, News.get (by k_asm) (by k_mem), News.get (by k_asm) (by k_mem), by l_ints⟩, ⟨_, _, _, News.get (by k_asm) (by k_mem), News.get (by k_asm) (by k_mem), by l_ints⟩⟩); (case x_z9 => walk_at "mine num"); (case y_z9 => walk_at "mine num"); (case xy_z9 => walk_at "mine num"); (case hw_z9 => assumption); (case hw2_z9 => assumption); (case d_z9 => ktr_room); (case u_z9 => ktr_units)); intro t9 l9 us9 c9 h9 tk9 F9 N9 ne9 ne9' I9; (try dsimp only); (try k_fold)))
  (k_with "m call ref" => (k_here; (with_reducible show wpAny _ _ (call (Value.ref 95) _) _ _ _); k_dflt (refine' ct_sgn (c_sadd _ _ _ _ _ _ _ _ _ ?x_z9 ?y_z9 ?xy_z9 ?hw_z9 ?hw2_z9) ?B_z9 ?F_z9 ?X_z9 ?T_z9 ?k_z9 ?N_z9 ?p_z9 ?d_z9 ?u_z9 ?_; (case B_z9 => k_asm); (case F_z9 => k_asm); (case X_z9 => k_asm); (case T_z9 => k_asm); (case k_z9 => first | exact rfl | assumption); (case N_z9 => k_asm); (case p_z9 => exact ⟨⟨_, _, _, News.get (by k_asm) (by k_mem), News.get (by k_asm) (by k_mem), by l_ints⟩, ⟨_, _, _, News.get (by k_asm) (by k_mem), News.get (by k_asm) (by k_mem), by l_ints⟩⟩); (case x_z9 => walk_at "mine num"); (case y_z9 => walk_at "mine num"); (case xy_z9 => walk_at "mine num"); (case hw_z9 => assumption); (case hw2_z9 => assumption); (case d_z9 => ktr_room); (case u_z9 => ktr_units)); intro t9 l9 us9 c9 h9 tk9 F9 N9 ne9 ne9' I9; (try dsimp only); (try k_fold)))
  (k_with "m call ref" => (k_here; k_dflt (first | (with_reducible show wpAny _ _ (call (Value.ref 126) _) _ _ _); refine' ct_at (c_at0 _ _ _ 0 _ _ _ ?hw_z9 ?hw2_z9 ?k1_z9 ?k2_z9) ?B_z9 ?F_z9 ?X_z9 ?T_z9 ?k_z9 ?N_z9 ?p_z9 ?d_z9 ?u_z9 ?_ | (with_reducible show wpAny _ _ (call (Value.ref 175) _) _ _ _); refine' ct_at (c_at2 _ _ _ 0 _ _ _ ?hw_z9 ?hw2_z9 ?k1_z9 ?k2_z9) ?B_z9 ?F_z9 ?X_z9 ?T_z9 ?k_z9 ?N_z9 ?p_z9 ?d_z9 ?u_z9 ?_); (case B_z9 => k_asm); (case F_z9 => k_asm); (case X_z9 => k_asm); (case T_z9 => k_asm); (case k_z9 => first | exact rfl | assumption); (case N_z9 => k_asm); (case p_z9 => k_extra "ser"); (case k1_z9 => omega); (case k2_z9 => omega); (case hw_z9 => assumption); (case hw2_z9 => assumption); (case d_z9 => ktr_room); (case u_z9 => ktr_units); intro t9 la9 lb9 lf9 va9 vb9 vf9 ca9 cb9 cf9 h9 tk9 F9 N9 Ia9 Ib9 If9; (try dsimp only); (try k_fold)))
  (k_with "m call ref" => (k_here; (with_reducible show wpAny _ _ (call (Value.ref 154) _) _ _ _); k_dflt (refine' ct_at (c_at1' ?x1_z9 ?hw_z9 ?hw2_z9 ?k1_z9 ?k2_z9) ?B_z9 ?F_z9 ?X_z9 ?T_z9 ?k_z9 ?N_z9 ?p_z9 ?d_z9 ?u_z9 ?_; (case B_z9 => k_asm); (case F_z9 => k_asm); (case X_z9 => k_asm); (case T_z9 => k_asm); (case k_z9 => first | exact rfl | assumption); (case N_z9 => k_asm); (case x1_z9 => with_reducible assumption); (case p_z9 => k_extra "ser"); (case k1_z9 => omega); (case k2_z9 => omega); (case hw_z9 => assumption); (case hw2_z9 => assumption); (case d_z9 => ktr_room); (case u_z9 => ktr_units)); intro t9 la9 lb9 lf9 va9 vb9 vf9 ca9 cb9 cf9 h9 tk9 F9 N9 Ia9 Ib9 If9; (try dsimp only); (try k_fold)))
  (k_with "m getMethod ref" => (k_here; k_dflt (refine' method_inst ?k1_z9 ?k2_z9 (inst_base (Fr.keep (by k_asm)) (by with_reducible assumption) (by with_reducible assumption)) ?k4_z9 ?k5_z9 ?k6_z9 ?k7_z9 ?_; (case k1_z9 => k_asm); (case k2_z9 => k_asm); (case k4_z9 => k_is); (case k5_z9 => k_is); (case k6_z9 => k_is); (case k7_z9 => k_get); k_whole)))
  (k_with "m close" => ((rename News _ _ _ _ => nE'); (try simp only [List.push_toArray] at nE'); refine' retP_of ?h_z9 ?F_z9 ?N_z9 ?t_z9 ?t1_z9 ?t3_z9 ?h1_z9 ?h2_z9 ?h3_z9 ?i1_z9 ?i2_z9 ?i3_z9 ?e1_z9 ?e3_z9 ?q1_z9 ?q2_z9 ?q3_z9; (case h_z9 => assumption); (case N_z9 => exact nE'); (case F_z9 => assumption); (case t_z9 => k_mem); (case t1_z9 => k_mem); (case t3_z9 => k_mem); (case h1_z9 => k_mem); (case h2_z9 => k_mem); (case h3_z9 => k_mem); (case i1_z9 => first | with_reducible assumption | exact IntsAre.cons _ _ IntsAre.nil | exact IntsAre.nil); (case i2_z9 => first | with_reducible assumption | exact IntsAre.cons _ _ IntsAre.nil | exact IntsAre.nil); (case i3_z9 => first | with_reducible assumption | exact IntsAre.cons _ _ IntsAre.nil | exact IntsAre.nil); (case e1_z9 => k_extra "sign"); (case e3_z9 => k_extra "sign"); (case q1_z9 => k_extra "ret"); (case q2_z9 => k_extra "ret"); (case q3_z9 => k_extra "ret")))
  (k_with "m close" => ((rename News _ _ _ _ => nE'); refine' retF_of ?h_z9 ?F_z9 ?N_z9 ?t_z9 ?h1_z9 ?h2_z9 ?i1_z9 ?i2_z9 ?q1_z9 ?q2_z9; (case h_z9 => assumption); (case N_z9 => exact nE'); (case F_z9 => assumption); (case t_z9 => k_mem); (case h1_z9 => k_mem); (case h2_z9 => k_mem); (case i1_z9 => first | with_reducible assumption | exact IntsAre.cons _ _ IntsAre.nil | exact IntsAre.nil); (case i2_z9 => first | with_reducible assumption | exact IntsAre.cons _ _ IntsAre.nil | exact IntsAre.nil); (case q1_z9 => k_extra "ret"); (case q2_z9 => k_extra "ret")))
  (k_with "m close" => ((rename News _ _ _ _ => nE'); refine' retI_of ?h_z9 ?F_z9 ?N_z9 ?t_z9 ?q1_z9 ?q2_z9 ?q3_z9; (case h_z9 => assumption); (case N_z9 => exact nE'); (case F_z9 => assumption); (case t_z9 => k_mem); (case q1_z9 => k_extra "ret"); (case q2_z9 => k_extra "ret"); (case q3_z9 => k_extra "ret")))
  (k_with "m call ref" => (k_here; (with_reducible show wpAny _ _ (call (Value.ref 217) _) _ _ _); k_dflt (refine' ct_list (r_lrow ?x_z9 ?hw_z9 ?hw2_z9) ?B_z9 ?F_z9 ?X_z9 ?T_z9 ?k_z9 ?N_z9 ?p_z9 ?d_z9 ?u_z9 ?_; (case B_z9 => k_asm); (case F_z9 => k_asm); (case X_z9 => k_asm); (case T_z9 => k_asm); (case k_z9 => first | exact rfl | assumption); (case N_z9 => k_asm); (case p_z9 => exact True.intro); (case x_z9 => walk_at "mine num"); (case hw_z9 => assumption); (case hw2_z9 => assumption); (case d_z9 => ktr_room); (case u_z9 => ktr_units)); intro l9 us9 c9 h9 tk9 F9 N9 ne9 I9; (try dsimp only); (try k_fold)))
  k_fill
  intro pp lo mean mg mb dp un gd cn cs a ccd cl outer A₀ base h₀ L m s Q E B F X T hk hP hd hu hret
  have hB := two_le (w := wv) (by omega)
  have eabs : (if z < 0 then -z else z) = (z.natAbs : Int) := by split <;> omega
  have nabs : Num (if z < 0 then -z else z) := by rw [eabs]; exact hz
  refine wpAny_call ?_
  k_dflt (refine' enter0 (binds := [(Str.ofString "number", .int z tn), (Str.ofString "w", .int wv tw)]) ?k1 ?k2 ?k3 ?k5 ?kA ?kF ?kK ?k6 ?k7 ?k8 ?k9 ?kB ?_ ?c2 ?c3 ?c4 ?c5; walk_at "mine enter")
  (k_with "num" => fail)
  (k_with "sign" => first | rfl | fail)
  (k_with "ret" => first | exact congrArg _ eabs | fail)
  k_steps

end
section
theorem c_term0 (w : World) (x k : Int) (tf tx tk₀ : Tok) (hx : 2 ≤ x) (hx2 : x ≤ 7) (hk1 : 1 ≤ k) (hk2 : k ≤ 20) :
    CT w 1 231 [.int 0 tf, .int x tx, .int k tk₀] (fun _ => True) (RetI (tP 0 x k) (tQ 0 x k) (tA 0 x k)) := by
  unfold CT
  w_top off
  k_with_none
  (k_with "m mine enter" => ((case kA => exact rfl); (case kF => exact rfl); (case kK => assumption); (case k1 => k_asm); (case k2 => k_asm); (case k3 => k_asm); (case k5 => k_asm); (case k6 => k_is); (case k7 => k_is); (case k8 => ktr_room); (case k9 => exact BindsTo.of_eq rfl); (case c5 => decide); (case kB => exact locs rfl); (case c2 => exact rfl); (case c3 => exact rfl); (case c4 => exact rfl); k_whole; intro L' h' F' N' B' X' T'; (try dsimp only); (try k_fold)))
  (k_with "m close" => ((rename News _ _ _ _ => nE'); (try simp only [List.push_toArray] at nE'); refine' retL_of ?h_z9 ?F_z9 ?N_z9 ?m_z9 ?i_z9 ?e_z9; (case h_z9 => assumption); (case N_z9 => exact nE'); (case F_z9 => assumption); (case m_z9 => k_mem); (case i_z9 => first | with_reducible assumption | exact IntsAre.cons _ _ IntsAre.nil | k_intsEnd); (case e_z9 => k_extra "ret")))
  (k_with "m close" => (refine' retV_of _ ?h_z9 ?F_z9 ?e_z9; (case h_z9 => assumption); (case F_z9 => assumption); (case e_z9 => first | rfl | k_extra "ret")))
  (k_with "m exec" => ((with_reducible show wpAny _ _ (exec (PySem.Stmt.While _ _ _ _) _) _ _ _); k_extra "mine while"))
  (k_with "m mine num" => first | with_reducible assumption | k_extra "num")
  (k_with "m call ref" => (k_here; (with_reducible show wpAny _ _ (call (Value.ref 67) _) _ _ _); k_dflt (refine' ct_list (r_add ?ia_z9 ?ib_z9 ?x_z9 ?y_z9 ?hw_z9 ?hw2_z9) ?B_z9 ?F_z9 ?X_z9 ?T_z9 ?k_z9 ?N_z9 ?p_z9 ?d_z9 ?u_z9 ?_; (case B_z9 => k_asm); (case F_z9 => k_asm); (case X_z9 => k_asm); (case T_z9 => k_asm); (case k_z9 => first | exact rfl | assumption); (case N_z9 => k_asm); (case p_z9 => exact ⟨by kmk_list, by kmk_list⟩); (case ia_z9 => l_ints); (case ib_z9 => l_ints); (case x_z9 => walk_at "mine num"); (case y_z9 => walk_at "mine num"); (case hw_z9 => assumption); (case hw2_z9 => assumption); (case d_z9 => ktr_room); (case u_z9 => ktr_units)); intro l9 us9 c9 h9 tk9 F9 N9 ne9 I9; (try dsimp only); (try k_fold)))
  (k_with "m call ref" => (k_here; (with_reducible show wpAny _ _ (call (Value.ref 203) _) _ _ _); k_dflt (refine' ct_list (r_mul ?ia_z9 ?ib_z9 ?x_z9 ?y_z9 ?hw_z9 ?hw2_z9) ?B_z9 ?F_z9 ?X_z9 ?T_z9 ?k_z9 ?N_z9 ?p_z9 ?d_z9 ?u_z9 ?_; (case B_z9 => k_asm); (case F_z9 => k_asm); (case X_z9 => k_asm); (case T_z9 => k_asm); (case k_z9 => first | exact rfl | assumption); (case N_z9 => k_asm); (case p_z9 => exact ⟨by kmk_list, by kmk_list⟩); (case ia_z9 => l_ints); (case ib_z9 => l_ints); (case x_z9 => walk_at "mine num"); (case y_z9 => walk_at "mine num"); (case hw_z9 => assumption); (case hw2_z9 => assumption); (case d_z9 => ktr_room); (case u_z9 => ktr_units)); intro l9 us9 c9 h9 tk9 F9 N9 ne9 I9; (try dsimp only); (try k_fold)))
  (k_with "m call ref" => (k_here; (with_reducible show wpAny _ _ (call (Value.ref 74) _) _ _ _); k_dflt (refine' ct_list (r_sub ?ia_z9 ?ib_z9 ?x_z9 ?y_z9 ?hw_z9 ?hw2_z9 ?hle_z9) ?B_z9 ?F_z9 ?X_z9 ?T_z9 ?k_z9 ?N_z9 ?p_z9 ?d_z9 ?u_z9 ?_; (case B_z9 => k_asm); (case F_z9 => k_asm); (case X_z9 => k_asm); (case T_z9 => k_asm); (case k_z9 => first | exact rfl | assumption); (case N_z9 => k_asm); (case p_z9 => exact ⟨by kmk_list, by kmk_list⟩); (case ia_z9 => l_ints); (case ib_z9 => l_ints); (case x_z9 => walk_at "mine num"); (case y_z9 => walk_at "mine num"); (case hw_z9 => assumption); (case hw2_z9 => assumption); (case d_z9 => ktr_room); (case u_z9 => ktr_units); (case hle_z9 => first | assumption | k_extra "le")); intro l9 us9 c9 h9 tk9 F9 N9 ne9 I9; (try dsimp only); (try k_fold)))
  (k_with "m call ref" => (k_here; (with_reducible show wpAny _ _ (call (Value.ref 53) _) _ _ _); k_dflt (refine' ct_list (r_nat ?x_z9 ?hw_z9 ?hw2_z9) ?B_z9 ?F_z9 ?X_z9 ?T_z9 ?k_z9 ?N_z9 ?p_z9 ?d_z9 ?u_z9 ?_; (case B_z9 => k_asm); (case F_z9 => k_asm); (case X_z9 => k_asm); (case T_z9 => k_asm); (case k_z9 => first | exact rfl | assumption); (case N_z9 => k_asm); (case p_z9 => exact True.intro); (case x_z9 => walk_at "mine num"); (case hw_z9 => assumption); (case hw2_z9 => assumption); (case d_z9 => ktr_room); (case u_z9 => ktr_units)); intro l9 us9 c9 h9 tk9 F9 N9 ne9 I9; (try dsimp only); (try k_fold)))
  (k_with "m call ref" => (k_here; (with_reducible show wpAny _ _ (call (Value.ref 60) _) _ _ _); k_dflt (refine' ct_val (r_cmp (wv := ?wv_z9) ?ia_z9 ?ib_z9 ?x_z9 ?y_z9 ?hw_z9) ?B_z9 ?F_z9 ?X_z9 ?T_z9 ?k_z9 ?N_z9 ?p_z9 ?d_z9 ?u_z9 ?_; (case B_z9 => k_asm); (case F_z9 => k_asm); (case X_z9 => k_asm); (case T_z9 => k_asm); (case k_z9 => first | exact rfl | assumption); (case N_z9 => k_asm); (case p_z9 => exact ⟨by kmk_list, by kmk_list⟩); (case ia_z9 => l_ints); (case ib_z9 => l_ints); (case x_z9 => walk_at "mine num"); (case y_z9 => walk_at "mine num"); (case hw_z9 => assumption); (case d_z9 => ktr_room); (case u_z9 => ktr_units)); intro t9 h9 tk9 F9 N9; (try dsimp only); (try k_fold)))
  (k_with "m close" => ((rename News _ _ _ _ => nE'); refine' retS_of ?h_z9 ?F_z9 ?N_z9 ?t_z9 ?m_z9 ?i_z9 ?eb_z9 ?e_z9; (case h_z9 => assumption); (case N_z9 => exact nE'); (case F_z9 => assumption); (case t_z9 => k_mem); (case m_z9 => k_mem); (case i_z9 => l_ints); (case eb_z9 => k_extra "sign"); (case e_z9 => first | rfl | k_extra "ret")))
  (k_with "m subscriptTail" => (k_here; (with_reducible show wpAny _ _ (subscriptTail _ _ (Value.ref _) (Value.int _ _)) _ _ _); k_dflt (refine' item_tupleT (IsTup.keeps (by with_reducible assumption) (Fr.keep (by k_asm))) ?a_z9 ?b_z9 ?c_z9 ?d_z9 ?_; (case a_z9 => decide); (case b_z9 => decide); (case c_z9 => rfl); (case d_z9 => rfl); k_whole)))
  (k_with "m close" => ((rename News _ _ _ _ => nE'); refine' retT_of ?h_z9 ?F_z9 ?N_z9 ?t_z9 ?e_z9; (case h_z9 => assumption); (case N_z9 => exact nE'); (case F_z9 => assumption); (case t_z9 => k_mem); (case e_z9 => first | rfl | k_extra "ret")))
  (k_with "m call ref" => (k_here; (with_reducible show wpAny _ _ (call (Value.ref 81) _) _ _ _); k_dflt (refine' ct_list (c_prod _ _ ?hw_z9 ?hw2_z9 _ _ _ _ _ rfl ?ia_z9 ?cn_z9 ?l20_z9) ?B_z9 ?F_z9 ?X_z9 ?T_z9 ?k_z9 ?N_z9 ?p_z9 ?d_z9 ?u_z9 ?_; (case B_z9 => k_asm); (case F_z9 => k_asm); (case X_z9 => k_asm); (case T_z9 => k_asm); (case k_z9 => first | exact rfl | assumption); (case N_z9 => k_asm); (case p_z9 => kmk_list); (case ia_z9 => first | exact (IntsAre.cons _ _ (IntsAre.cons _ _ (IntsAre.cons _ _ IntsAre.nil))) | exact (IntsAre.cons _ _ (IntsAre.cons _ _ (IntsAre.cons _ _ (IntsAre.cons _ _ (IntsAre.cons _ _ (IntsAre.cons _ _ (IntsAre.cons _ _ (IntsAre.cons _ _ (IntsAre.cons _ _ (IntsAre.cons _ _ (IntsAre.cons _ _ (IntsAre.cons _ _ (IntsAre.cons _ _ (IntsAre.cons _ _ IntsAre.nil)))))))))))))) | exact IntsAre.append (IntsAre.cons _ _ (IntsAre.cons _ _ (IntsAre.cons _ _ IntsAre.nil))) (by l_ints)  | exact IntsAre.append (IntsAre.cons _ _ (IntsAre.cons _ _ (IntsAre.cons _ _ IntsAre.nil))) (IntsAre.cons _ _ (IntsAre.cons _ _ (IntsAre.cons _ _ (IntsAre.cons _ _ (IntsAre.cons _ _ (IntsAre.cons _ _ (IntsAre.cons _ _ (IntsAre.cons _ _ (IntsAre.cons _ _ (IntsAre.cons _ _ (IntsAre.cons _ _ IntsAre.nil))))))))))) | fail); (case hw_z9 => assumption); (case hw2_z9 => assumption); (case cn_z9 => k_extra "cnt"); (case l20_z9 => exact Nat.le_of_ble_eq_true rfl); (case d_z9 => ((simp only [List.length_cons, List.length_nil]); ktr_room)); (case u_z9 => ((simp only [List.length_cons, List.length_nil]); ktr_units))); intro l9 us9 c9 h9 tk9 F9 N9 ne9 I9; (try dsimp only); (try k_fold)))
  (k_with "m call ref" => (k_here; (with_reducible show wpAny _ _ (call (Value.ref 112) _) _ _ _); k_dflt (first | refine' ct_list (c_of_groups103 _ _ _ ?hw_z9 ?hw2_z9) ?B_z9 ?F_z9 ?X_z9 ?T_z9 ?k_z9 ?N_z9 ?p_z9 ?d_z9 ?u_z9 ?_ | refine' ct_list (c_of_groups104 _ _ _ ?hw_z9 ?hw2_z9) ?B_z9 ?F_z9 ?X_z9 ?T_z9 ?k_z9 ?N_z9 ?p_z9 ?d_z9 ?u_z9 ?_); (case B_z9 => k_asm); (case F_z9 => k_asm); (case X_z9 => k_asm); (case T_z9 => k_asm); (case k_z9 => first | exact rfl | assumption); (case N_z9 => k_asm); (case p_z9 => exact True.intro); (case hw_z9 => assumption); (case hw2_z9 => assumption); (case d_z9 => ktr_room); (case u_z9 => ktr_units); intro l9 us9 c9 h9 tk9 F9 N9 ne9 I9; (try dsimp only); (try k_fold)))
  (k_with "m getAttr ref" => (k_here; k_dflt (refine' get_own ?k1_z9 ?k2_z9 (inst_base (Fr.keep (by k_asm)) (by with_reducible assumption) (by with_reducible assumption)) ?k4_z9 ?k5_z9 ?k6_z9 ?k7_z9 ?k8_z9 ?k9_z9 ?_; (case k1_z9 => k_asm); (case k2_z9 => k_asm); (case k4_z9 => k_is); (case k5_z9 => k_is); (case k6_z9 => k_is); (case k7_z9 => k_is); (case k8_z9 => k_get); (case k9_z9 => k_handed); k_whole)))
  (k_with "m close" => ((rename News _ _ _ _ => nE'); (try simp only [List.push_toArray] at nE'); refine' retA_of ?h_z9 ?F_z9 ?N_z9 ?t_z9 ?ma_z9 ?mb_z9 ?mf_z9 ?ia_z9 ?ib_z9 ?ig_z9 ?ea_z9 ?eb_z9 ?ef_z9; (case h_z9 => assumption); (case N_z9 => exact nE'); (case F_z9 => assumption); (case t_z9 => k_mem); (case ma_z9 => k_mem); (case mb_z9 => k_mem); (case mf_z9 => k_mem); (case ia_z9 => first | with_reducible assumption | exact IntsAre.cons _ _ IntsAre.nil); (case ib_z9 => first | with_reducible assumption | exact IntsAre.cons _ _ IntsAre.nil); (case ig_z9 => first | with_reducible assumption | exact IntsAre.cons _ _ IntsAre.nil); (case ea_z9 => k_extra "ret"); (case eb_z9 => k_extra "ret"); (case ef_z9 => k_extra "ret")))
  (k_with "m call ref" => (k_here; (with_reducible show wpAny _ _ (call (Value.ref 88) _) _ _ _); k_dflt (refine' ct_tup (r_signed (wv := ?wv_z9) ?ia_z9 ?x_z9 ?hw_z9) ?B_z9 ?F_z9 ?X_z9 ?T_z9 ?k_z9 ?N_z9 ?p_z9 ?d_z9 ?u_z9 ?_; (case B_z9 => k_asm); (case F_z9 => k_asm); (case X_z9 => k_asm); (case T_z9 => k_asm); (case k_z9 => first | exact rfl | assumption); (case N_z9 => k_asm); (case p_z9 => kmk_list); (case ia_z9 => l_ints); (case x_z9 => walk_at "mine num"); (case hw_z9 => assumption); (case d_z9 => ktr_room); (case u_z9 => ktr_units)); intro t9 h9 tk9 F9 N9 ne9; (try dsimp only); (try k_fold)))
  (k_with "m call ref" => (k_here; (with_reducible show wpAny _ _ (call (Value.ref 102) _) _ _ _); k_dflt (refine' ct_sgn (c_smul _ _ _ _ _ _ _ _ _ ?x_z9 ?y_z9 ?xy_z9 ?hw_z9 ?hw2_z9) ?B_z9 ?F_z9 ?X_z9 ?T_z9 ?k_z9 ?N_z9 ?p_z9 ?d_z9 ?u_z9 ?_; (case B_z9 => k_asm); (case F_z9 => k_asm); (case X_z9 => k_asm); (case T_z9 => k_asm); (case k_z9 => first | exact rfl | assumption); (case N_z9 => k_asm); (case p_z9 => exact ⟨⟨_, _, _, News.get (by k_asm) (by k_mem), News.get (by k_asm) (by k_mem), by l_ints⟩, ⟨_, _, _, News.get (by k_asm) (by k_mem), News.get (by k_asm) (by k_mem), by l_ints⟩⟩); (case x_z9 => walk_at "mine num"); (case y_z9 => walk_at "mine num"); (case xy_z9 => walk_at "mine num"); (case hw_z9 => assumption); (case hw2_z9 => assumption); (case d_z9 => ktr_room); (case u_z9 => ktr_units)); intro t9 l9 us9 c9 h9 tk9 F9 N9 ne9 ne9' I9; (try dsimp only); (try k_fold)))
  (k_with "m call ref" => (k_here; (with_reducible show wpAny _ _ (call (Value.ref 95) _) _ _ _); k_dflt (refine' ct_sgn (c_sadd _ _ _ _ _ _ _ _ _ ?x_z9 ?y_z9 ?xy_z9 ?hw_z9 ?hw2_z9) ?B_z9 ?F_z9 ?X_z9 ?T_z9 ?k_z9 ?N_z9 ?p_z9 ?d_z9 ?u_z9 ?_; (case B_z9 => k_asm); (case F_z9 => k_asm); (case X_z9 => k_asm); (case T_z9 => k_asm); (case k_z9 => first | exact rfl | assumption); (case N_z9 => k_asm); (case p_z9 => exact ⟨⟨_, _, _, News.get (by k_asm) (by k_mem), News.get (by k_asm) (by k_mem), by l_ints⟩, ⟨_, _, _, News.get (by k_asm) (by k_mem), News.get (by k_asm) (by k_mem), by l_ints⟩⟩); (case x_z9 => walk_at "mine num"); (case y_z9 => walk_at "mine num"); (case xy_z9 => walk_at "mine num"); (case hw_z9 => assumption); (case hw2_z9 => assumption); (case d_z9 => ktr_room); (case u_z9 => ktr_units)); intro t9 l9 us9 c9 h9 tk9 F9 N9 ne9 ne9' I9; (try dsimp only); (try k_fold)))
  (k_with "m call ref" => (k_here; k_dflt (first | (with_reducible show wpAny _ _ (call (Value.ref 126) _) _ _ _); refine' ct_at (c_at0 _ _ _ 0 _ _ _ ?hw_z9 ?hw2_z9 ?k1_z9 ?k2_z9) ?B_z9 ?F_z9 ?X_z9 ?T_z9 ?k_z9 ?N_z9 ?p_z9 ?d_z9 ?u_z9 ?_ | (with_reducible show wpAny _ _ (call (Value.ref 175) _) _ _ _); refine' ct_at (c_at2 _ _ _ 0 _ _ _ ?hw_z9 ?hw2_z9 ?k1_z9 ?k2_z9) ?B_z9 ?F_z9 ?X_z9 ?T_z9 ?k_z9 ?N_z9 ?p_z9 ?d_z9 ?u_z9 ?_); (case B_z9 => k_asm); (case F_z9 => k_asm); (case X_z9 => k_asm); (case T_z9 => k_asm); (case k_z9 => first | exact rfl | assumption); (case N_z9 => k_asm); (case p_z9 => k_extra "ser"); (case k1_z9 => omega); (case k2_z9 => omega); (case hw_z9 => assumption); (case hw2_z9 => assumption); (case d_z9 => ktr_room); (case u_z9 => ktr_units); intro t9 la9 lb9 lf9 va9 vb9 vf9 ca9 cb9 cf9 h9 tk9 F9 N9 Ia9 Ib9 If9; (try dsimp only); (try k_fold)))
  (k_with "m call ref" => (k_here; (with_reducible show wpAny _ _ (call (Value.ref 154) _) _ _ _); k_dflt (refine' ct_at (c_at1' ?x1_z9 ?hw_z9 ?hw2_z9 ?k1_z9 ?k2_z9) ?B_z9 ?F_z9 ?X_z9 ?T_z9 ?k_z9 ?N_z9 ?p_z9 ?d_z9 ?u_z9 ?_; (case B_z9 => k_asm); (case F_z9 => k_asm); (case X_z9 => k_asm); (case T_z9 => k_asm); (case k_z9 => first | exact rfl | assumption); (case N_z9 => k_asm); (case x1_z9 => with_reducible assumption); (case p_z9 => k_extra "ser"); (case k1_z9 => omega); (case k2_z9 => omega); (case hw_z9 => assumption); (case hw2_z9 => assumption); (case d_z9 => ktr_room); (case u_z9 => ktr_units)); intro t9 la9 lb9 lf9 va9 vb9 vf9 ca9 cb9 cf9 h9 tk9 F9 N9 Ia9 Ib9 If9; (try dsimp only); (try k_fold)))
  (k_with "m getMethod ref" => (k_here; k_dflt (refine' method_inst ?k1_z9 ?k2_z9 (inst_base (Fr.keep (by k_asm)) (by with_reducible assumption) (by with_reducible assumption)) ?k4_z9 ?k5_z9 ?k6_z9 ?k7_z9 ?_; (case k1_z9 => k_asm); (case k2_z9 => k_asm); (case k4_z9 => k_is); (case k5_z9 => k_is); (case k6_z9 => k_is); (case k7_z9 => k_get); k_whole)))
  (k_with "m close" => ((rename News _ _ _ _ => nE'); (try simp only [List.push_toArray] at nE'); refine' retP_of ?h_z9 ?F_z9 ?N_z9 ?t_z9 ?t1_z9 ?t3_z9 ?h1_z9 ?h2_z9 ?h3_z9 ?i1_z9 ?i2_z9 ?i3_z9 ?e1_z9 ?e3_z9 ?q1_z9 ?q2_z9 ?q3_z9; (case h_z9 => assumption); (case N_z9 => exact nE'); (case F_z9 => assumption); (case t_z9 => k_mem); (case t1_z9 => k_mem); (case t3_z9 => k_mem); (case h1_z9 => k_mem); (case h2_z9 => k_mem); (case h3_z9 => k_mem); (case i1_z9 => first | with_reducible assumption | exact IntsAre.cons _ _ IntsAre.nil | exact IntsAre.nil); (case i2_z9 => first | with_reducible assumption | exact IntsAre.cons _ _ IntsAre.nil | exact IntsAre.nil); (case i3_z9 => first | with_reducible assumption | exact IntsAre.cons _ _ IntsAre.nil | exact IntsAre.nil); (case e1_z9 => k_extra "sign"); (case e3_z9 => k_extra "sign"); (case q1_z9 => k_extra "ret"); (case q2_z9 => k_extra "ret"); (case q3_z9 => k_extra "ret")))
  (k_with "m close" => ((rename News _ _ _ _ => nE'); refine' retF_of ?h_z9 ?F_z9 ?N_z9 ?t_z9 ?h1_z9 ?h2_z9 ?i1_z9 ?i2_z9 ?q1_z9 ?q2_z9; (case h_z9 => assumption); (case N_z9 => exact nE'); (case F_z9 => assumption); (case t_z9 => k_mem); (case h1_z9 => k_mem); (case h2_z9 => k_mem); (case i1_z9 => first | with_reducible assumption | exact IntsAre.cons _ _ IntsAre.nil | exact IntsAre.nil); (case i2_z9 => first | with_reducible assumption | exact IntsAre.cons _ _ IntsAre.nil | exact IntsAre.nil); (case q1_z9 => k_extra "ret"); (case q2_z9 => k_extra "ret")))
  (k_with "m close" => ((rename News _ _ _ _ => nE'); refine' retI_of ?h_z9 ?F_z9 ?N_z9 ?t_z9 ?q1_z9 ?q2_z9 ?q3_z9; (case h_z9 => assumption); (case N_z9 => exact nE'); (case F_z9 => assumption); (case t_z9 => k_mem); (case q1_z9 => k_extra "ret"); (case q2_z9 => k_extra "ret"); (case q3_z9 => k_extra "ret")))
  (k_with "m call ref" => (k_here; (with_reducible show wpAny _ _ (call (Value.ref 217) _) _ _ _); k_dflt (refine' ct_list (r_lrow ?x_z9 ?hw_z9 ?hw2_z9) ?B_z9 ?F_z9 ?X_z9 ?T_z9 ?k_z9 ?N_z9 ?p_z9 ?d_z9 ?u_z9 ?_; (case B_z9 => k_asm); (case F_z9 => k_asm); (case X_z9 => k_asm); (case T_z9 => k_asm); (case k_z9 => first | exact rfl | assumption); (case N_z9 => k_asm); (case p_z9 => exact True.intro); (case x_z9 => walk_at "mine num"); (case hw_z9 => assumption); (case hw2_z9 => assumption); (case d_z9 => ktr_room); (case u_z9 => ktr_units)); intro l9 us9 c9 h9 tk9 F9 N9 ne9 I9; (try dsimp only); (try k_fold)))
  k_fill
  intro pp lo mean mg mb dp un gd cn cs a ccd cl outer A₀ base h₀ L m s Q E B F X T hk hP hd hu hret
  refine wpAny_call ?_
  k_dflt (refine' enter0 (binds := [(Str.ofString "form", .int 0 tf), (Str.ofString "x", .int x tx), (Str.ofString "k", .int k tk₀)]) ?k1 ?k2 ?k3 ?k5 ?kA ?kF ?kK ?k6 ?k7 ?k8 ?k9 ?kB ?_ ?c2 ?c3 ?c4 ?c5; walk_at "mine enter")
  (k_with "ret" => first | rfl | fail)
  k_steps

end
section
theorem c_term1 (w : World) (x k : Int) (tf tx tk₀ : Tok) (hx : 2 ≤ x) (hx2 : x ≤ 7) (hk1 : 1 ≤ k) (hk2 : k ≤ 20) :
    CT w 1 231 [.int 1 tf, .int x tx, .int k tk₀] (fun _ => True) (RetI (tP 1 x k) (tQ 1 x k) (tA 1 x k)) := by
  unfold CT
  w_top off
  k_with_none
  (k_with "m mine enter" => ((case kA => exact rfl); (case kF => exact rfl); (case kK => assumption); (case k1 => k_asm); (case k2 => k_asm); (case k3 => k_asm); (case k5 => k_asm); (case k6 => k_is); (case k7 => k_is); (case k8 => ktr_room); (case k9 => exact BindsTo.of_eq rfl); (case c5 => decide); (case kB => exact locs rfl); (case c2 => exact rfl); (case c3 => exact rfl); (case c4 => exact rfl); k_whole; intro L' h' F' N' B' X' T'; (try dsimp only); (try k_fold)))
  (k_with "m close" => ((rename News _ _ _ _ => nE'); (try simp only [List.push_toArray] at nE'); refine' retL_of ?h_z9 ?F_z9 ?N_z9 ?m_z9 ?i_z9 ?e_z9; (case h_z9 => assumption); (case N_z9 => exact nE'); (case F_z9 => assumption); (case m_z9 => k_mem); (case i_z9 => first | with_reducible assumption | exact IntsAre.cons _ _ IntsAre.nil | k_intsEnd); (case e_z9 => k_extra "ret")))
  (k_with "m close" => (refine' retV_of _ ?h_z9 ?F_z9 ?e_z9; (case h_z9 => assumption); (case F_z9 => assumption); (case e_z9 => first | rfl | k_extra "ret")))
  (k_with "m exec" => ((with_reducible show wpAny _ _ (exec (PySem.Stmt.While _ _ _ _) _) _ _ _); k_extra "mine while"))
  (k_with "m mine num" => first | with_reducible assumption | k_extra "num")
  (k_with "m call ref" => (k_here; (with_reducible show wpAny _ _ (call (Value.ref 67) _) _ _ _); k_dflt (refine' ct_list (r_add ?ia_z9 ?ib_z9 ?x_z9 ?y_z9 ?hw_z9 ?hw2_z9) ?B_z9 ?F_z9 ?X_z9 ?T_z9 ?k_z9 ?N_z9 ?p_z9 ?d_z9 ?u_z9 ?_; (case B_z9 => k_asm); (case F_z9 => k_asm); (case X_z9 => k_asm); (case T_z9 => k_asm); (case k_z9 => first | exact rfl | assumption); (case N_z9 => k_asm); (case p_z9 => exact ⟨by kmk_list, by kmk_list⟩); (case ia_z9 => l_ints); (case ib_z9 => l_ints); (case x_z9 => walk_at "mine num"); (case y_z9 => walk_at "mine num"); (case hw_z9 => assumption); (case hw2_z9 => assumption); (case d_z9 => ktr_room); (case u_z9 => ktr_units)); intro l9 us9 c9 h9 tk9 F9 N9 ne9 I9; (try dsimp only); (try k_fold)))
  (k_with "m call ref" => (k_here; (with_reducible show wpAny _ _ (call (Value.ref 203) _) _ _ _); k_dflt (refine' ct_list (r_mul ?ia_z9 ?ib_z9 ?x_z9 ?y_z9 ?hw_z9 ?hw2_z9) ?B_z9 ?F_z9 ?X_z9 ?T_z9 ?k_z9 ?N_z9 ?p_z9 ?d_z9 ?u_z9 ?_; (case B_z9 => k_asm); (case F_z9 => k_asm); (case X_z9 => k_asm); (case T_z9 => k_asm); (case k_z9 => first | exact rfl | assumption); (case N_z9 => k_asm); (case p_z9 => exact ⟨by kmk_list, by kmk_list⟩); (case ia_z9 => l_ints); (case ib_z9 => l_ints); (case x_z9 => walk_at "mine num"); (case y_z9 => walk_at "mine num"); (case hw_z9 => assumption); (case hw2_z9 => assumption); (case d_z9 => ktr_room); (case u_z9 => ktr_units)); intro l9 us9 c9 h9 tk9 F9 N9 ne9 I9; (try dsimp only); (try k_fold)))
  (k_with "m call ref" => (k_here; (with_reducible show wpAny _ _ (call (Value.ref 74) _) _ _ _); k_dflt (refine' ct_list (r_sub ?ia_z9 ?ib_z9 ?x_z9 ?y_z9 ?hw_z9 ?hw2_z9 ?hle_z9) ?B_z9 ?F_z9 ?X_z9 ?T_z9 ?k_z9 ?N_z9 ?p_z9 ?d_z9 ?u_z9 ?_; (case B_z9 => k_asm); (case F_z9 => k_asm); (case X_z9 => k_asm); (case T_z9 => k_asm); (case k_z9 => first | exact rfl | assumption); (case N_z9 => k_asm); (case p_z9 => exact ⟨by kmk_list, by kmk_list⟩); (case ia_z9 => l_ints); (case ib_z9 => l_ints); (case x_z9 => walk_at "mine num"); (case y_z9 => walk_at "mine num"); (case hw_z9 => assumption); (case hw2_z9 => assumption); (case d_z9 => ktr_room); (case u_z9 => ktr_units); (case hle_z9 => first | assumption | k_extra "le")); intro l9 us9 c9 h9 tk9 F9 N9 ne9 I9; (try dsimp only); (try k_fold)))
  (k_with "m call ref" => (k_here; (with_reducible show wpAny _ _ (call (Value.ref 53) _) _ _ _); k_dflt (refine' ct_list (r_nat ?x_z9 ?hw_z9 ?hw2_z9) ?B_z9 ?F_z9 ?X_z9 ?T_z9 ?k_z9 ?N_z9 ?p_z9 ?d_z9 ?u_z9 ?_; (case B_z9 => k_asm); (case F_z9 => k_asm); (case X_z9 => k_asm); (case T_z9 => k_asm); (case k_z9 => first | exact rfl | assumption); (case N_z9 => k_asm); (case p_z9 => exact True.intro); (case x_z9 => walk_at "mine num"); (case hw_z9 => assumption); (case hw2_z9 => assumption); (case d_z9 => ktr_room); (case u_z9 => ktr_units)); intro l9 us9 c9 h9 tk9 F9 N9 ne9 I9; (try dsimp only); (try k_fold)))
  (k_with "m call ref" => (k_here; (with_reducible show wpAny _ _ (call (Value.ref 60) _) _ _ _); k_dflt (refine' ct_val (r_cmp (wv := ?wv_z9) ?ia_z9 ?ib_z9 ?x_z9 ?y_z9 ?hw_z9) ?B_z9 ?F_z9 ?X_z9 ?T_z9 ?k_z9 ?N_z9 ?p_z9 ?d_z9 ?u_z9 ?_; (case B_z9 => k_asm); (case F_z9 => k_asm); (case X_z9 => k_asm); (case T_z9 => k_asm); (case k_z9 => first | exact rfl | assumption); (case N_z9 => k_asm); (case p_z9 => exact ⟨by kmk_list, by kmk_list⟩); (case ia_z9 => l_ints); (case ib_z9 => l_ints); (case x_z9 => walk_at "mine num"); (case y_z9 => walk_at "mine num"); (case hw_z9 => assumption); (case d_z9 => ktr_room); (case u_z9 => ktr_units)); intro t9 h9 tk9 F9 N9; (try dsimp only); (try k_fold)))
  (k_with "m close" => ((rename News _ _ _ _ => nE'); refine' retS_of ?h_z9 ?F_z9 ?N_z9 ?t_z9 ?m_z9 ?i_z9 ?eb_z9 ?e_z9; (case h_z9 => assumption); (case N_z9 => exact nE'); (case F_z9 => assumption); (case t_z9 => k_mem); (case m_z9 => k_mem); (case i_z9 => l_ints); (case eb_z9 => k_extra "sign"); (case e_z9 => first | rfl | k_extra "ret")))
  (k_with "m subscriptTail" => (k_here; (with_reducible show wpAny _ _ (subscriptTail _ _ (Value.ref _) (Value.int _ _)) _ _ _); k_dflt (refine' item_tupleT (IsTup.keeps (by with_reducible assumption) (Fr.keep (by k_asm))) ?a_z9 ?b_z9 ?c_z9 ?d_z9 ?_; (case a_z9 => decide); (case b_z9 => decide); (case c_z9 => rfl); (case d_z9 => rfl); k_whole)))
  (k_with "m close" => ((rename News _ _ _ _ => nE'); refine' retT_of ?h_z9 ?F_z9 ?N_z9 ?t_z9 ?e_z9; (case h_z9 => assumption); (case N_z9 => exact nE'); (case F_z9 => assumption); (case t_z9 => k_mem); (case e_z9 => first | rfl | k_extra "ret")))
  (k_with "m call ref" => (k_here; (with_reducible show wpAny _ _ (call (Value.ref 81) _) _ _ _); k_dflt (refine' ct_list (c_prod _ _ ?hw_z9 ?hw2_z9 _ _ _ _ _ rfl ?ia_z9 ?cn_z9 ?l20_z9) ?B_z9 ?F_z9 ?X_z9 ?T_z9 ?k_z9 ?N_z9 ?p_z9 ?d_z9 ?u_z9 ?_; (case B_z9 => k_asm); (case F_z9 => k_asm); (case X_z9 => k_asm); (case T_z9 => k_asm); (case k_z9 => first | exact rfl | assumption); (case N_z9 => k_asm); (case p_z9 => kmk_list); (case ia_z9 => first | exact (IntsAre.cons _ _ (IntsAre.cons _ _ (IntsAre.cons _ _ IntsAre.nil))) | exact (IntsAre.cons _ _ (IntsAre.cons _ _ (IntsAre.cons _ _ (IntsAre.cons _ _ (IntsAre.cons _ _ (IntsAre.cons _ _ (IntsAre.cons _ _ (IntsAre.cons _ _ (IntsAre.cons _ _ (IntsAre.cons _ _ (IntsAre.cons _ _ (IntsAre.cons _ _ (IntsAre.cons _ _ (IntsAre.cons _ _ IntsAre.nil)))))))))))))) | exact IntsAre.append (IntsAre.cons _ _ (IntsAre.cons _ _ (IntsAre.cons _ _ IntsAre.nil))) (by l_ints)  | exact IntsAre.append (IntsAre.cons _ _ (IntsAre.cons _ _ (IntsAre.cons _ _ IntsAre.nil))) (IntsAre.cons _ _ (IntsAre.cons _ _ (IntsAre.cons _ _ (IntsAre.cons _ _ (IntsAre.cons _ _ (IntsAre.cons _ _ (IntsAre.cons _ _ (IntsAre.cons _ _ (IntsAre.cons _ _ (IntsAre.cons _ _ (IntsAre.cons _ _ IntsAre.nil))))))))))) | fail); (case hw_z9 => assumption); (case hw2_z9 => assumption); (case cn_z9 => k_extra "cnt"); (case l20_z9 => exact Nat.le_of_ble_eq_true rfl); (case d_z9 => ((simp only [List.length_cons, List.length_nil]); ktr_room)); (case u_z9 => ((simp only [List.length_cons, List.length_nil]); ktr_units))); intro l9 us9 c9 h9 tk9 F9 N9 ne9 I9; (try dsimp only); (try k_fold)))
  (k_with "m call ref" => (k_here; (with_reducible show wpAny _ _ (call (Value.ref 112) _) _ _ _); k_dflt (first | refine' ct_list (c_of_groups103 _ _ _ ?hw_z9 ?hw2_z9) ?B_z9 ?F_z9 ?X_z9 ?T_z9 ?k_z9 ?N_z9 ?p_z9 ?d_z9 ?u_z9 ?_ | refine' ct_list (c_of_groups104 _ _ _ ?hw_z9 ?hw2_z9) ?B_z9 ?F_z9 ?X_z9 ?T_z9 ?k_z9 ?N_z9 ?p_z9 ?d_z9 ?u_z9 ?_); (case B_z9 => k_asm); (case F_z9 => k_asm); (case X_z9 => k_asm); (case T_z9 => k_asm); (case k_z9 => first | exact rfl | assumption); (case N_z9 => k_asm); (case p_z9 => exact True.intro); (case hw_z9 => assumption); (case hw2_z9 => assumption); (case d_z9 => ktr_room); (case u_z9 => ktr_units); intro l9 us9 c9 h9 tk9 F9 N9 ne9 I9; (try dsimp only); (try k_fold)))
  (k_with "m getAttr ref" => (k_here; k_dflt (refine' get_own ?k1_z9 ?k2_z9 (inst_base (Fr.keep (by k_asm)) (by with_reducible assumption) (by with_reducible assumption)) ?k4_z9 ?k5_z9 ?k6_z9 ?k7_z9 ?k8_z9 ?k9_z9 ?_; (case k1_z9 => k_asm); (case k2_z9 => k_asm); (case k4_z9 => k_is); (case k5_z9 => k_is); (case k6_z9 => k_is); (case k7_z9 => k_is); (case k8_z9 => k_get); (case k9_z9 => k_handed); k_whole)))
  (k_with "m close" => ((rename News _ _ _ _ => nE'); (try simp only [List.push_toArray] at nE'); refine' retA_of ?h_z9 ?F_z9 ?N_z9 ?t_z9 ?ma_z9 ?mb_z9 ?mf_z9 ?ia_z9 ?ib_z9 ?ig_z9 ?ea_z9 ?eb_z9 ?ef_z9; (case h_z9 => assumption); (case N_z9 => exact nE'); (case F_z9 => assumption); (case t_z9 => k_mem); (case ma_z9 => k_mem); (case mb_z9 => k_mem); (case mf_z9 => k_mem); (case ia_z9 => first | with_reducible assumption | exact IntsAre.cons _ _ IntsAre.nil); (case ib_z9 => first | with_reducible assumption | exact IntsAre.cons _ _ IntsAre.nil); (case ig_z9 => first | with_reducible assumption | exact IntsAre.cons _ _ IntsAre.nil); (case ea_z9 => k_extra "ret"); (case eb_z9 => k_extra "ret"); (case ef_z9 => k_extra "ret")))
  (k_with "m call ref" => (k_here; (with_reducible show wpAny _ _ (call (Value.ref 88) _) _ _ _); k_dflt (refine' ct_tup (r_signed (wv := ?wv_z9) ?ia_z9 ?x_z9 ?hw_z9) ?B_z9 ?F_z9 ?X_z9 ?T_z9 ?k_z9 ?N_z9 ?p_z9 ?d_z9 ?u_z9 ?_; (case B_z9 => k_asm); (case F_z9 => k_asm); (case X_z9 => k_asm); (case T_z9 => k_asm); (case k_z9 => first | exact rfl | assumption); (case N_z9 => k_asm); (case p_z9 => kmk_list); (case ia_z9 => l_ints); (case x_z9 => walk_at "mine num"); (case hw_z9 => assumption); (case d_z9 => ktr_room); (case u_z9 => ktr_units)); intro t9 h9 tk9 F9 N9 ne9; (try dsimp only); (try k_fold)))
  (k_with "m call ref" => (k_here; (with_reducible show wpAny _ _ (call (Value.ref 102) _) _ _ _); k_dflt (refine' ct_sgn (c_smul _ _ _ _ _ _ _ _ _ ?x_z9 ?y_z9 ?xy_z9 ?hw_z9 ?hw2_z9) ?B_z9 ?F_z9 ?X_z9 ?T_z9 ?k_z9 ?N_z9 ?p_z9 ?d_z9 ?u_z9 ?_; (case B_z9 => k_asm); (case F_z9 => k_asm); (case X_z9 => k_asm); (case T_z9 => k_asm); (case k_z9 => first | exact rfl | assumption); (case N_z9 => k_asm); (case p_z9 => exact ⟨⟨_, _, _, News.get (by k_asm) (by k_mem), News.get (by k_asm) (by k_mem), by l_ints⟩, ⟨_, _, _, News.get (by k_asm) (by k_mem), News.get (by k_asm) (by k_mem), by l_ints⟩⟩); (case x_z9 => walk_at "mine num"); (case y_z9 => walk_at "mine num"); (case xy_z9 => walk_at "mine num"); (case hw_z9 => assumption); (case hw2_z9 => assumption); (case d_z9 => ktr_room); (case u_z9 => ktr_units)); intro t9 l9 us9 c9 h9 tk9 F9 N9 ne9 ne9' I9; (try dsimp only); (try k_fold)))
  (k_with "m call ref" => (k_here; (with_reducible show wpAny _ _ (call (Value.ref 95) _) _ _ _); k_dflt (refine' ct_sgn (c_sadd _ _ _ _ _ _ _ _ _ ?x_z9 ?y_z9 ?xy_z9 ?hw_z9 ?hw2_z9) ?B_z9 ?F_z9 ?X_z9 ?T_z9 ?k_z9 ?N_z9 ?p_z9 ?d_z9 ?u_z9 ?_; (case B_z9 => k_asm); (case F_z9 => k_asm); (case X_z9 => k_asm); (case T_z9 => k_asm); (case k_z9 => first | exact rfl | assumption); (case N_z9 => k_asm); (case p_z9 => exact ⟨⟨_, _, _, News.get (by k_asm) (by k_mem), News.get (by k_asm) (by k_mem), by l_ints⟩, ⟨_, _, _, News.get (by k_asm) (by k_mem), News.get (by k_asm) (by k_mem), by l_ints⟩⟩); (case x_z9 => walk_at "mine num"); (case y_z9 => walk_at "mine num"); (case xy_z9 => walk_at "mine num"); (case hw_z9 => assumption); (case hw2_z9 => assumption); (case d_z9 => ktr_room); (case u_z9 => ktr_units)); intro t9 l9 us9 c9 h9 tk9 F9 N9 ne9 ne9' I9; (try dsimp only); (try k_fold)))
  (k_with "m call ref" => (k_here; k_dflt (first | (with_reducible show wpAny _ _ (call (Value.ref 126) _) _ _ _); refine' ct_at (c_at0 _ _ _ 0 _ _ _ ?hw_z9 ?hw2_z9 ?k1_z9 ?k2_z9) ?B_z9 ?F_z9 ?X_z9 ?T_z9 ?k_z9 ?N_z9 ?p_z9 ?d_z9 ?u_z9 ?_ | (with_reducible show wpAny _ _ (call (Value.ref 175) _) _ _ _); refine' ct_at (c_at2 _ _ _ 0 _ _ _ ?hw_z9 ?hw2_z9 ?k1_z9 ?k2_z9) ?B_z9 ?F_z9 ?X_z9 ?T_z9 ?k_z9 ?N_z9 ?p_z9 ?d_z9 ?u_z9 ?_); (case B_z9 => k_asm); (case F_z9 => k_asm); (case X_z9 => k_asm); (case T_z9 => k_asm); (case k_z9 => first | exact rfl | assumption); (case N_z9 => k_asm); (case p_z9 => k_extra "ser"); (case k1_z9 => omega); (case k2_z9 => omega); (case hw_z9 => assumption); (case hw2_z9 => assumption); (case d_z9 => ktr_room); (case u_z9 => ktr_units); intro t9 la9 lb9 lf9 va9 vb9 vf9 ca9 cb9 cf9 h9 tk9 F9 N9 Ia9 Ib9 If9; (try dsimp only); (try k_fold)))
  (k_with "m call ref" => (k_here; (with_reducible show wpAny _ _ (call (Value.ref 154) _) _ _ _); k_dflt (refine' ct_at (c_at1' ?x1_z9 ?hw_z9 ?hw2_z9 ?k1_z9 ?k2_z9) ?B_z9 ?F_z9 ?X_z9 ?T_z9 ?k_z9 ?N_z9 ?p_z9 ?d_z9 ?u_z9 ?_; (case B_z9 => k_asm); (case F_z9 => k_asm); (case X_z9 => k_asm); (case T_z9 => k_asm); (case k_z9 => first | exact rfl | assumption); (case N_z9 => k_asm); (case x1_z9 => with_reducible assumption); (case p_z9 => k_extra "ser"); (case k1_z9 => omega); (case k2_z9 => omega); (case hw_z9 => assumption); (case hw2_z9 => assumption); (case d_z9 => ktr_room); (case u_z9 => ktr_units)); intro t9 la9 lb9 lf9 va9 vb9 vf9 ca9 cb9 cf9 h9 tk9 F9 N9 Ia9 Ib9 If9; (try dsimp only); (try k_fold)))
  (k_with "m getMethod ref" => (k_here; k_dflt (refine' method_inst ?k1_z9 ?k2_z9 (inst_base (Fr.keep (by k_asm)) (by with_reducible assumption) (by with_reducible assumption)) ?k4_z9 ?k5_z9 ?k6_z9 ?k7_z9 ?_; (case k1_z9 => k_asm); (case k2_z9 => k_asm); (case k4_z9 => k_is); (case k5_z9 => k_is); (case k6_z9 => k_is); (case k7_z9 => k_get); k_whole)))
  (k_with "m close" => ((rename News _ _ _ _ => nE'); (try simp only [List.push_toArray] at nE'); refine' retP_of ?h_z9 ?F_z9 ?N_z9 ?t_z9 ?t1_z9 ?t3_z9 ?h1_z9 ?h2_z9 ?h3_z9 ?i1_z9 ?i2_z9 ?i3_z9 ?e1_z9 ?e3_z9 ?q1_z9 ?q2_z9 ?q3_z9; (case h_z9 => assumption); (case N_z9 => exact nE'); (case F_z9 => assumption); (case t_z9 => k_mem); (case t1_z9 => k_mem); (case t3_z9 => k_mem); (case h1_z9 => k_mem); (case h2_z9 => k_mem); (case h3_z9 => k_mem); (case i1_z9 => first | with_reducible assumption | exact IntsAre.cons _ _ IntsAre.nil | exact IntsAre.nil); (case i2_z9 => first | with_reducible assumption | exact IntsAre.cons _ _ IntsAre.nil | exact IntsAre.nil); (case i3_z9 => first | with_reducible assumption | exact IntsAre.cons _ _ IntsAre.nil | exact IntsAre.nil); (case e1_z9 => k_extra "sign"); (case e3_z9 => k_extra "sign"); (case q1_z9 => k_extra "ret"); (case q2_z9 => k_extra "ret"); (case q3_z9 => k_extra "ret")))
  (k_with "m close" => ((rename News _ _ _ _ => nE'); refine' retF_of ?h_z9 ?F_z9 ?N_z9 ?t_z9 ?h1_z9 ?h2_z9 ?i1_z9 ?i2_z9 ?q1_z9 ?q2_z9; (case h_z9 => assumption); (case N_z9 => exact nE'); (case F_z9 => assumption); (case t_z9 => k_mem); (case h1_z9 => k_mem); (case h2_z9 => k_mem); (case i1_z9 => first | with_reducible assumption | exact IntsAre.cons _ _ IntsAre.nil | exact IntsAre.nil); (case i2_z9 => first | with_reducible assumption | exact IntsAre.cons _ _ IntsAre.nil | exact IntsAre.nil); (case q1_z9 => k_extra "ret"); (case q2_z9 => k_extra "ret")))
  (k_with "m close" => ((rename News _ _ _ _ => nE'); refine' retI_of ?h_z9 ?F_z9 ?N_z9 ?t_z9 ?q1_z9 ?q2_z9 ?q3_z9; (case h_z9 => assumption); (case N_z9 => exact nE'); (case F_z9 => assumption); (case t_z9 => k_mem); (case q1_z9 => k_extra "ret"); (case q2_z9 => k_extra "ret"); (case q3_z9 => k_extra "ret")))
  (k_with "m call ref" => (k_here; (with_reducible show wpAny _ _ (call (Value.ref 217) _) _ _ _); k_dflt (refine' ct_list (r_lrow ?x_z9 ?hw_z9 ?hw2_z9) ?B_z9 ?F_z9 ?X_z9 ?T_z9 ?k_z9 ?N_z9 ?p_z9 ?d_z9 ?u_z9 ?_; (case B_z9 => k_asm); (case F_z9 => k_asm); (case X_z9 => k_asm); (case T_z9 => k_asm); (case k_z9 => first | exact rfl | assumption); (case N_z9 => k_asm); (case p_z9 => exact True.intro); (case x_z9 => walk_at "mine num"); (case hw_z9 => assumption); (case hw2_z9 => assumption); (case d_z9 => ktr_room); (case u_z9 => ktr_units)); intro l9 us9 c9 h9 tk9 F9 N9 ne9 I9; (try dsimp only); (try k_fold)))
  k_fill
  intro pp lo mean mg mb dp un gd cn cs a ccd cl outer A₀ base h₀ L m s Q E B F X T hk hP hd hu hret
  refine wpAny_call ?_
  k_dflt (refine' enter0 (binds := [(Str.ofString "form", .int 1 tf), (Str.ofString "x", .int x tx), (Str.ofString "k", .int k tk₀)]) ?k1 ?k2 ?k3 ?k5 ?kA ?kF ?kK ?k6 ?k7 ?k8 ?k9 ?kB ?_ ?c2 ?c3 ?c4 ?c5; walk_at "mine enter")
  (k_with "ret" => first | rfl | fail)
  k_steps

end
section
theorem cube_le {k : Int} (h1 : 1 ≤ k) (h2 : k ≤ 20) : 1 ≤ k ^ 3 ∧ k ^ 3 ≤ 8000 := by
  have e : k ^ 3 = k * k * k := by simp only [Int.pow_succ, Int.pow_zero, Int.one_mul]
  rw [e]
  have h3 : 1 ≤ k * k := Int.le_trans (show (1 : Int) ≤ 1 * 1 by decide) (Int.mul_le_mul h1 h1 (by omega) (by omega))
  have h4 : k * k ≤ 20 * 20 := Int.mul_le_mul h2 h2 (by omega) (by omega)
  have h5 : (1 : Int) * 1 ≤ k * k * k := Int.mul_le_mul h3 h1 (by omega) (by omega)
  have h6 : k * k * k ≤ 20 * 20 * 20 := Int.mul_le_mul h4 h2 (by omega) (by omega)
  omega
section
variable {prog : Program} {w : World} {A : Around} {E : Value → Shared → Prop} {s : Shared} {Q : Value → Shared → Prop} {t u : Tok} {k : Int}
theorem pow_cube (h : Q (.int 262537412640768000 s.toks) { s with toks := s.toks + 1 }) : wpAny (model prog w) A (binaryOp .Pow (.int 640320 t) (.int 3 u)) Q E s :=
  pow_int_small (by decide) (by decide) (by decide) (by rw [show (640320 : Int) ^ ((3 : Int).toNat) = 262537412640768000 by decide +kernel]; exact h)
theorem div_cube (h : Q (.int 10939058860032000 s.toks) { s with toks := s.toks + 1 }) : wpAny (model prog w) A (binaryOp .FloorDiv (.int 262537412640768000 t) (.int 24 u)) Q E s :=
  floordiv_int (by decide) (by rw [show (262537412640768000 : Int).fdiv 24 = 10939058860032000 by decide +kernel]; exact h) (Or.inl (PyProof.noPylong_of_log2 (by decide +kernel)))
theorem pow_three (hk : k.natAbs < 2 ^ 64) (h : Q (.int (k ^ 3) s.toks) { s with toks := s.toks + 1 }) : wpAny (model prog w) A (binaryOp .Pow (.int k t) (.int 3 u)) Q E s :=
  pow_int_small (by decide) (by decide) hk h
end
theorem nat64 {k : Int} (h1 : 1 ≤ k) (h2 : k ≤ 20) : k.natAbs < 2 ^ 64 := by
  rw [show (2 : Nat) ^ 64 = 18446744073709551616 by decide]; omega
theorem tQ_two (x k : Int) : tQ 2 x k = 10939058860032000 * (k * k * k) := by simp only [tQ]
theorem q_form {x k : Int} : 10939058860032000 * k ^ 3 = tQ 2 x k := by
  have e : k ^ 3 = k * k * k := by simp only [Int.pow_succ, Int.pow_zero, Int.one_mul]
  rw [e, tQ_two]
theorem p_form {x k : Int} : 0 - (6 * k - 5) * (2 * k - 1) * (6 * k - 1) = tP 2 x k := by simp only [tP]
theorem a_form {x k : Int} : 13591409 + 545140134 * k = tA 2 x k := by simp only [tA]

theorem c_term2 (w : World) (x k : Int) (tf tx tk₀ : Tok) (hx : 2 ≤ x) (hx2 : x ≤ 7) (hk1 : 1 ≤ k) (hk2 : k ≤ 20) :
    CT w 1 231 [.int 2 tf, .int x tx, .int k tk₀] (fun _ => True) (RetI (tP 2 x k) (tQ 2 x k) (tA 2 x k)) := by
  unfold CT
  w_top off
  k_with_none
  (k_with "m mine enter" => ((case kA => exact rfl); (case kF => exact rfl); (case kK => assumption); (case k1 => k_asm); (case k2 => k_asm); (case k3 => k_asm); (case k5 => k_asm); (case k6 => k_is); (case k7 => k_is); (case k8 => ktr_room); (case k9 => exact BindsTo.of_eq rfl); (case c5 => decide); (case kB => exact locs rfl); (case c2 => exact rfl); (case c3 => exact rfl); (case c4 => exact rfl); k_whole; intro L' h' F' N' B' X' T'; (try dsimp only); (try k_fold)))
  (k_with "m close" => ((rename News _ _ _ _ => nE'); (try simp only [List.push_toArray] at nE'); refine' retL_of ?h_z9 ?F_z9 ?N_z9 ?m_z9 ?i_z9 ?e_z9; (case h_z9 => assumption); (case N_z9 => exact nE'); (case F_z9 => assumption); (case m_z9 => k_mem); (case i_z9 => first | with_reducible assumption | exact IntsAre.cons _ _ IntsAre.nil | k_intsEnd); (case e_z9 => k_extra "ret")))
  (k_with "m close" => (refine' retV_of _ ?h_z9 ?F_z9 ?e_z9; (case h_z9 => assumption); (case F_z9 => assumption); (case e_z9 => first | rfl | k_extra "ret")))
  (k_with "m exec" => ((with_reducible show wpAny _ _ (exec (PySem.Stmt.While _ _ _ _) _) _ _ _); k_extra "mine while"))
  (k_with "m mine num" => first | with_reducible assumption | k_extra "num")
  (k_with "m call ref" => (k_here; (with_reducible show wpAny _ _ (call (Value.ref 67) _) _ _ _); k_dflt (refine' ct_list (r_add ?ia_z9 ?ib_z9 ?x_z9 ?y_z9 ?hw_z9 ?hw2_z9) ?B_z9 ?F_z9 ?X_z9 ?T_z9 ?k_z9 ?N_z9 ?p_z9 ?d_z9 ?u_z9 ?_; (case B_z9 => k_asm); (case F_z9 => k_asm); (case X_z9 => k_asm); (case T_z9 => k_asm); (case k_z9 => first | exact rfl | assumption); (case N_z9 => k_asm); (case p_z9 => exact ⟨by kmk_list, by kmk_list⟩); (case ia_z9 => l_ints); (case ib_z9 => l_ints); (case x_z9 => walk_at "mine num"); (case y_z9 => walk_at "mine num"); (case hw_z9 => assumption); (case hw2_z9 => assumption); (case d_z9 => ktr_room); (case u_z9 => ktr_units)); intro l9 us9 c9 h9 tk9 F9 N9 ne9 I9; (try dsimp only); (try k_fold)))
  (k_with "m call ref" => (k_here; (with_reducible show wpAny _ _ (call (Value.ref 203) _) _ _ _); k_dflt (refine' ct_list (r_mul ?ia_z9 ?ib_z9 ?x_z9 ?y_z9 ?hw_z9 ?hw2_z9) ?B_z9 ?F_z9 ?X_z9 ?T_z9 ?k_z9 ?N_z9 ?p_z9 ?d_z9 ?u_z9 ?_; (case B_z9 => k_asm); (case F_z9 => k_asm); (case X_z9 => k_asm); (case T_z9 => k_asm); (case k_z9 => first | exact rfl | assumption); (case N_z9 => k_asm); (case p_z9 => exact ⟨by kmk_list, by kmk_list⟩); (case ia_z9 => l_ints); (case ib_z9 => l_ints); (case x_z9 => walk_at "mine num"); (case y_z9 => walk_at "mine num"); (case hw_z9 => assumption); (case hw2_z9 => assumption); (case d_z9 => ktr_room); (case u_z9 => ktr_units)); intro l9 us9 c9 h9 tk9 F9 N9 ne9 I9; (try dsimp only); (try k_fold)))
  (k_with "m call ref" => (k_here; (with_reducible show wpAny _ _ (call (Value.ref 74) _) _ _ _); k_dflt (refine' ct_list (r_sub ?ia_z9 ?ib_z9 ?x_z9 ?y_z9 ?hw_z9 ?hw2_z9 ?hle_z9) ?B_z9 ?F_z9 ?X_z9 ?T_z9 ?k_z9 ?N_z9 ?p_z9 ?d_z9 ?u_z9 ?_; (case B_z9 => k_asm); (case F_z9 => k_asm); (case X_z9 => k_asm); (case T_z9 => k_asm); (case k_z9 => first | exact rfl | assumption); (case N_z9 => k_asm); (case p_z9 => exact ⟨by kmk_list, by kmk_list⟩); (case ia_z9 => l_ints); (case ib_z9 => l_ints); (case x_z9 => walk_at "mine num"); (case y_z9 => walk_at "mine num"); (case hw_z9 => assumption); (case hw2_z9 => assumption); (case d_z9 => ktr_room); (case u_z9 => ktr_units); (case hle_z9 => first | assumption | k_extra "le")); intro l9 us9 c9 h9 tk9 F9 N9 ne9 I9; (try dsimp only); (try k_fold)))
  (k_with "m call ref" => (k_here; (with_reducible show wpAny _ _ (call (Value.ref 53) _) _ _ _); k_dflt (refine' ct_list (r_nat ?x_z9 ?hw_z9 ?hw2_z9) ?B_z9 ?F_z9 ?X_z9 ?T_z9 ?k_z9 ?N_z9 ?p_z9 ?d_z9 ?u_z9 ?_; (case B_z9 => k_asm); (case F_z9 => k_asm); (case X_z9 => k_asm); (case T_z9 => k_asm); (case k_z9 => first | exact rfl | assumption); (case N_z9 => k_asm); (case p_z9 => exact True.intro); (case x_z9 => walk_at "mine num"); (case hw_z9 => assumption); (case hw2_z9 => assumption); (case d_z9 => ktr_room); (case u_z9 => ktr_units)); intro l9 us9 c9 h9 tk9 F9 N9 ne9 I9; (try dsimp only); (try k_fold)))
  (k_with "m call ref" => (k_here; (with_reducible show wpAny _ _ (call (Value.ref 60) _) _ _ _); k_dflt (refine' ct_val (r_cmp (wv := ?wv_z9) ?ia_z9 ?ib_z9 ?x_z9 ?y_z9 ?hw_z9) ?B_z9 ?F_z9 ?X_z9 ?T_z9 ?k_z9 ?N_z9 ?p_z9 ?d_z9 ?u_z9 ?_; (case B_z9 => k_asm); (case F_z9 => k_asm); (case X_z9 => k_asm); (case T_z9 => k_asm); (case k_z9 => first | exact rfl | assumption); (case N_z9 => k_asm); (case p_z9 => exact ⟨by kmk_list, by kmk_list⟩); (case ia_z9 => l_ints); (case ib_z9 => l_ints); (case x_z9 => walk_at "mine num"); (case y_z9 => walk_at "mine num"); (case hw_z9 => assumption); (case d_z9 => ktr_room); (case u_z9 => ktr_units)); intro t9 h9 tk9 F9 N9; (try dsimp only); (try k_fold)))
  (k_with "m close" => ((rename News _ _ _ _ => nE'); refine' retS_of ?h_z9 ?F_z9 ?N_z9 ?t_z9 ?m_z9 ?i_z9 ?eb_z9 ?e_z9; (case h_z9 => assumption); (case N_z9 => exact nE'); (case F_z9 => assumption); (case t_z9 => k_mem); (case m_z9 => k_mem); (case i_z9 => l_ints); (case eb_z9 => k_extra "sign"); (case e_z9 => first | rfl | k_extra "ret")))
  (k_with "m subscriptTail" => (k_here; (with_reducible show wpAny _ _ (subscriptTail _ _ (Value.ref _) (Value.int _ _)) _ _ _); k_dflt (refine' item_tupleT (IsTup.keeps (by with_reducible assumption) (Fr.keep (by k_asm))) ?a_z9 ?b_z9 ?c_z9 ?d_z9 ?_; (case a_z9 => decide); (case b_z9 => decide); (case c_z9 => rfl); (case d_z9 => rfl); k_whole)))
  (k_with "m close" => ((rename News _ _ _ _ => nE'); refine' retT_of ?h_z9 ?F_z9 ?N_z9 ?t_z9 ?e_z9; (case h_z9 => assumption); (case N_z9 => exact nE'); (case F_z9 => assumption); (case t_z9 => k_mem); (case e_z9 => first | rfl | k_extra "ret")))
  (k_with "m call ref" => (k_here; (with_reducible show wpAny _ _ (call (Value.ref 81) _) _ _ _); k_dflt (refine' ct_list (c_prod _ _ ?hw_z9 ?hw2_z9 _ _ _ _ _ rfl ?ia_z9 ?cn_z9 ?l20_z9) ?B_z9 ?F_z9 ?X_z9 ?T_z9 ?k_z9 ?N_z9 ?p_z9 ?d_z9 ?u_z9 ?_; (case B_z9 => k_asm); (case F_z9 => k_asm); (case X_z9 => k_asm); (case T_z9 => k_asm); (case k_z9 => first | exact rfl | assumption); (case N_z9 => k_asm); (case p_z9 => kmk_list); (case ia_z9 => first | exact (IntsAre.cons _ _ (IntsAre.cons _ _ (IntsAre.cons _ _ IntsAre.nil))) | exact (IntsAre.cons _ _ (IntsAre.cons _ _ (IntsAre.cons _ _ (IntsAre.cons _ _ (IntsAre.cons _ _ (IntsAre.cons _ _ (IntsAre.cons _ _ (IntsAre.cons _ _ (IntsAre.cons _ _ (IntsAre.cons _ _ (IntsAre.cons _ _ (IntsAre.cons _ _ (IntsAre.cons _ _ (IntsAre.cons _ _ IntsAre.nil)))))))))))))) | exact IntsAre.append (IntsAre.cons _ _ (IntsAre.cons _ _ (IntsAre.cons _ _ IntsAre.nil))) (by l_ints)  | exact IntsAre.append (IntsAre.cons _ _ (IntsAre.cons _ _ (IntsAre.cons _ _ IntsAre.nil))) (IntsAre.cons _ _ (IntsAre.cons _ _ (IntsAre.cons _ _ (IntsAre.cons _ _ (IntsAre.cons _ _ (IntsAre.cons _ _ (IntsAre.cons _ _ (IntsAre.cons _ _ (IntsAre.cons _ _ (IntsAre.cons _ _ (IntsAre.cons _ _ IntsAre.nil))))))))))) | fail); (case hw_z9 => assumption); (case hw2_z9 => assumption); (case cn_z9 => k_extra "cnt"); (case l20_z9 => exact Nat.le_of_ble_eq_true rfl); (case d_z9 => ((simp only [List.length_cons, List.length_nil]); ktr_room)); (case u_z9 => ((simp only [List.length_cons, List.length_nil]); ktr_units))); intro l9 us9 c9 h9 tk9 F9 N9 ne9 I9; (try dsimp only); (try k_fold)))
  (k_with "m call ref" => (k_here; (with_reducible show wpAny _ _ (call (Value.ref 112) _) _ _ _); k_dflt (first | refine' ct_list (c_of_groups103 _ _ _ ?hw_z9 ?hw2_z9) ?B_z9 ?F_z9 ?X_z9 ?T_z9 ?k_z9 ?N_z9 ?p_z9 ?d_z9 ?u_z9 ?_ | refine' ct_list (c_of_groups104 _ _ _ ?hw_z9 ?hw2_z9) ?B_z9 ?F_z9 ?X_z9 ?T_z9 ?k_z9 ?N_z9 ?p_z9 ?d_z9 ?u_z9 ?_); (case B_z9 => k_asm); (case F_z9 => k_asm); (case X_z9 => k_asm); (case T_z9 => k_asm); (case k_z9 => first | exact rfl | assumption); (case N_z9 => k_asm); (case p_z9 => exact True.intro); (case hw_z9 => assumption); (case hw2_z9 => assumption); (case d_z9 => ktr_room); (case u_z9 => ktr_units); intro l9 us9 c9 h9 tk9 F9 N9 ne9 I9; (try dsimp only); (try k_fold)))
  (k_with "m getAttr ref" => (k_here; k_dflt (refine' get_own ?k1_z9 ?k2_z9 (inst_base (Fr.keep (by k_asm)) (by with_reducible assumption) (by with_reducible assumption)) ?k4_z9 ?k5_z9 ?k6_z9 ?k7_z9 ?k8_z9 ?k9_z9 ?_; (case k1_z9 => k_asm); (case k2_z9 => k_asm); (case k4_z9 => k_is); (case k5_z9 => k_is); (case k6_z9 => k_is); (case k7_z9 => k_is); (case k8_z9 => k_get); (case k9_z9 => k_handed); k_whole)))
  (k_with "m close" => ((rename News _ _ _ _ => nE'); (try simp only [List.push_toArray] at nE'); refine' retA_of ?h_z9 ?F_z9 ?N_z9 ?t_z9 ?ma_z9 ?mb_z9 ?mf_z9 ?ia_z9 ?ib_z9 ?ig_z9 ?ea_z9 ?eb_z9 ?ef_z9; (case h_z9 => assumption); (case N_z9 => exact nE'); (case F_z9 => assumption); (case t_z9 => k_mem); (case ma_z9 => k_mem); (case mb_z9 => k_mem); (case mf_z9 => k_mem); (case ia_z9 => first | with_reducible assumption | exact IntsAre.cons _ _ IntsAre.nil); (case ib_z9 => first | with_reducible assumption | exact IntsAre.cons _ _ IntsAre.nil); (case ig_z9 => first | with_reducible assumption | exact IntsAre.cons _ _ IntsAre.nil); (case ea_z9 => k_extra "ret"); (case eb_z9 => k_extra "ret"); (case ef_z9 => k_extra "ret")))
  (k_with "m call ref" => (k_here; (with_reducible show wpAny _ _ (call (Value.ref 88) _) _ _ _); k_dflt (refine' ct_tup (r_signed (wv := ?wv_z9) ?ia_z9 ?x_z9 ?hw_z9) ?B_z9 ?F_z9 ?X_z9 ?T_z9 ?k_z9 ?N_z9 ?p_z9 ?d_z9 ?u_z9 ?_; (case B_z9 => k_asm); (case F_z9 => k_asm); (case X_z9 => k_asm); (case T_z9 => k_asm); (case k_z9 => first | exact rfl | assumption); (case N_z9 => k_asm); (case p_z9 => kmk_list); (case ia_z9 => l_ints); (case x_z9 => walk_at "mine num"); (case hw_z9 => assumption); (case d_z9 => ktr_room); (case u_z9 => ktr_units)); intro t9 h9 tk9 F9 N9 ne9; (try dsimp only); (try k_fold)))
  (k_with "m call ref" => (k_here; (with_reducible show wpAny _ _ (call (Value.ref 102) _) _ _ _); k_dflt (refine' ct_sgn (c_smul _ _ _ _ _ _ _ _ _ ?x_z9 ?y_z9 ?xy_z9 ?hw_z9 ?hw2_z9) ?B_z9 ?F_z9 ?X_z9 ?T_z9 ?k_z9 ?N_z9 ?p_z9 ?d_z9 ?u_z9 ?_; (case B_z9 => k_asm); (case F_z9 => k_asm); (case X_z9 => k_asm); (case T_z9 => k_asm); (case k_z9 => first | exact rfl | assumption); (case N_z9 => k_asm); (case p_z9 => exact ⟨⟨_, _, _, News.get (by k_asm) (by k_mem), News.get (by k_asm) (by k_mem), by l_ints⟩, ⟨_, _, _, News.get (by k_asm) (by k_mem), News.get (by k_asm) (by k_mem), by l_ints⟩⟩); (case x_z9 => walk_at "mine num"); (case y_z9 => walk_at "mine num"); (case xy_z9 => walk_at "mine num"); (case hw_z9 => assumption); (case hw2_z9 => assumption); (case d_z9 => ktr_room); (case u_z9 => ktr_units)); intro t9 l9 us9 c9 h9 tk9 F9 N9 ne9 ne9' I9; (try dsimp only); (try k_fold)))
  (k_with "m call ref" => (k_here; (with_reducible show wpAny _ _ (call (Value.ref 95) _) _ _ _); k_dflt (refine' ct_sgn (c_sadd _ _ _ _ _ _ _ _ _ ?x_z9 ?y_z9 ?xy_z9 ?hw_z9 ?hw2_z9) ?B_z9 ?F_z9 ?X_z9 ?T_z9 ?k_z9 ?N_z9 ?p_z9 ?d_z9 ?u_z9 ?_; (case B_z9 => k_asm); (case F_z9 => k_asm); (case X_z9 => k_asm); (case T_z9 => k_asm); (case k_z9 => first | exact rfl | assumption); (case N_z9 => k_asm); (case p_z9 => exact ⟨⟨_, _, _, News.get (by k_asm) (by k_mem), News.get (by k_asm) (by k_mem), by l_ints⟩, ⟨_, _, _, News.get (by k_asm) (by k_mem), News.get (by k_asm) (by k_mem), by l_ints⟩⟩); (case x_z9 => walk_at "mine num"); (case y_z9 => walk_at "mine num"); (case xy_z9 => walk_at "mine num"); (case hw_z9 => assumption); (case hw2_z9 => assumption); (case d_z9 => ktr_room); (case u_z9 => ktr_units)); intro t9 l9 us9 c9 h9 tk9 F9 N9 ne9 ne9' I9; (try dsimp only); (try k_fold)))
  (k_with "m call ref" => (k_here; k_dflt (first | (with_reducible show wpAny _ _ (call (Value.ref 126) _) _ _ _); refine' ct_at (c_at0 _ _ _ 0 _ _ _ ?hw_z9 ?hw2_z9 ?k1_z9 ?k2_z9) ?B_z9 ?F_z9 ?X_z9 ?T_z9 ?k_z9 ?N_z9 ?p_z9 ?d_z9 ?u_z9 ?_ | (with_reducible show wpAny _ _ (call (Value.ref 175) _) _ _ _); refine' ct_at (c_at2 _ _ _ 0 _ _ _ ?hw_z9 ?hw2_z9 ?k1_z9 ?k2_z9) ?B_z9 ?F_z9 ?X_z9 ?T_z9 ?k_z9 ?N_z9 ?p_z9 ?d_z9 ?u_z9 ?_); (case B_z9 => k_asm); (case F_z9 => k_asm); (case X_z9 => k_asm); (case T_z9 => k_asm); (case k_z9 => first | exact rfl | assumption); (case N_z9 => k_asm); (case p_z9 => k_extra "ser"); (case k1_z9 => omega); (case k2_z9 => omega); (case hw_z9 => assumption); (case hw2_z9 => assumption); (case d_z9 => ktr_room); (case u_z9 => ktr_units); intro t9 la9 lb9 lf9 va9 vb9 vf9 ca9 cb9 cf9 h9 tk9 F9 N9 Ia9 Ib9 If9; (try dsimp only); (try k_fold)))
  (k_with "m call ref" => (k_here; (with_reducible show wpAny _ _ (call (Value.ref 154) _) _ _ _); k_dflt (refine' ct_at (c_at1' ?x1_z9 ?hw_z9 ?hw2_z9 ?k1_z9 ?k2_z9) ?B_z9 ?F_z9 ?X_z9 ?T_z9 ?k_z9 ?N_z9 ?p_z9 ?d_z9 ?u_z9 ?_; (case B_z9 => k_asm); (case F_z9 => k_asm); (case X_z9 => k_asm); (case T_z9 => k_asm); (case k_z9 => first | exact rfl | assumption); (case N_z9 => k_asm); (case x1_z9 => with_reducible assumption); (case p_z9 => k_extra "ser"); (case k1_z9 => omega); (case k2_z9 => omega); (case hw_z9 => assumption); (case hw2_z9 => assumption); (case d_z9 => ktr_room); (case u_z9 => ktr_units)); intro t9 la9 lb9 lf9 va9 vb9 vf9 ca9 cb9 cf9 h9 tk9 F9 N9 Ia9 Ib9 If9; (try dsimp only); (try k_fold)))
  (k_with "m getMethod ref" => (k_here; k_dflt (refine' method_inst ?k1_z9 ?k2_z9 (inst_base (Fr.keep (by k_asm)) (by with_reducible assumption) (by with_reducible assumption)) ?k4_z9 ?k5_z9 ?k6_z9 ?k7_z9 ?_; (case k1_z9 => k_asm); (case k2_z9 => k_asm); (case k4_z9 => k_is); (case k5_z9 => k_is); (case k6_z9 => k_is); (case k7_z9 => k_get); k_whole)))
  (k_with "m close" => ((rename News _ _ _ _ => nE'); (try simp only [List.push_toArray] at nE'); refine' retP_of ?h_z9 ?F_z9 ?N_z9 ?t_z9 ?t1_z9 ?t3_z9 ?h1_z9 ?h2_z9 ?h3_z9 ?i1_z9 ?i2_z9 ?i3_z9 ?e1_z9 ?e3_z9 ?q1_z9 ?q2_z9 ?q3_z9; (case h_z9 => assumption); (case N_z9 => exact nE'); (case F_z9 => assumption); (case t_z9 => k_mem); (case t1_z9 => k_mem); (case t3_z9 => k_mem); (case h1_z9 => k_mem); (case h2_z9 => k_mem); (case h3_z9 => k_mem); (case i1_z9 => first | with_reducible assumption | exact IntsAre.cons _ _ IntsAre.nil | exact IntsAre.nil); (case i2_z9 => first | with_reducible assumption | exact IntsAre.cons _ _ IntsAre.nil | exact IntsAre.nil); (case i3_z9 => first | with_reducible assumption | exact IntsAre.cons _ _ IntsAre.nil | exact IntsAre.nil); (case e1_z9 => k_extra "sign"); (case e3_z9 => k_extra "sign"); (case q1_z9 => k_extra "ret"); (case q2_z9 => k_extra "ret"); (case q3_z9 => k_extra "ret")))
  (k_with "m close" => ((rename News _ _ _ _ => nE'); refine' retF_of ?h_z9 ?F_z9 ?N_z9 ?t_z9 ?h1_z9 ?h2_z9 ?i1_z9 ?i2_z9 ?q1_z9 ?q2_z9; (case h_z9 => assumption); (case N_z9 => exact nE'); (case F_z9 => assumption); (case t_z9 => k_mem); (case h1_z9 => k_mem); (case h2_z9 => k_mem); (case i1_z9 => first | with_reducible assumption | exact IntsAre.cons _ _ IntsAre.nil | exact IntsAre.nil); (case i2_z9 => first | with_reducible assumption | exact IntsAre.cons _ _ IntsAre.nil | exact IntsAre.nil); (case q1_z9 => k_extra "ret"); (case q2_z9 => k_extra "ret")))
  (k_with "m close" => ((rename News _ _ _ _ => nE'); refine' retI_of ?h_z9 ?F_z9 ?N_z9 ?t_z9 ?q1_z9 ?q2_z9 ?q3_z9; (case h_z9 => assumption); (case N_z9 => exact nE'); (case F_z9 => assumption); (case t_z9 => k_mem); (case q1_z9 => k_extra "ret"); (case q2_z9 => k_extra "ret"); (case q3_z9 => k_extra "ret")))
  (k_with "m call ref" => (k_here; (with_reducible show wpAny _ _ (call (Value.ref 217) _) _ _ _); k_dflt (refine' ct_list (r_lrow ?x_z9 ?hw_z9 ?hw2_z9) ?B_z9 ?F_z9 ?X_z9 ?T_z9 ?k_z9 ?N_z9 ?p_z9 ?d_z9 ?u_z9 ?_; (case B_z9 => k_asm); (case F_z9 => k_asm); (case X_z9 => k_asm); (case T_z9 => k_asm); (case k_z9 => first | exact rfl | assumption); (case N_z9 => k_asm); (case p_z9 => exact True.intro); (case x_z9 => walk_at "mine num"); (case hw_z9 => assumption); (case hw2_z9 => assumption); (case d_z9 => ktr_room); (case u_z9 => ktr_units)); intro l9 us9 c9 h9 tk9 F9 N9 ne9 I9; (try dsimp only); (try k_fold)))
  (k_with "m binaryOp Pow int int" => first | with_reducible refine pow_cube ?_ | with_reducible refine pow_three (by assumption) ?_)
  (k_with "m binaryOp FloorDiv int int" => with_reducible refine div_cube ?_)
  k_fill
  intro pp lo mean mg mb dp un gd cn cs a ccd cl outer A₀ base h₀ L m s Q E B F X T hk hP hd hu hret
  have m1 : IntMulOk ((6 * k - 5) * (2 * k - 1)) (6 * k - 1) := IntMulOk.of_right (intBits_le_64 (by omega) (by omega))
  have hk64 : k.natAbs < 2 ^ 64 := nat64 hk1 hk2
  have m2 : IntMulOk 10939058860032000 (k ^ 3) := IntMulOk.of_right (intBits_le_64 (by have := cube_le hk1 hk2; omega) (by have := cube_le hk1 hk2; omega))
  refine wpAny_call ?_
  k_dflt (refine' enter0 (binds := [(Str.ofString "form", .int 2 tf), (Str.ofString "x", .int x tx), (Str.ofString "k", .int k tk₀)]) ?k1 ?k2 ?k3 ?k5 ?kA ?kF ?kK ?k6 ?k7 ?k8 ?k9 ?kB ?_ ?c2 ?c3 ?c4 ?c5; walk_at "mine enter")
  (k_with "ret" => first | exact q_form | exact p_form | exact a_form | with_reducible rfl | fail)
  k_steps

end
section
theorem mulOk {a b : Int} (m n : Nat) (ha : a.natAbs ≤ 2 ^ m) (hb : b.natAbs ≤ 2 ^ n) (h : m + n ≤ 5000) : IntMulOk a b := by
  refine IntMulOk.of_le (m := m + 1) (n := n + 1) (intBits_le_iff.mpr ?_) (intBits_le_iff.mpr ?_) (by omega)
  · rw [Nat.pow_succ]; have := Nat.two_pow_pos m; omega
  · rw [Nat.pow_succ]; have := Nat.two_pow_pos n; omega
section
variable {form : Nat} {x b k ab be to : Int} {j : Nat}
/-- what the loop of _law_piece keeps -/
structure PieceI (form : Nat) (x b : Int) (j : Nat) (ab be to : Int) : Prop where
  p : ab = pP form x b j
  q : be = pQ form x b j
  t : to = pT form x b j
structure PieceR (x b : Int) : Prop where
  b1 : 1 ≤ b
  x1 : 2 ≤ x
  x2 : x ≤ 7
theorem mul_ab (I : PieceI form x b j ab be to) (R : PieceR x b) (hk : k = b + (j : Int)) (hj : b + j ≤ 20) (hn : j ≤ 12) : IntMulOk ab (tP form x k) := by
  rw [I.p]
  exact mulOk _ _ (pP_le R.b1 R.x1 R.x2 (by omega)) (tP_le (by have := R.b1; omega) (by omega)) (by omega)
theorem mul_be (I : PieceI form x b j ab be to) (R : PieceR x b) (hk : k = b + (j : Int)) (hj : b + j ≤ 20) (hn : j ≤ 12) : IntMulOk be (tQ form x k) := by
  rw [I.q]
  exact mulOk _ _ (pQ_le R.b1 R.x1 R.x2 (by omega)).2 (tQ_le (by have := R.b1; omega) (by omega) R.x1 R.x2).2 (by omega)
theorem mul_to (I : PieceI form x b j ab be to) (R : PieceR x b) (hk : k = b + (j : Int)) (hj : b + j ≤ 20) (hn : j ≤ 12) : IntMulOk to (tQ form x k) := by
  rw [I.t]
  exact mulOk _ _ (pT_le' R.b1 R.x1 R.x2 (by omega) hn) (tQ_le (by have := R.b1; omega) (by omega) R.x1 R.x2).2 (by omega)
theorem mul_a (I : PieceI form x b j ab be to) (R : PieceR x b) (hk : k = b + (j : Int)) (hj : b + j ≤ 20) (hn : j ≤ 12) : IntMulOk (tA form x k) (ab * tP form x k) := by
  rw [I.p]
  refine mulOk 34 (70 * j + 70) (tA_le (by have := R.b1; omega) (by omega)).2 ?_ (by omega)
  rw [Int.natAbs_mul, Nat.pow_add]
  exact Nat.mul_le_mul (pP_le R.b1 R.x1 R.x2 (by omega)) (tP_le (by have := R.b1; omega) (by omega))
theorem piece_start : PieceI form x b 0 1 1 0 := ⟨rfl, rfl, rfl⟩
theorem piece_step (I : PieceI form x b j ab be to) (hk : k = b + (j : Int)) : PieceI form x b (j + 1) (ab * tP form x k) (be * tQ form x k) (to * tQ form x k + tA form x k * (ab * tP form x k)) := by
  obtain ⟨rfl, rfl, rfl⟩ := I
  subst hk
  exact ⟨rfl, rfl, rfl⟩
end
end
local macro_rules | `(tactic| mul_fits) => `(tactic| k_extra "mul")
section

theorem c_term (f : Nat) (hf3 : f = 0 ∨ f = 1 ∨ f = 2) (w : World) (x k : Int) (tf tx tk₀ : Tok) (hx : 2 ≤ x) (hx2 : x ≤ 7) (hk1 : 1 ≤ k) (hk2 : k ≤ 20) :
    CT w 1 231 [.int (f : Int) tf, .int x tx, .int k tk₀] (fun _ => True) (RetI (tP f x k) (tQ f x k) (tA f x k)) := by
  rcases hf3 with rfl | rfl | rfl
  · exact c_term0 w x k tf tx tk₀ hx hx2 hk1 hk2
  · exact c_term1 w x k tf tx tk₀ hx hx2 hk1 hk2
  · exact c_term2 w x k tf tx tk₀ hx hx2 hk1 hk2
theorem c_lpiece (f : Nat) (hf3 : f = 0 ∨ f = 1 ∨ f = 2) (w : World) (x b e : Int) (n : Nat) (tf tx tb te : Tok) (hx : 2 ≤ x) (hx2 : x ≤ 7) (he : e = b + n) (hb : 1 ≤ b) (he2 : e ≤ 21) (hn : n ≤ 12) :
    CT w 2 238 [.int (f : Int) tf, .int x tx, .int b tb, .int e te] (fun _ => True) (RetI (pP f x b n) (pQ f x b n) (pT f x b n)) := by
  unfold CT
  w_top off
  k_with_none
  (k_with "m mine enter" => ((case kA => exact rfl); (case kF => exact rfl); (case kK => assumption); (case k1 => k_asm); (case k2 => k_asm); (case k3 => k_asm); (case k5 => k_asm); (case k6 => k_is); (case k7 => k_is); (case k8 => ktr_room); (case k9 => exact BindsTo.of_eq rfl); (case c5 => decide); (case kB => exact locs rfl); (case c2 => exact rfl); (case c3 => exact rfl); (case c4 => exact rfl); k_whole; intro L' h' F' N' B' X' T'; (try dsimp only); (try k_fold)))
  (k_with "m close" => ((rename News _ _ _ _ => nE'); (try simp only [List.push_toArray] at nE'); refine' retL_of ?h_z9 ?F_z9 ?N_z9 ?m_z9 ?i_z9 ?e_z9; (case h_z9 => assumption); (case N_z9 => exact nE'); (case F_z9 => assumption); (case m_z9 => k_mem); (case i_z9 => first | with_reducible assumption | exact IntsAre.cons _ _ IntsAre.nil | k_intsEnd); (case e_z9 => k_extra "ret")))
  (k_with "m close" => (refine' retV_of _ ?h_z9 ?F_z9 ?e_z9; (case h_z9 => assumption); (case F_z9 => assumption); (case e_z9 => first | rfl | k_extra "ret")))
  (k_with "m exec" => ((with_reducible show wpAny _ _ (exec (PySem.Stmt.While _ _ _ _) _) _ _ _); k_extra "mine while"))
  (k_with "m mine num" => first | with_reducible assumption | k_extra "num")
  (k_with "m call ref" => (k_here; (with_reducible show wpAny _ _ (call (Value.ref 67) _) _ _ _); k_dflt (refine' ct_list (r_add ?ia_z9 ?ib_z9 ?x_z9 ?y_z9 ?hw_z9 ?hw2_z9) ?B_z9 ?F_z9 ?X_z9 ?T_z9 ?k_z9 ?N_z9 ?p_z9 ?d_z9 ?u_z9 ?_; (case B_z9 => k_asm); (case F_z9 => k_asm); (case X_z9 => k_asm); (case T_z9 => k_asm); (case k_z9 => first | exact rfl | assumption); (case N_z9 => k_asm); (case p_z9 => exact ⟨by kmk_list, by kmk_list⟩); (case ia_z9 => l_ints); (case ib_z9 => l_ints); (case x_z9 => walk_at "mine num"); (case y_z9 => walk_at "mine num"); (case hw_z9 => assumption); (case hw2_z9 => assumption); (case d_z9 => ktr_room); (case u_z9 => ktr_units)); intro l9 us9 c9 h9 tk9 F9 N9 ne9 I9; (try dsimp only); (try k_fold)))
  (k_with "m call ref" => (k_here; (with_reducible show wpAny _ _ (call (Value.ref 203) _) _ _ _); k_dflt (refine' ct_list (r_mul ?ia_z9 ?ib_z9 ?x_z9 ?y_z9 ?hw_z9 ?hw2_z9) ?B_z9 ?F_z9 ?X_z9 ?T_z9 ?k_z9 ?N_z9 ?p_z9 ?d_z9 ?u_z9 ?_; (case B_z9 => k_asm); (case F_z9 => k_asm); (case X_z9 => k_asm); (case T_z9 => k_asm); (case k_z9 => first | exact rfl | assumption); (case N_z9 => k_asm); (case p_z9 => exact ⟨by kmk_list, by kmk_list⟩); (case ia_z9 => l_ints); (case ib_z9 => l_ints); (case x_z9 => walk_at "mine num"); (case y_z9 => walk_at "mine num"); (case hw_z9 => assumption); (case hw2_z9 => assumption); (case d_z9 => ktr_room); (case u_z9 => ktr_units)); intro l9 us9 c9 h9 tk9 F9 N9 ne9 I9; (try dsimp only); (try k_fold)))
  (k_with "m call ref" => (k_here; (with_reducible show wpAny _ _ (call (Value.ref 74) _) _ _ _); k_dflt (refine' ct_list (r_sub ?ia_z9 ?ib_z9 ?x_z9 ?y_z9 ?hw_z9 ?hw2_z9 ?hle_z9) ?B_z9 ?F_z9 ?X_z9 ?T_z9 ?k_z9 ?N_z9 ?p_z9 ?d_z9 ?u_z9 ?_; (case B_z9 => k_asm); (case F_z9 => k_asm); (case X_z9 => k_asm); (case T_z9 => k_asm); (case k_z9 => first | exact rfl | assumption); (case N_z9 => k_asm); (case p_z9 => exact ⟨by kmk_list, by kmk_list⟩); (case ia_z9 => l_ints); (case ib_z9 => l_ints); (case x_z9 => walk_at "mine num"); (case y_z9 => walk_at "mine num"); (case hw_z9 => assumption); (case hw2_z9 => assumption); (case d_z9 => ktr_room); (case u_z9 => ktr_units); (case hle_z9 => first | assumption | k_extra "le")); intro l9 us9 c9 h9 tk9 F9 N9 ne9 I9; (try dsimp only); (try k_fold)))
  (k_with "m call ref" => (k_here; (with_reducible show wpAny _ _ (call (Value.ref 53) _) _ _ _); k_dflt (refine' ct_list (r_nat ?x_z9 ?hw_z9 ?hw2_z9) ?B_z9 ?F_z9 ?X_z9 ?T_z9 ?k_z9 ?N_z9 ?p_z9 ?d_z9 ?u_z9 ?_; (case B_z9 => k_asm); (case F_z9 => k_asm); (case X_z9 => k_asm); (case T_z9 => k_asm); (case k_z9 => first | exact rfl | assumption); (case N_z9 => k_asm); (case p_z9 => exact True.intro); (case x_z9 => walk_at "mine num"); (case hw_z9 => assumption); (case hw2_z9 => assumption); (case d_z9 => ktr_room); (case u_z9 => ktr_units)); intro l9 us9 c9 h9 tk9 F9 N9 ne9 I9; (try dsimp only); (try k_fold)))
  (k_with "m call ref" => (k_here; (with_reducible show wpAny _ _ (call (Value.ref 60) _) _ _ _); k_dflt (refine' ct_val (r_cmp (wv := ?wv_z9) ?ia_z9 ?ib_z9 ?x_z9 ?y_z9 ?hw_z9) ?B_z9 ?F_z9 ?X_z9 ?T_z9 ?k_z9 ?N_z9 ?p_z9 ?d_z9 ?u_z9 ?_; (case B_z9 => k_asm); (case F_z9 => k_asm); (case X_z9 => k_asm); (case T_z9 => k_asm); (case k_z9 => first | exact rfl | assumption); (case N_z9 => k_asm); (case p_z9 => exact ⟨by kmk_list, by kmk_list⟩); (case ia_z9 => l_ints); (case ib_z9 => l_ints); (case x_z9 => walk_at "mine num"); (case y_z9 => walk_at "mine num"); (case hw_z9 => assumption); (case d_z9 => ktr_room); (case u_z9 => ktr_units)); intro t9 h9 tk9 F9 N9; (try dsimp only); (try k_fold)))
  (k_with "m close" => ((rename News _ _ _ _ => nE'); refine' retS_of ?h_z9 ?F_z9 ?N_z9 ?t_z9 ?m_z9 ?i_z9 ?eb_z9 ?e_z9; (case h_z9 => assumption); (case N_z9 => exact nE'); (case F_z9 => assumption); (case t_z9 => k_mem); (case m_z9 => k_mem); (case i_z9 => l_ints); (case eb_z9 => k_extra "sign"); (case e_z9 => first | rfl | k_extra "ret")))
  (k_with "m subscriptTail" => (k_here; (with_reducible show wpAny _ _ (subscriptTail _ _ (Value.ref _) (Value.int _ _)) _ _ _); k_dflt (refine' item_tupleT (IsTup.keeps (by with_reducible assumption) (Fr.keep (by k_asm))) ?a_z9 ?b_z9 ?c_z9 ?d_z9 ?_; (case a_z9 => decide); (case b_z9 => decide); (case c_z9 => rfl); (case d_z9 => rfl); k_whole)))
  (k_with "m close" => ((rename News _ _ _ _ => nE'); refine' retT_of ?h_z9 ?F_z9 ?N_z9 ?t_z9 ?e_z9; (case h_z9 => assumption); (case N_z9 => exact nE'); (case F_z9 => assumption); (case t_z9 => k_mem); (case e_z9 => first | rfl | k_extra "ret")))
  (k_with "m call ref" => (k_here; (with_reducible show wpAny _ _ (call (Value.ref 81) _) _ _ _); k_dflt (refine' ct_list (c_prod _ _ ?hw_z9 ?hw2_z9 _ _ _ _ _ rfl ?ia_z9 ?cn_z9 ?l20_z9) ?B_z9 ?F_z9 ?X_z9 ?T_z9 ?k_z9 ?N_z9 ?p_z9 ?d_z9 ?u_z9 ?_; (case B_z9 => k_asm); (case F_z9 => k_asm); (case X_z9 => k_asm); (case T_z9 => k_asm); (case k_z9 => first | exact rfl | assumption); (case N_z9 => k_asm); (case p_z9 => kmk_list); (case ia_z9 => first | exact (IntsAre.cons _ _ (IntsAre.cons _ _ (IntsAre.cons _ _ IntsAre.nil))) | exact (IntsAre.cons _ _ (IntsAre.cons _ _ (IntsAre.cons _ _ (IntsAre.cons _ _ (IntsAre.cons _ _ (IntsAre.cons _ _ (IntsAre.cons _ _ (IntsAre.cons _ _ (IntsAre.cons _ _ (IntsAre.cons _ _ (IntsAre.cons _ _ (IntsAre.cons _ _ (IntsAre.cons _ _ (IntsAre.cons _ _ IntsAre.nil)))))))))))))) | exact IntsAre.append (IntsAre.cons _ _ (IntsAre.cons _ _ (IntsAre.cons _ _ IntsAre.nil))) (by l_ints)  | exact IntsAre.append (IntsAre.cons _ _ (IntsAre.cons _ _ (IntsAre.cons _ _ IntsAre.nil))) (IntsAre.cons _ _ (IntsAre.cons _ _ (IntsAre.cons _ _ (IntsAre.cons _ _ (IntsAre.cons _ _ (IntsAre.cons _ _ (IntsAre.cons _ _ (IntsAre.cons _ _ (IntsAre.cons _ _ (IntsAre.cons _ _ (IntsAre.cons _ _ IntsAre.nil))))))))))) | fail); (case hw_z9 => assumption); (case hw2_z9 => assumption); (case cn_z9 => k_extra "cnt"); (case l20_z9 => exact Nat.le_of_ble_eq_true rfl); (case d_z9 => ((simp only [List.length_cons, List.length_nil]); ktr_room)); (case u_z9 => ((simp only [List.length_cons, List.length_nil]); ktr_units))); intro l9 us9 c9 h9 tk9 F9 N9 ne9 I9; (try dsimp only); (try k_fold)))
  (k_with "m call ref" => (k_here; (with_reducible show wpAny _ _ (call (Value.ref 112) _) _ _ _); k_dflt (first | refine' ct_list (c_of_groups103 _ _ _ ?hw_z9 ?hw2_z9) ?B_z9 ?F_z9 ?X_z9 ?T_z9 ?k_z9 ?N_z9 ?p_z9 ?d_z9 ?u_z9 ?_ | refine' ct_list (c_of_groups104 _ _ _ ?hw_z9 ?hw2_z9) ?B_z9 ?F_z9 ?X_z9 ?T_z9 ?k_z9 ?N_z9 ?p_z9 ?d_z9 ?u_z9 ?_); (case B_z9 => k_asm); (case F_z9 => k_asm); (case X_z9 => k_asm); (case T_z9 => k_asm); (case k_z9 => first | exact rfl | assumption); (case N_z9 => k_asm); (case p_z9 => exact True.intro); (case hw_z9 => assumption); (case hw2_z9 => assumption); (case d_z9 => ktr_room); (case u_z9 => ktr_units); intro l9 us9 c9 h9 tk9 F9 N9 ne9 I9; (try dsimp only); (try k_fold)))
  (k_with "m getAttr ref" => (k_here; k_dflt (refine' get_own ?k1_z9 ?k2_z9 (inst_base (Fr.keep (by k_asm)) (by with_reducible assumption) (by with_reducible assumption)) ?k4_z9 ?k5_z9 ?k6_z9 ?k7_z9 ?k8_z9 ?k9_z9 ?_; (case k1_z9 => k_asm); (case k2_z9 => k_asm); (case k4_z9 => k_is); (case k5_z9 => k_is); (case k6_z9 => k_is); (case k7_z9 => k_is); (case k8_z9 => k_get); (case k9_z9 => k_handed); k_whole)))
  (k_with "m close" => ((rename News _ _ _ _ => nE'); (try simp only [List.push_toArray] at nE'); refine' retA_of ?h_z9 ?F_z9 ?N_z9 ?t_z9 ?ma_z9 ?mb_z9 ?mf_z9 ?ia_z9 ?ib_z9 ?ig_z9 ?ea_z9 ?eb_z9 ?ef_z9; (case h_z9 => assumption); (case N_z9 => exact nE'); (case F_z9 => assumption); (case t_z9 => k_mem); (case ma_z9 => k_mem); (case mb_z9 => k_mem); (case mf_z9 => k_mem); (case ia_z9 => first | with_reducible assumption | exact IntsAre.cons _ _ IntsAre.nil); (case ib_z9 => first | with_reducible assumption | exact IntsAre.cons _ _ IntsAre.nil); (case ig_z9 => first | with_reducible assumption | exact IntsAre.cons _ _ IntsAre.nil); (case ea_z9 => k_extra "ret"); (case eb_z9 => k_extra "ret"); (case ef_z9 => k_extra "ret")))
  (k_with "m call ref" => (k_here; (with_reducible show wpAny _ _ (call (Value.ref 88) _) _ _ _); k_dflt (refine' ct_tup (r_signed (wv := ?wv_z9) ?ia_z9 ?x_z9 ?hw_z9) ?B_z9 ?F_z9 ?X_z9 ?T_z9 ?k_z9 ?N_z9 ?p_z9 ?d_z9 ?u_z9 ?_; (case B_z9 => k_asm); (case F_z9 => k_asm); (case X_z9 => k_asm); (case T_z9 => k_asm); (case k_z9 => first | exact rfl | assumption); (case N_z9 => k_asm); (case p_z9 => kmk_list); (case ia_z9 => l_ints); (case x_z9 => walk_at "mine num"); (case hw_z9 => assumption); (case d_z9 => ktr_room); (case u_z9 => ktr_units)); intro t9 h9 tk9 F9 N9 ne9; (try dsimp only); (try k_fold)))
  (k_with "m call ref" => (k_here; (with_reducible show wpAny _ _ (call (Value.ref 102) _) _ _ _); k_dflt (refine' ct_sgn (c_smul _ _ _ _ _ _ _ _ _ ?x_z9 ?y_z9 ?xy_z9 ?hw_z9 ?hw2_z9) ?B_z9 ?F_z9 ?X_z9 ?T_z9 ?k_z9 ?N_z9 ?p_z9 ?d_z9 ?u_z9 ?_; (case B_z9 => k_asm); (case F_z9 => k_asm); (case X_z9 => k_asm); (case T_z9 => k_asm); (case k_z9 => first | exact rfl | assumption); (case N_z9 => k_asm); (case p_z9 => exact ⟨⟨_, _, _, News.get (by k_asm) (by k_mem), News.get (by k_asm) (by k_mem), by l_ints⟩, ⟨_, _, _, News.get (by k_asm) (by k_mem), News.get (by k_asm) (by k_mem), by l_ints⟩⟩); (case x_z9 => walk_at "mine num"); (case y_z9 => walk_at "mine num"); (case xy_z9 => walk_at "mine num"); (case hw_z9 => assumption); (case hw2_z9 => assumption); (case d_z9 => ktr_room); (case u_z9 => ktr_units)); intro t9 l9 us9 c9 h9 tk9 F9 N9 ne9 ne9' I9; (try dsimp only); (try k_fold)))
  (k_with "m call ref" => (k_here; (with_reducible show wpAny _ _ (call (Value.ref 95) _) _ _ _); k_dflt (refine' ct_sgn (c_sadd _ _ _ _ _ _ _ _ _ ?x_z9 ?y_z9 ?xy_z9 ?hw_z9 ?hw2_z9) ?B_z9 ?F_z9 ?X_z9 ?T_z9 ?k_z9 ?N_z9 ?p_z9 ?d_z9 ?u_z9 ?_; (case B_z9 => k_asm); (case F_z9 => k_asm); (case X_z9 => k_asm); (case T_z9 => k_asm); (case k_z9 => first | exact rfl | assumption); (case N_z9 => k_asm); (case p_z9 => exact ⟨⟨_, _, _, News.get (by k_asm) (by k_mem), News.get (by k_asm) (by k_mem), by l_ints⟩, ⟨_, _, _, News.get (by k_asm) (by k_mem), News.get (by k_asm) (by k_mem), by l_ints⟩⟩); (case x_z9 => walk_at "mine num"); (case y_z9 => walk_at "mine num"); (case xy_z9 => walk_at "mine num"); (case hw_z9 => assumption); (case hw2_z9 => assumption); (case d_z9 => ktr_room); (case u_z9 => ktr_units)); intro t9 l9 us9 c9 h9 tk9 F9 N9 ne9 ne9' I9; (try dsimp only); (try k_fold)))
  (k_with "m call ref" => (k_here; k_dflt (first | (with_reducible show wpAny _ _ (call (Value.ref 126) _) _ _ _); refine' ct_at (c_at0 _ _ _ 0 _ _ _ ?hw_z9 ?hw2_z9 ?k1_z9 ?k2_z9) ?B_z9 ?F_z9 ?X_z9 ?T_z9 ?k_z9 ?N_z9 ?p_z9 ?d_z9 ?u_z9 ?_ | (with_reducible show wpAny _ _ (call (Value.ref 175) _) _ _ _); refine' ct_at (c_at2 _ _ _ 0 _ _ _ ?hw_z9 ?hw2_z9 ?k1_z9 ?k2_z9) ?B_z9 ?F_z9 ?X_z9 ?T_z9 ?k_z9 ?N_z9 ?p_z9 ?d_z9 ?u_z9 ?_); (case B_z9 => k_asm); (case F_z9 => k_asm); (case X_z9 => k_asm); (case T_z9 => k_asm); (case k_z9 => first | exact rfl | assumption); (case N_z9 => k_asm); (case p_z9 => k_extra "ser"); (case k1_z9 => omega); (case k2_z9 => omega); (case hw_z9 => assumption); (case hw2_z9 => assumption); (case d_z9 => ktr_room); (case u_z9 => ktr_units); intro t9 la9 lb9 lf9 va9 vb9 vf9 ca9 cb9 cf9 h9 tk9 F9 N9 Ia9 Ib9 If9; (try dsimp only); (try k_fold)))
  (k_with "m call ref" => (k_here; (with_reducible show wpAny _ _ (call (Value.ref 154) _) _ _ _); k_dflt (refine' ct_at (c_at1' ?x1_z9 ?hw_z9 ?hw2_z9 ?k1_z9 ?k2_z9) ?B_z9 ?F_z9 ?X_z9 ?T_z9 ?k_z9 ?N_z9 ?p_z9 ?d_z9 ?u_z9 ?_; (case B_z9 => k_asm); (case F_z9 => k_asm); (case X_z9 => k_asm); (case T_z9 => k_asm); (case k_z9 => first | exact rfl | assumption); (case N_z9 => k_asm); (case x1_z9 => with_reducible assumption); (case p_z9 => k_extra "ser"); (case k1_z9 => omega); (case k2_z9 => omega); (case hw_z9 => assumption); (case hw2_z9 => assumption); (case d_z9 => ktr_room); (case u_z9 => ktr_units)); intro t9 la9 lb9 lf9 va9 vb9 vf9 ca9 cb9 cf9 h9 tk9 F9 N9 Ia9 Ib9 If9; (try dsimp only); (try k_fold)))
  (k_with "m getMethod ref" => (k_here; k_dflt (refine' method_inst ?k1_z9 ?k2_z9 (inst_base (Fr.keep (by k_asm)) (by with_reducible assumption) (by with_reducible assumption)) ?k4_z9 ?k5_z9 ?k6_z9 ?k7_z9 ?_; (case k1_z9 => k_asm); (case k2_z9 => k_asm); (case k4_z9 => k_is); (case k5_z9 => k_is); (case k6_z9 => k_is); (case k7_z9 => k_get); k_whole)))
  (k_with "m close" => ((rename News _ _ _ _ => nE'); (try simp only [List.push_toArray] at nE'); refine' retP_of ?h_z9 ?F_z9 ?N_z9 ?t_z9 ?t1_z9 ?t3_z9 ?h1_z9 ?h2_z9 ?h3_z9 ?i1_z9 ?i2_z9 ?i3_z9 ?e1_z9 ?e3_z9 ?q1_z9 ?q2_z9 ?q3_z9; (case h_z9 => assumption); (case N_z9 => exact nE'); (case F_z9 => assumption); (case t_z9 => k_mem); (case t1_z9 => k_mem); (case t3_z9 => k_mem); (case h1_z9 => k_mem); (case h2_z9 => k_mem); (case h3_z9 => k_mem); (case i1_z9 => first | with_reducible assumption | exact IntsAre.cons _ _ IntsAre.nil | exact IntsAre.nil); (case i2_z9 => first | with_reducible assumption | exact IntsAre.cons _ _ IntsAre.nil | exact IntsAre.nil); (case i3_z9 => first | with_reducible assumption | exact IntsAre.cons _ _ IntsAre.nil | exact IntsAre.nil); (case e1_z9 => k_extra "sign"); (case e3_z9 => k_extra "sign"); (case q1_z9 => k_extra "ret"); (case q2_z9 => k_extra "ret"); (case q3_z9 => k_extra "ret")))
  (k_with "m close" => ((rename News _ _ _ _ => nE'); refine' retF_of ?h_z9 ?F_z9 ?N_z9 ?t_z9 ?h1_z9 ?h2_z9 ?i1_z9 ?i2_z9 ?q1_z9 ?q2_z9; (case h_z9 => assumption); (case N_z9 => exact nE'); (case F_z9 => assumption); (case t_z9 => k_mem); (case h1_z9 => k_mem); (case h2_z9 => k_mem); (case i1_z9 => first | with_reducible assumption | exact IntsAre.cons _ _ IntsAre.nil | exact IntsAre.nil); (case i2_z9 => first | with_reducible assumption | exact IntsAre.cons _ _ IntsAre.nil | exact IntsAre.nil); (case q1_z9 => k_extra "ret"); (case q2_z9 => k_extra "ret")))
  (k_with "m close" => ((rename News _ _ _ _ => nE'); refine' retI_of ?h_z9 ?F_z9 ?N_z9 ?t_z9 ?q1_z9 ?q2_z9 ?q3_z9; (case h_z9 => assumption); (case N_z9 => exact nE'); (case F_z9 => assumption); (case t_z9 => k_mem); (case q1_z9 => k_extra "ret"); (case q2_z9 => k_extra "ret"); (case q3_z9 => k_extra "ret")))
  (k_with "m call ref" => (k_here; (with_reducible show wpAny _ _ (call (Value.ref 217) _) _ _ _); k_dflt (refine' ct_list (r_lrow ?x_z9 ?hw_z9 ?hw2_z9) ?B_z9 ?F_z9 ?X_z9 ?T_z9 ?k_z9 ?N_z9 ?p_z9 ?d_z9 ?u_z9 ?_; (case B_z9 => k_asm); (case F_z9 => k_asm); (case X_z9 => k_asm); (case T_z9 => k_asm); (case k_z9 => first | exact rfl | assumption); (case N_z9 => k_asm); (case p_z9 => exact True.intro); (case x_z9 => walk_at "mine num"); (case hw_z9 => assumption); (case hw2_z9 => assumption); (case d_z9 => ktr_room); (case u_z9 => ktr_units)); intro l9 us9 c9 h9 tk9 F9 N9 ne9 I9; (try dsimp only); (try k_fold)))
  (k_with "m eval Call" => ((with_reducible show wpAny _ _ (eval (PySem.Expr.Call (PySem.Expr.Name _ _) _ [] _) _) _ _ _); k_dflt (refine Call_ ?_)))
  k_fill
  intro pp lo mean mg mb dp un gd cn cs a ccd cl outer A₀ base h₀ L m s Q E B F X T hk hP hd hu hret
  have hR : PieceR x b := ⟨hb, hx, hx2⟩
  have hlen : (rangeKs b (e - b).toNat).length = n := by rw [rangeKs_length]; omega
  refine wpAny_call ?_
  k_dflt (refine' enter0 (binds := [(Str.ofString "form", .int (f : Int) tf), (Str.ofString "x", .int x tx), (Str.ofString "begin", .int b tb), (Str.ofString "end", .int e te)]) ?k1 ?k2 ?k3 ?k5 ?kA ?kF ?kK ?k6 ?k7 ?k8 ?k9 ?kB ?_ ?c2 ?c3 ?c4 ?c5; walk_at "mine enter")
  (k_with "call ref" => (with_reducible show wpAny _ _ (call (Value.ref 231) _) _ _ _); k_dflt (refine' ct_ints (c_term f hf3 w x kN _ _ _ hx hx2 (by omega) (by omega)) ?q9B ?q9F ?q9X ?q9T ?q9k ?q9N ?q9p ?q9d ?q9u ?_; (case q9B => k_asm); (case q9F => k_asm); (case q9X => k_asm); (case q9T => k_asm); (case q9k => first | exact rfl | assumption); (case q9N => k_asm); (case q9p => exact True.intro); (case q9d => ktr_room); (case q9u => ktr_units)); intro t9 t91 t92 t93 h9 tk9 F9 N9 ne9; (try dsimp only); (try k_fold))
  (k_with "pyIter ref" =>
    first
    | k_state (fun pre ab be to => PieceI f x b pre.length ab be to) "above" "below" "told"
    | fail)
  (k_with "state" =>
    first
    | (simp only [List.length_nil]; exact piece_start)
    | (simp only [List.length_append, List.length_cons, List.length_nil]; exact piece_step (by with_reducible assumption) (by with_reducible assumption))
    | fail)
  (k_with "mul" =>
    first
    | exact mul_ab (by with_reducible assumption) hR (by with_reducible assumption) (by omega) (by omega)
    | exact mul_be (by with_reducible assumption) hR (by with_reducible assumption) (by omega) (by omega)
    | exact mul_to (by with_reducible assumption) hR (by with_reducible assumption) (by omega) (by omega)
    | exact mul_a (by with_reducible assumption) hR (by with_reducible assumption) (by omega) (by omega)
    | fail)
  (k_with "ret" =>
    first
    | exact (PieceI.p (by with_reducible assumption)).trans (by rw [hlen])
    | exact (PieceI.q (by with_reducible assumption)).trans (by rw [hlen])
    | exact (PieceI.t (by with_reducible assumption)).trans (by rw [hlen])
    | fail)
  k_steps
theorem c_lpiece0 (w : World) (x b e : Int) (n : Nat) (tf tx tb te : Tok) (hx : 2 ≤ x) (hx2 : x ≤ 7) (he : e = b + n) (hb : 1 ≤ b) (he2 : e ≤ 21) (hn : n ≤ 12) :
    CT w 2 238 [.int 0 tf, .int x tx, .int b tb, .int e te] (fun _ => True) (RetI (pP 0 x b n) (pQ 0 x b n) (pT 0 x b n)) := c_lpiece 0 (.inl rfl) w x b e n tf tx tb te hx hx2 he hb he2 hn
theorem c_lpiece1 (w : World) (x b e : Int) (n : Nat) (tf tx tb te : Tok) (hx : 2 ≤ x) (hx2 : x ≤ 7) (he : e = b + n) (hb : 1 ≤ b) (he2 : e ≤ 21) (hn : n ≤ 12) :
    CT w 2 238 [.int 1 tf, .int x tx, .int b tb, .int e te] (fun _ => True) (RetI (pP 1 x b n) (pQ 1 x b n) (pT 1 x b n)) := c_lpiece 1 (.inr (.inl rfl)) w x b e n tf tx tb te hx hx2 he hb he2 hn
theorem c_lpiece2 (w : World) (x b e : Int) (n : Nat) (tf tx tb te : Tok) (hx : 2 ≤ x) (hx2 : x ≤ 7) (he : e = b + n) (hb : 1 ≤ b) (he2 : e ≤ 21) (hn : n ≤ 12) :
    CT w 2 238 [.int 2 tf, .int x tx, .int b tb, .int e te] (fun _ => True) (RetI (pP 2 x b n) (pQ 2 x b n) (pT 2 x b n)) := c_lpiece 2 (.inr (.inr rfl)) w x b e n tf tx tb te hx hx2 he hb he2 hn
end
section
theorem use_next {w : World} {pp : Program} {lo : List Str} {mean : ExcName → Option Value} {mg mb : Str → Option Value} {dp un : Nat} {gd : Option (List Code)} {cn : Str} {cs : Scope} {a : Addr} {ccd : Value} {cl : List (Str × Addr)} {outer : List Env} {A₀ : Around} {base h₀ : Heap} {L : Addr} {m : Str → Option Value} {s : Shared}
    {Q E : Value → Shared → Prop} {news : List (Addr × Obj)} {news' : Tok → List (Addr × Obj)} {rope sl : Addr} {i many : Int} {ti tm : Tok} {nn c : Nat} {us : List Value} {ns : List Int}
    (B : Below A₀ base outer h₀) (F : Fr h₀ L s.heap m) (X : (hd.heap_39 w.params).In h₀) (T : Top pp lo mean mg mb h₀) (hk : cs.kind = .function)
    (N : News h₀ L s.heap news) (U : ∀ t, Upd rope (listOf (List.toArray [Value.ref sl, Value.int i ti]) nn) (listOf (List.toArray [Value.ref sl, Value.int (i + 1) t]) nn) news (news' t)) (hsl : (sl, listOf (List.toArray us) c) ∈ news) (hne : @Ne Nat sl rope) (hI : IntsAre us ns) (hlen : ns.length ≤ 20)
    (hi0 : 0 ≤ i) (hi1 : i ≤ 20) (hm0 : 0 < many) (hm1 : many ≤ 8) (hd : dp + 1 < recursionLimit) (hu : un + 8 < cLine)
    (hret : ∀ v t t2 h' tk', 0 ≤ v → v < many → Fr h₀ L h' m → News h₀ L h' (news' t2) → Q (.int v t) { s with heap := h', toks := tk' }) :
    wpAny (model PySem.Challenge.rw_rr0055_01.row.prog w) (ktrTop dp un gd cn cs L a ccd cl outer) (call (.ref 210) [.ref rope, .int many tm]) Q E s := by
  obtain ⟨pre, post, e1, _, h1, h2⟩ := (U 0).split
  have hsub : ∀ p ∈ (rope, listOf (List.toArray [Value.ref sl, Value.int i ti]) nn) :: (sl, listOf (List.toArray us) c) :: (pre ++ post), p ∈ news := by
    intro p hp
    rcases List.mem_cons.mp hp with rfl | hp
    · rw [e1]; exact List.mem_append.mpr (.inr (.head _))
    · rcases List.mem_cons.mp hp with rfl | hp
      · exact hsl
      · rw [e1]
        rcases List.mem_append.mp hp with hp | hp
        · exact List.mem_append.mpr (.inl hp)
        · exact List.mem_append.mpr (.inr (.tail _ hp))
  refine c_next w B F X T hk (fun p hp => N p (hsub p hp)) (fun p hp => (List.mem_append.mp hp).elim (h1 p) (h2 p)) hne hI hlen hi0 hi1 hm0 hm1 hd hu ?_
  intro v t t2 h' tk' hv0 hv1 F' N'
  obtain ⟨pre2, post2, e3, e4, h3, h4⟩ := (U t2).split
  refine hret v t t2 h' tk' hv0 hv1 F' fun p hp => ?_
  have key : ∀ q ∈ pre ++ post, News h₀ L h' [q] := fun q hq r hr => by rw [List.mem_singleton.mp hr]; exact N' q (.tail _ (.tail _ hq))
  have hmem : ∀ q ∈ news, q.1 ≠ rope → q ∈ pre ++ post := by
    intro q hq hn
    rw [e1] at hq
    rcases List.mem_append.mp hq with hq | hq
    · exact List.mem_append.mpr (.inl hq)
    · rcases List.mem_cons.mp hq with rfl | hq
      · exact absurd rfl hn
      · exact List.mem_append.mpr (.inr hq)
  rw [e4] at hp
  rcases List.mem_append.mp hp with hp | hp
  · exact key p (hmem p (by rw [e3]; exact List.mem_append.mpr (.inl hp)) (h3 p hp)) p (.head _)
  · rcases List.mem_cons.mp hp with rfl | hp
    · exact N' _ (.head _)
    · exact key p (hmem p (by rw [e3]; exact List.mem_append.mpr (.inr (.tail _ hp))) (h4 p hp)) p (.head _)
end
section
structure FormIs (f : Nat) : Prop where
theorem formIs0 {v : Int} (_ : v = 0) : FormIs 0 := ⟨⟩
theorem formIs1 {v : Int} (_ : v = 1) : FormIs 1 := ⟨⟩
theorem formIs2 {v : Int} (_ : v = 2) : FormIs 2 := ⟨⟩
section
variable {w : World} {wv x b e z many : Int} {sx : Addr} {tf tx tb te tw tm tn : Tok}
theorem r_lpiece0 (hxr : XR x) (hbe : b ≤ e) (hb : 1 ≤ b) (he : e ≤ 21) (hn : e - b ≤ 12) : CT w 2 238 [.int 0 tf, .int x tx, .int b tb, .int e te] (fun _ => True) (RetI (pP 0 x b (e - b).toNat) (pQ 0 x b (e - b).toNat) (pT 0 x b (e - b).toNat)) :=
  c_lpiece0 w x b e (e - b).toNat tf tx tb te hxr.lo hxr.hi (by omega) hb he (by omega)
theorem r_lpiece1 (hxr : XR x) (hbe : b ≤ e) (hb : 1 ≤ b) (he : e ≤ 21) (hn : e - b ≤ 12) : CT w 2 238 [.int 1 tf, .int x tx, .int b tb, .int e te] (fun _ => True) (RetI (pP 1 x b (e - b).toNat) (pQ 1 x b (e - b).toNat) (pT 1 x b (e - b).toNat)) :=
  c_lpiece1 w x b e (e - b).toNat tf tx tb te hxr.lo hxr.hi (by omega) hb he (by omega)
theorem r_lpiece2 (hxr : XR x) (hbe : b ≤ e) (hb : 1 ≤ b) (he : e ≤ 21) (hn : e - b ≤ 12) : CT w 2 238 [.int 2 tf, .int x tx, .int b tb, .int e te] (fun _ => True) (RetI (pP 2 x b (e - b).toNat) (pQ 2 x b (e - b).toNat) (pT 2 x b (e - b).toNat)) :=
  c_lpiece2 w x b e (e - b).toNat tf tx tb te hxr.lo hxr.hi (by omega) hb he (by omega)
theorem ct_weak {d d' : Nat} {f : Addr} {vs : List Value} {Pre : Heap → Prop} {Post : Heap → Value → Heap → Prop} (h : CT w d f vs Pre Post) (hd : d ≤ d') : CT w d' f vs Pre Post := by
  intro pp lo mean mg mb dp un gd cn cs a ccd cl outer A₀ base h₀ L m s Q E B F X T hk hP hd1 hu1 hret
  exact h pp lo mean mg mb dp un gd cn cs a ccd cl outer A₀ base h₀ L m s Q E B F X T hk hP (by omega) (by omega) hret
theorem r_split0 (hw : 2 ≤ wv) (hw2 : wv ≤ 9) (hxr : XR x) (hbe : b ≤ e) (hb : 1 ≤ b) (he : e ≤ 21) (hn : e - b ≤ 12) : CT w 36 189 [.ref sx, .int b tb, .int e te, .int wv tw, .ref 203] (fun h => SerAt 0 x h sx) (RetP (2 ^ wv.toNat) (pP 0 x b (e - b).toNat) (pQ 0 x b (e - b).toNat) (pT 0 x b (e - b).toNat)) :=
  ct_weak (c_split0 w wv x hw hw2 hxr.lo hxr.hi (e - b).toNat b e sx tb te tw (by omega) hb he (by omega)) (by omega)
theorem r_split1 (hw : 2 ≤ wv) (hw2 : wv ≤ 9) (hxr : XR x) (hbe : b ≤ e) (hb : 1 ≤ b) (he : e ≤ 21) (hn : e - b ≤ 12) : CT w 36 189 [.ref sx, .int b tb, .int e te, .int wv tw, .ref 203] (fun h => SerAt 1 x h sx) (RetP (2 ^ wv.toNat) (pP 1 x b (e - b).toNat) (pQ 1 x b (e - b).toNat) (pT 1 x b (e - b).toNat)) :=
  ct_weak (c_split1 w wv x hw hw2 hxr.lo hxr.hi (e - b).toNat b e sx tb te tw (by omega) hb he (by omega)) (by omega)
theorem r_split2 (hw : 2 ≤ wv) (hw2 : wv ≤ 9) (hxr : XR x) (hbe : b ≤ e) (hb : 1 ≤ b) (he : e ≤ 21) (hn : e - b ≤ 12) : CT w 36 189 [.ref sx, .int b tb, .int e te, .int wv tw, .ref 203] (fun h => SerAt 2 x h sx) (RetP (2 ^ wv.toNat) (pP 2 x b (e - b).toNat) (pQ 2 x b (e - b).toNat) (pT 2 x b (e - b).toNat)) :=
  ct_weak (c_split2 w wv x hw hw2 hxr.lo hxr.hi (e - b).toNat b e sx tb te tw (by omega) hb he (by omega)) (by omega)
theorem r_frac0 (hw : 2 ≤ wv) (hw2 : wv ≤ 9) (hxr : XR x) (h0 : 0 ≤ many) (h4 : many ≤ 4) : CT w 32 196 [.ref sx, .int many tm, .int wv tw, .ref 203] (fun h => SerAt 0 x h sx) (RetF (2 ^ wv.toNat) (pQ 0 x 1 (many + 1 - 1).toNat + pT 0 x 1 (many + 1 - 1).toNat) (pQ 0 x 1 (many + 1 - 1).toNat)) :=
  c_frac0 w wv x hw hw2 hxr.lo hxr.hi (many + 1 - 1).toNat (by omega) many (by omega) sx tm tw
theorem r_frac1 (hw : 2 ≤ wv) (hw2 : wv ≤ 9) (hxr : XR x) (h0 : 0 ≤ many) (h4 : many ≤ 4) : CT w 32 196 [.ref sx, .int many tm, .int wv tw, .ref 203] (fun h => SerAt 1 x h sx) (RetF (2 ^ wv.toNat) (pQ 1 x 1 (many + 1 - 1).toNat + pT 1 x 1 (many + 1 - 1).toNat) (pQ 1 x 1 (many + 1 - 1).toNat)) :=
  c_frac1 w wv x hw hw2 hxr.lo hxr.hi (many + 1 - 1).toNat (by omega) many (by omega) sx tm tw
theorem r_frac2 (hw : 2 ≤ wv) (hw2 : wv ≤ 9) (hxr : XR x) (h0 : 0 ≤ many) (h4 : many ≤ 4) : CT w 32 196 [.ref sx, .int many tm, .int wv tw, .ref 203] (fun h => SerAt 2 x h sx) (RetF (2 ^ wv.toNat) (pQ 2 x 1 (many + 1 - 1).toNat + pT 2 x 1 (many + 1 - 1).toNat) (pQ 2 x 1 (many + 1 - 1).toNat)) :=
  c_frac2 w wv x hw hw2 hxr.lo hxr.hi (many + 1 - 1).toNat (by omega) many (by omega) sx tm tw
theorem r_lsigned (hz : Num (z.natAbs : Int)) (hw : 2 ≤ wv) (hw2 : wv ≤ 9) : CT w 2 224 [.int z tn, .int wv tw] (fun _ => True) (RetS (2 ^ wv.toNat) (decide (z < 0)) (z.natAbs : Int)) := c_lsigned w z wv tn tw hz hw hw2
theorem num_pP {form n : Nat} (hxr : XR x) (hb : 1 ≤ b) (h : b + n ≤ 21) (hn : n ≤ 12) : Num ((pP form x b n).natAbs : Int) := num_abs _ (pP_le hb hxr.lo hxr.hi h) (by omega)
theorem num_pT {form n : Nat} (hxr : XR x) (hb : 1 ≤ b) (h : b + n ≤ 21) (hn : n ≤ 12) : Num ((pT form x b n).natAbs : Int) := num_abs _ (pT_le' hb hxr.lo hxr.hi h hn) (by omega)
theorem num_pQ {form n : Nat} (hxr : XR x) (hb : 1 ≤ b) (h : b + n ≤ 21) (hn : n ≤ 12) : Num (pQ form x b n) := by
  have h1 := pQ_le (form := form) hb hxr.lo hxr.hi h
  have h2 := num_abs _ h1.2 (by omega)
  rwa [show ((pQ form x b n).natAbs : Int) = pQ form x b n by omega] at h2
theorem num_QT {form n : Nat} (hf : form ≤ 2) (hxr : XR x) (hn : n ≤ 4) : Num (pQ form x 1 n + pT form x 1 n) := by
  have h1 := pQ_le (form := form) (b := 1) (by omega) hxr.lo hxr.hi (n := n) (by omega)
  have h2 := pT_le' (form := form) (b := 1) (by omega) hxr.lo hxr.hi (n := n) (by omega) (by omega)
  have h3 := frac_nn hf hxr.lo hxr.hi hn
  have h := num_sumA (z₂ := 1) (z₄ := 1) _ 0 _ 0 (70 * n + 38) h1.2 (by decide) h2 (by decide) (by omega) (by omega) (by omega)
  rw [show ((1 : Int).natAbs : Int) = 1 by rfl, Int.mul_one, Int.mul_one] at h
  exact ⟨h3, Int.lt_of_le_of_lt (by omega) h.lt⟩
theorem posQ {form n : Nat} (hxr : XR x) (hb : 1 ≤ b) (h : b + n ≤ 21) : 0 ≤ pQ form x b n := by have := (pQ_le (form := form) hb hxr.lo hxr.hi h).1; omega
end
theorem ct_pieceQ {w : World} {B P Q₀ T₀ : Int} {d : Nat} {fn : Addr} {vs : List Value} {Pre : Heap → Prop} (C : CT w d fn vs Pre (RetP B P Q₀ T₀)) (hQ : 0 ≤ Q₀)
    {pp : Program} {lo : List Str} {mean : ExcName → Option Value} {mg mb : Str → Option Value} {dp un : Nat} {gd : Option (List Code)} {cn : Str} {cs : Scope} {a : Addr} {ccd : Value} {cl : List (Str × Addr)} {outer : List Env} {A₀ : Around} {base h₀ : Heap} {L : Addr} {m : Str → Option Value} {s : Shared}
    {Q E : Value → Shared → Prop} {news : List (Addr × Obj)} (B' : Below A₀ base outer h₀) (F : Fr h₀ L s.heap m) (X : (hd.heap_39 w.params).In h₀) (T : Top pp lo mean mg mb h₀) (hk : cs.kind = .function) (N : News h₀ L s.heap news)
    (hp : Pre s.heap) (hd : dp + d < recursionLimit) (hu : un + 8 * d < cLine)
    (ret : ∀ t t₁ t₃ l₁ l₂ l₃ v₁ v₂ v₃ c₁ c₂ c₃ h' tk', Fr h₀ L h' m → News h₀ L h' ((t, tupOf [.ref t₁, .ref l₂, .ref t₃]) :: (t₁, tupOf [.bool (decide (P < 0)), .ref l₁]) :: (t₃, tupOf [.bool (decide (T₀ < 0)), .ref l₃]) :: (l₁, listOf (List.toArray v₁) c₁) :: (l₂, listOf (List.toArray v₂) c₂) :: (l₃, listOf (List.toArray v₃) c₃) :: news) →
      IntsAre v₁ (row B P.natAbs) → IntsAre v₂ (row B Q₀) → IntsAre v₃ (row B T₀.natAbs) → Q (.ref t) { s with heap := h', toks := tk' }) :
    wpAny (model PySem.Challenge.rw_rr0055_01.row.prog w) (ktrTop dp un gd cn cs L a ccd cl outer) (call (.ref fn) vs) Q E s := by
  refine ct_piece C B' F X T hk N hp hd hu ?_
  intro t t₁ t₃ l₁ l₂ l₃ v₁ v₂ v₃ c₁ c₂ c₃ h' tk' F' N' _ _ _ _ _ _ i1 i2 i3
  rw [show ((Q₀.natAbs : Nat) : Int) = Q₀ by omega] at i2
  exact ret t t₁ t₃ l₁ l₂ l₃ v₁ v₂ v₃ c₁ c₂ c₃ h' tk' F' N' i1 i2 i3
end
section
def dInts (ns : List Int) : PyData := .list (ns.map PyData.int)
theorem reads_row {h₀ h : Heap} {L l : Addr} {news : List (Addr × Obj)} {vs : List Value} {c : Nat} {ns : List Int} (N : News h₀ L h news) (hm : (l, listOf (List.toArray vs) c) ∈ news) (hi : IntsAre vs ns) : Reads h (.ref l) (dInts ns) [l] :=
  reads_newData (lstIs (News.get N hm)) (ke_carried hi)
section
variable {prog : Program} {w : World} {A : Around} {E : Value → Shared → Prop} {s : Shared} {h₀ : Heap} {L : Addr} {news : List (Addr × Obj)} {Q : Value → Shared → Prop} {b₁ b₃ : Bool} {n₁ n₂ n₃ : List Int}
def dPiece (b₁ b₃ : Bool) (n₁ n₂ n₃ : List Int) : PyData := .tuple [.tuple [.bool b₁, dInts n₁], dInts n₂, .tuple [.bool b₃, dInts n₃]]
theorem reads_piece {h : Heap} {t t₁ t₃ l₁ l₂ l₃ : Addr} {v₁ v₂ v₃ : List Value} {c₁ c₂ c₃ : Nat} (N : News h₀ L h news) (ht : (t, tupOf [.ref t₁, .ref l₂, .ref t₃]) ∈ news) (ht₁ : (t₁, tupOf [.bool b₁, .ref l₁]) ∈ news) (ht₃ : (t₃, tupOf [.bool b₃, .ref l₃]) ∈ news)
    (h₁ : (l₁, listOf (List.toArray v₁) c₁) ∈ news) (h₂ : (l₂, listOf (List.toArray v₂) c₂) ∈ news) (h₃ : (l₃, listOf (List.toArray v₃) c₃) ∈ news) (i₁ : IntsAre v₁ n₁) (i₂ : IntsAre v₂ n₂) (i₃ : IntsAre v₃ n₃) : ∃ as, Reads h (.ref t) (dPiece b₁ b₃ n₁ n₂ n₃) as :=
  ⟨_, reads_tuple_at (News.get N ht) rfl rfl (.cons (reads_tuple_at (News.get N ht₁) rfl rfl (.cons (.bool _) (.cons (reads_row N h₁ i₁) .nil))) (.cons (reads_row N h₂ i₂) (.cons (reads_tuple_at (News.get N ht₃) rfl rfl (.cons (.bool _) (.cons (reads_row N h₃ i₃) .nil))) .nil)))⟩
theorem shaped_piece : PySem.SeqAt.shaped (dPiece b₁ b₃ n₁ n₂ n₃) = true := by
  simp [dPiece, dInts, PySem.SeqAt.shaped, PyData.canLay0, PyData.canLayAll0, PyData.depth, PyData.depthAll, ke_canLayAll0, ke_depthAll]
theorem ne_piece {t t₁ t₃ l₁ l₂ l₃ : Addr} {v₁ v₂ v₃ : List Value} {c₁ c₂ c₃ : Nat} {t' t₁' t₃' l₁' l₂' l₃' : Addr} {v₁' v₂' v₃' : List Value} {c₁' c₂' c₃' : Nat} (hu : A.units + 64 < cLine) (N : News h₀ L s.heap news)
    (ht : (t, tupOf [.ref t₁, .ref l₂, .ref t₃]) ∈ news) (ht₁ : (t₁, tupOf [.bool b₁, .ref l₁]) ∈ news) (ht₃ : (t₃, tupOf [.bool b₃, .ref l₃]) ∈ news)
    (h₁ : (l₁, listOf (List.toArray v₁) c₁) ∈ news) (h₂ : (l₂, listOf (List.toArray v₂) c₂) ∈ news) (h₃ : (l₃, listOf (List.toArray v₃) c₃) ∈ news) (i₁ : IntsAre v₁ n₁) (i₂ : IntsAre v₂ n₂) (i₃ : IntsAre v₃ n₃)
    (gt : (t', tupOf [.ref t₁', .ref l₂', .ref t₃']) ∈ news) (gt₁ : (t₁', tupOf [.bool b₁, .ref l₁']) ∈ news) (gt₃ : (t₃', tupOf [.bool b₃, .ref l₃']) ∈ news)
    (g₁ : (l₁', listOf (List.toArray v₁') c₁') ∈ news) (g₂ : (l₂', listOf (List.toArray v₂') c₂') ∈ news) (g₃ : (l₃', listOf (List.toArray v₃') c₃') ∈ news) (j₁ : IntsAre v₁' n₁) (j₂ : IntsAre v₂' n₂) (j₃ : IntsAre v₃' n₃)
    (h : Q (.bool false) s) : wpAny (model prog w) A (compareOp .NotEq (.ref t) (.ref t')) Q E s := by
  obtain ⟨_, ra⟩ := reads_piece N ht ht₁ ht₃ h₁ h₂ h₃ i₁ i₂ i₃
  obtain ⟨_, rb⟩ := reads_piece N gt gt₁ gt₃ g₁ g₂ g₃ j₁ j₂ j₃
  refine ne_dataH ra rb shaped_piece shaped_piece hu ?_
  rw [PySem.SeqAt.eqv_refl _ (PySem.SeqAt.canLay_of_shaped shaped_piece)]
  exact h
def dPair (n₁ n₂ : List Int) : PyData := .tuple [dInts n₁, dInts n₂]
theorem shaped_pair : PySem.SeqAt.shaped (dPair n₁ n₂) = true := by
  simp [dPair, dInts, PySem.SeqAt.shaped, PyData.canLay0, PyData.canLayAll0, PyData.depth, PyData.depthAll, ke_canLayAll0, ke_depthAll]
theorem eq_pair {t l₁ l₂ t' l₁' l₂' : Addr} {v₁ v₂ v₁' v₂' : List Value} {c₁ c₂ c₁' c₂' : Nat} (hu : A.units + 64 < cLine) (N : News h₀ L s.heap news)
    (ht : (t, tupOf [.ref l₁, .ref l₂]) ∈ news) (h₁ : (l₁, listOf (List.toArray v₁) c₁) ∈ news) (h₂ : (l₂, listOf (List.toArray v₂) c₂) ∈ news) (i₁ : IntsAre v₁ n₁) (i₂ : IntsAre v₂ n₂)
    (gt : (t', tupOf [.ref l₁', .ref l₂']) ∈ news) (g₁ : (l₁', listOf (List.toArray v₁') c₁') ∈ news) (g₂ : (l₂', listOf (List.toArray v₂') c₂') ∈ news) (j₁ : IntsAre v₁' n₁) (j₂ : IntsAre v₂' n₂)
    (h : Q (.bool true) s) : wpAny (model prog w) A (compareOp .Eq (.ref t) (.ref t')) Q E s := by
  have ra : Reads s.heap (.ref t) (dPair n₁ n₂) _ := reads_tuple_at (News.get N ht) rfl rfl (.cons (reads_row N h₁ i₁) (.cons (reads_row N h₂ i₂) .nil))
  have rb : Reads s.heap (.ref t') (dPair n₁ n₂) _ := reads_tuple_at (News.get N gt) rfl rfl (.cons (reads_row N g₁ j₁) (.cons (reads_row N g₂ j₂) .nil))
  refine eq_dataH ra rb shaped_pair shaped_pair hu ?_
  rw [PySem.SeqAt.eqv_refl _ (PySem.SeqAt.canLay_of_shaped shaped_pair)]
  exact h
end
end
section
def Cut (p : Addr × Obj) (all n : List (Addr × Obj)) : Prop := ∃ pre, all = pre ++ p :: n
theorem Cut.here {p : Addr × Obj} {r : List (Addr × Obj)} : Cut p (p :: r) r := ⟨[], rfl⟩
theorem Cut.step {p a : Addr × Obj} {r n : List (Addr × Obj)} : Cut p r n → Cut p (a :: r) n
  | ⟨pre, e⟩ => ⟨a :: pre, by rw [e]; rfl⟩
theorem subL_of : ∀ {l all : List (Addr × Obj)}, (∀ p ∈ l, p ∈ all) → SubL l all
  | [], _, _ => True.intro
  | p :: _, _, h => ⟨h p List.mem_cons_self, subL_of (fun q hq => h q (List.mem_cons_of_mem p hq))⟩
theorem unrEnd_cut {h₀ h' : Heap} {L L' : Addr} {p : Addr × Obj} {rest : (Str → Option Value) → List (Addr × Obj) → Prop} {s₁ : Shared} {tk : Nat} {m' : Str → Option Value} {all n : List (Addr × Obj)} (F : Fr h₀ L' h' m') (N : News h₀ L' h' all) (hL : L' = L) (c : Cut p all n)
    (off : OffW [p] n) (r : rest m' n) : UnrEndW h₀ L s₁ [p] rest { s₁ with heap := h', toks := tk } := by
  subst hL
  obtain ⟨pre, rfl⟩ := c
  refine UnrEndW.intro F N n ⟨by simp, True.intro⟩ (subL_of fun q hq => ?_) off r
  simp [hq]
end
section
section
variable {M : Model} {A : Around} {E : Value → Shared → Prop} {s' : Shared} {base g g₂ : Heap} {outer : List Env} {L a e t : Addr} {m : Str → Option Value} {name : Str} {scope : Scope} {cd : Value} {cl : List (Str × Addr)} {Q : Unit → Shared → Prop} {news : List (Addr × Obj)}
theorem frame_mem {env : Env} {b : Addr} (hf : env.frame = some L) (hm : b ∈ (env :: outer).filterMap (·.frame)) : b = L ∨ b ∈ outer.filterMap (·.frame) := by
  obtain ⟨env', he, hf'⟩ := List.mem_filterMap.mp hm
  rcases List.mem_cons.mp he with rfl | he
  · exact .inl (Option.some.inj (hf'.symm.trans hf))
  · exact .inr (List.mem_filterMap.mpr ⟨env', he, hf'⟩)
/-- The leaving of a frame with cells, the exception in flight, the caller's ground kept. -/
theorem leave_onSX {cls : Value} {vs : List Value} (K : Below A base outer g) (F : Fr g L g₂ m) (R : RaisedS base g₂ (envX name scope L a cd cl :: outer) e cls t vs news s'.heap) (hsm : g₂.UpToSlots s'.heap)
    (hQ : ∀ h', RaisedS base g outer e cls t vs news h' → g.UpToSlots h' → Q () { s' with heap := h' }) :
    wpAny M (A.deeper (envX name scope L a cd cl)) (leaving (envX name scope L a cd cl) (.ref e)) Q E s' := by
  obtain ⟨⟨B, hB, hBG, hl, hfl, hnew⟩, htup⟩ := R
  refine wpAny_leaves_onW (Around.frames_deeper K.stack) rfl hfl fun h' x1 x2 => hQ h' ⟨⟨B, hB, fun b o q nm => ?_, fun q hq => ?_, x1, hnew⟩, htup.of_slots x2⟩ ((Heap.UpToSlots.of_keeps F.keep).trans (hsm.trans x2))
  · refine hBG b o (F.keep b o q) fun hm => ?_
    rcases frame_mem rfl hm with z | z
    · rw [z, kts_self F] at q; cases q
    · exact nm z
  · exact ⟨(hl q hq).1, kts_none F.keep (hl q hq).2.1, (hl q hq).2.2⟩
end
section
variable {prog : Program} {w : World} {A₀ A : Around} {s : Shared} {base h₀ : Heap} {env : Env} {L : Addr} {m : Str → Option Value} {news : List (Addr × Obj)} {K : Frag} {p : Program} {loose : List Str} {mean : ExcName → Option Value} {mg mb : Str → Option Value}
    {R : Result → Shared → Prop} {name qual : Str} {params : Arguments} {body : List Stmt} {scope : Scope} {dV kV doc pm cdv ct oc : Value} {an od : Option Addr} {osl : Array (Option Value)} {f : Addr} {args : Args} {binds : List (Str × Value)}
/-- Entering a def that tries, from the one frame below (with cells or without): the ground may turn in its frames' slots. -/
theorem enter_try (B : Below A₀ base [] h₀) (F : Fr h₀ L s.heap m) (X₀ : K.In h₀) (N : News h₀ L s.heap news) (T : Top p loose mean mg mb h₀) (hA : A.frames = some [env]) (hf : env.frame = some L) (hke : env.scope.kind = .function)
    (ho : K.lookup f = some ⟨oc, od, .func (fnOf name qual params body scope dV kV doc pm an cdv ct), osl⟩) (hcd : codeIn K cdv qual = true) (hroom : A.depth < recursionLimit)
    (hbind : BindsTo s (fnOf name qual params body scope dV kV doc pm an cdv ct) args binds) (hloc : ∀ y ∈ binds, scope.names.lookup y.1 = some .local)
    (h : ∀ g L' h₁, Fr h₀ L g m → Fr g L' h₁ (fun y => binds.reverse.lookup y) → News g L' h₁ news → Below A base [env] g → K.In g → Top p loose mean mg mb g → KtsDicts ([env].filterMap (·.frame)) g →
      wpAny (model prog w) (A.deeper (envOf qual scope L' f cdv)) (execs body (envOf qual scope L' f cdv))
        (fun fl s' => LeaveS0 ([env].filterMap (·.frame)) h₀ L m g R (match fl with | .ret v => v | _ => .none) s')
        (fun e s' => wpAny (model prog w) (A.deeper (envOf qual scope L' f cdv)) (leaving (envOf qual scope L' f cdv) e) (fun _ s'' => R (.error e) s'') (fun e' s'' => R (.error e') s'') s')
        { s with heap := h₁, toks := s.toks + binds.length })
    (hco : scope.isCoroutine = false) (hgen : scope.isGenerator = false) (hk : scope.kind = .function)
    (hcell : ∀ x ∈ scope.names, x.2 ≠ .cell) : codeAny (model prog w) A (.call (.ref f) args) R s := by
  obtain ⟨FG, BG, st, _⟩ := groundX (R := R) B F N hA hf hke
  refine codeAny_call_def (fd := fnOf name qual params body scope dV kV doc pm an cdv ct) (body := body) (binds := binds) hroom (X₀.keeps F.keep _ _ ho) rfl (T.nolimit.keeps F.keep) (codeRec_of (X₀.keeps F.keep) hcd) rfl hbind hcell hloc (fun h₁ hns hk₁ => ?_) hco hgen hk
  have nL₀ : h₀.get? L = none := kts_self F
  obtain ⟨oL, es, ep, hLg, hLd, hLk, hLf⟩ := FG.ns
  have hD : KtsDicts ([env].filterMap (·.frame)) (hideAll s.heap (news.map (·.1))) := fun b hb => by
    rcases frame_mem hf hb with rfl | z
    · exact ⟨oL, es, ep, hLg, hLd⟩
    · simp at z
  refine wpAny_mono (h _ s.heap.objs.size h₁ FG ⟨hns, fun b o e => hk₁ b o (of_hideAll _ e), Nat.le_of_eq (hideAll_size _ _)⟩
    (fun q hq => ⟨hk₁ _ _ (N q hq).1, Nat.ne_of_lt (Heap.lt_size (N q hq).1), hideAll_none _ (List.mem_map_of_mem hq)⟩) BG (X₀.keeps st) (T.keeps st) hD) (fun fl s' hl => ?_) fun _ _ y => y
  obtain ⟨g', L', m', news', T', F', N', k⟩ := hl
  obtain ⟨sl, hs⟩ := T'.up hLg
  refine k ⟨⟨_, es, ep, F'.keep _ _ hs, hLd, hLk, hLf⟩, fun b o e => F'.keep b o (T'.other b o (st b o e) fun q => ?_), F.above⟩ fun q hq => ⟨(N' q hq).1, fun z => ?_, ?_⟩
  · rcases frame_mem hf q with z | z
    · rw [z, nL₀] at e; cases e
    · simp at z
  · have := (N' q hq).2.2; rw [z, hs] at this; cases this
  · cases z : h₀.get? q.1 with
    | none => rfl
    | some o =>
      obtain ⟨sl', hs'⟩ := T'.up (st _ _ z)
      have := (N' q hq).2.2
      rw [hs'] at this; cases this
end
section
variable {prog : Program} {w : World} {A : Around} {E : Value → Shared → Prop} {s : Shared} {h₀ : Heap} {L : Addr} {m : Str → Option Value} {K : Frag} {f : Value} {first : List Value} {env : Env} {pos : Pos} {Q : Value → Shared → Prop}
theorem callWith_noargs (F : Fr h₀ L s.heap m) (X : K.In h₀) (hk : keepIn K f = true) (h : wpAny (model prog w) A (call f (first ++ [])) Q E s) :
    wpAny (model prog w) A (callWith pos f first (backTo pos (starEach [] env)) []) Q E s := callWith_K0 (X.keeps F.keep) hk h
end
end
section
/-- The one of three addresses that the form picks. -/
@[irreducible] def pick (v : Int) (a b c : Addr) : Addr := if v = 0 then a else if v = 1 then b else c
theorem pick0 {a b c : Addr} : pick 0 a b c = a := by unfold pick; rfl
theorem pick1 {a b c : Addr} : pick 1 a b c = b := by unfold pick; rfl
theorem pick2 {a b c : Addr} : pick 2 a b c = c := by unfold pick; rfl
theorem three {v : Int} (h0 : 0 ≤ v) (h3 : v < 3) : v = 0 ∨ v = 1 ∨ v = 2 := by omega
theorem pick_get {v : Int} {a b c : Addr} (h0 : 0 ≤ v) (h3 : v < 3) : [Value.ref a, Value.ref b, Value.ref c][v.toNat]? = some (Value.ref (pick v a b c)) := by
  rcases three h0 h3 with rfl | rfl | rfl
  · rw [pick0]; rfl
  · rw [pick1]; rfl
  · rw [pick2]; rfl
theorem below63 {v : Int} (h3 : v < 3) : v < 2 ^ 63 := by omega
theorem ct_pre {w : World} {d : Nat} {f : Addr} {vs : List Value} {Pre Pre' : Heap → Prop} {Post : Heap → Value → Heap → Prop} (h : CT w d f vs Pre Post) (hp : ∀ g, Pre' g → Pre g) : CT w d f vs Pre' Post := by
  intro pp lo mean mg mb dp un gd cn cs a ccd cl outer A₀ base h₀ L m s Q E B F X T hk hP hd1 hu1 hret
  exact h pp lo mean mg mb dp un gd cn cs a ccd cl outer A₀ base h₀ L m s Q E B F X T hk (hp _ hP) hd1 hu1 hret
section
variable {w : World} {v wv x b e many : Int} {a0 a1 a2 : Addr} {tf tx tb te tw tm : Tok}
theorem r_lpieceF (h0 : 0 ≤ v) (h3 : v < 3) (hxr : XR x) (hbe : b ≤ e) (hb : 1 ≤ b) (he : e ≤ 21) (hn : e - b ≤ 12) : CT w 2 238 [.int v tf, .int x tx, .int b tb, .int e te] (fun _ => True) (RetI (pP v.toNat x b (e - b).toNat) (pQ v.toNat x b (e - b).toNat) (pT v.toNat x b (e - b).toNat)) := by
  rcases three h0 h3 with rfl | rfl | rfl
  · exact r_lpiece0 hxr hbe hb he hn
  · exact r_lpiece1 hxr hbe hb he hn
  · exact r_lpiece2 hxr hbe hb he hn
theorem r_splitF (h0 : 0 ≤ v) (h3 : v < 3) (hw : 2 ≤ wv) (hw2 : wv ≤ 9) (hxr : XR x) (hbe : b ≤ e) (hb : 1 ≤ b) (he : e ≤ 21) (hn : e - b ≤ 12) : CT w 36 189 [.ref (pick v a0 a1 a2), .int b tb, .int e te, .int wv tw, .ref 203]
    (fun h => SerAt 0 x h a0 ∧ SerAt 1 x h a1 ∧ SerAt 2 x h a2) (RetP (2 ^ wv.toNat) (pP v.toNat x b (e - b).toNat) (pQ v.toNat x b (e - b).toNat) (pT v.toNat x b (e - b).toNat)) := by
  rcases three h0 h3 with rfl | rfl | rfl
  · rw [pick0]; exact ct_pre (r_split0 hw hw2 hxr hbe hb he hn) fun _ q => q.1
  · rw [pick1]; exact ct_pre (r_split1 hw hw2 hxr hbe hb he hn) fun _ q => q.2.1
  · rw [pick2]; exact ct_pre (r_split2 hw hw2 hxr hbe hb he hn) fun _ q => q.2.2
theorem r_fracF (hv0 : 0 ≤ v) (h3 : v < 3) (hw : 2 ≤ wv) (hw2 : wv ≤ 9) (hxr : XR x) (h0 : 0 ≤ many) (h4 : many ≤ 4) : CT w 32 196 [.ref (pick v a0 a1 a2), .int many tm, .int wv tw, .ref 203]
    (fun h => SerAt 0 x h a0 ∧ SerAt 1 x h a1 ∧ SerAt 2 x h a2) (RetF (2 ^ wv.toNat) (pQ v.toNat x 1 (many + 1 - 1).toNat + pT v.toNat x 1 (many + 1 - 1).toNat) (pQ v.toNat x 1 (many + 1 - 1).toNat)) := by
  rcases three hv0 h3 with rfl | rfl | rfl
  · rw [pick0]; exact ct_pre (r_frac0 hw hw2 hxr h0 h4) fun _ q => q.1
  · rw [pick1]; exact ct_pre (r_frac1 hw hw2 hxr h0 h4) fun _ q => q.2.1
  · rw [pick2]; exact ct_pre (r_frac2 hw hw2 hxr h0 h4) fun _ q => q.2.2
end
section
variable {M : Model} {A : Around} {E : Value → Shared → Prop} {s : Shared} {env : Env}
theorem ite_ints {c : Prop} [Decidable c] {z1 z2 : Int} {k1 k2 : Tok} {p1 p2 : Pos} {Q : Value → Shared → Prop} (h : ∀ z, (c ∧ z = z1) ∨ (¬ c ∧ z = z2) → Q (.int z s.toks) { s with toks := s.toks + 1 }) :
    if c then wpAny M A (eval (.Constant (.int z1) k1 p1) env) Q E s else wpAny M A (eval (.Constant (.int z2) k2 p2) env) Q E s := by
  split
  · exact wpAny_Constant_int (h _ (.inl ⟨by assumption, rfl⟩))
  · exact wpAny_Constant_int (h _ (.inr ⟨by assumption, rfl⟩))
end
end
section
/-- A piece's bounds. -/
structure PB (b e : Int) : Prop where
  b1 : 1 ≤ b
  be : b ≤ e
  e2 : e ≤ 21
  n12 : e - b ≤ 12
/-- A limb's bits. -/
structure WB (wv : Int) : Prop where
  w2 : 2 ≤ wv
  w9 : wv ≤ 9
/-- A form. -/
structure FB (v : Int) : Prop where
  f0 : 0 ≤ v
  f3 : v < 3
section
variable {w : World} {v wv x b e many z : Int} {a0 a1 a2 : Addr} {tf tx tb te tw tm tn : Tok}
theorem s_lpiece (fb : FB v) (hxr : XR x) (bd : PB b e) : CT w 2 238 [.int v tf, .int x tx, .int b tb, .int e te] (fun _ => True) (RetI (pP v.toNat x b (e - b).toNat) (pQ v.toNat x b (e - b).toNat) (pT v.toNat x b (e - b).toNat)) :=
  r_lpieceF fb.f0 fb.f3 hxr bd.be bd.b1 bd.e2 bd.n12
theorem s_split (fb : FB v) (wb : WB wv) (hxr : XR x) (bd : PB b e) : CT w 36 189 [.ref (pick v a0 a1 a2), .int b tb, .int e te, .int wv tw, .ref 203]
    (fun h => SerAt 0 x h a0 ∧ SerAt 1 x h a1 ∧ SerAt 2 x h a2) (RetP (2 ^ wv.toNat) (pP v.toNat x b (e - b).toNat) (pQ v.toNat x b (e - b).toNat) (pT v.toNat x b (e - b).toNat)) :=
  r_splitF fb.f0 fb.f3 wb.w2 wb.w9 hxr bd.be bd.b1 bd.e2 bd.n12
theorem s_frac (fb : FB v) (wb : WB wv) (hxr : XR x) (h0 : 0 ≤ many) (h4 : many ≤ 4) : CT w 32 196 [.ref (pick v a0 a1 a2), .int many tm, .int wv tw, .ref 203]
    (fun h => SerAt 0 x h a0 ∧ SerAt 1 x h a1 ∧ SerAt 2 x h a2) (RetF (2 ^ wv.toNat) (pQ v.toNat x 1 (many + 1 - 1).toNat + pT v.toNat x 1 (many + 1 - 1).toNat) (pQ v.toNat x 1 (many + 1 - 1).toNat)) :=
  r_fracF fb.f0 fb.f3 wb.w2 wb.w9 hxr h0 h4
theorem s_lrow (hn : Num x) (wb : WB wv) : CT w 1 217 [.int x tn, .int wv tw] (fun _ => True) (RetL (row (2 ^ wv.toNat) x)) := r_lrow hn wb.w2 wb.w9
theorem s_lsigned (hz : Num (z.natAbs : Int)) (wb : WB wv) : CT w 2 224 [.int z tn, .int wv tw] (fun _ => True) (RetS (2 ^ wv.toNat) (decide (z < 0)) (z.natAbs : Int)) := r_lsigned hz wb.w2 wb.w9
theorem PB.n (bd : PB b e) : b + ((e - b).toNat : Int) ≤ 21 ∧ (e - b).toNat ≤ 12 := by
  have := bd.b1; have := bd.be; have := bd.e2; have := bd.n12
  omega
theorem s_pP {form : Nat} (hxr : XR x) (bd : PB b e) : Num ((pP form x b (e - b).toNat).natAbs : Int) := num_pP hxr bd.b1 bd.n.1 bd.n.2
theorem s_pT {form : Nat} (hxr : XR x) (bd : PB b e) : Num ((pT form x b (e - b).toNat).natAbs : Int) := num_pT hxr bd.b1 bd.n.1 bd.n.2
theorem s_pQ {form : Nat} (hxr : XR x) (bd : PB b e) : Num (pQ form x b (e - b).toNat) := num_pQ hxr bd.b1 bd.n.1 bd.n.2
theorem s_posQ {form : Nat} (hxr : XR x) (bd : PB b e) : 0 ≤ pQ form x b (e - b).toNat := posQ hxr bd.b1 bd.n.1
theorem FB.le (fb : FB v) : v.toNat ≤ 2 := by have := fb.f0; have := fb.f3; omega
end
section
variable {M : Model} {A : Around} {E Q : Value → Shared → Prop} {s : Shared} {f x : Value} {b e : Int} {tb te : Tok}
theorem with_bd (bd : PB b e) (h : PB b e → wpAny M A (call (.ref 238) [f, x, .int b tb, .int e te]) Q E s) : wpAny M A (call (.ref 238) [f, x, .int b tb, .int e te]) Q E s := h bd
end
end
end
section
local macro_rules | `(tactic| walk_at $s:str) => do let t := Lean.Syntax.mkStrLit ("m " ++ s.getString); `(tactic| k_extra $t)
local macro_rules | `(tactic| wrow_close) => `(tactic| k_extra "m close")

theorem fr_four {g0 h : Heap} {L : Addr} {c m : Str → Option Value} (e : c = m) {k1 k2 k3 k4 : Str} {v1 v2 v3 v4 : Value}
    (F : Fr g0 L h (fun y => if y = k1 then some v1 else if y = k2 then some v2 else if y = k3 then some v3 else if y = k4 then some v4 else c y)) :
    Fr g0 L h (fun y => if y = k1 then some v1 else if y = k2 then some v2 else if y = k3 then some v3 else if y = k4 then some v4 else m y) := e ▸ F
theorem news_eight {h₀ h : Heap} {L : Addr} {q1 q2 q3 q4 q5 q6 q7 q8 : Addr × Obj} {news : List (Addr × Obj)} (N : News h₀ L h news) (m1 : q1 ∈ news) (m2 : q2 ∈ news) (m3 : q3 ∈ news) (m4 : q4 ∈ news) (m5 : q5 ∈ news) (m6 : q6 ∈ news) (m7 : q7 ∈ news) (m8 : q8 ∈ news) :
    News h₀ L h (q1 :: q2 :: q3 :: q4 :: q5 :: q6 :: q7 :: q8 :: news) := fun q hq => by
  simp only [List.mem_cons] at hq
  rcases hq with rfl | rfl | rfl | rfl | rfl | rfl | rfl | rfl | hq
  all_goals exact N _ (by assumption)
theorem turn {nm : Str} {ps : Arguments} {bd : List Stmt} {dl : List Expr} {rt : Option Expr} {tp : List TypeParam} {sc : Scope} {ts : Option Scope} {bi : Str} {po : Pos} (h : cells[33]? = some (Stmt.FunctionDef nm ps bd dl rt tp sc ts bi po))
    {tg it : Expr} {fb oe : List Stmt} {fp : Pos} (hf : bd[6]? = some (Stmt.For tg it fb oe fp))
    {w : World} {pp : Program} {lo : List Str} {mean : ExcName → Option Value} {mg mb : Str → Option Value} {g0 : Heap} {L fa : Addr} {s : Shared} {m : Str → Option Value} {ow os : Obj} {news : List (Addr × Obj)} {v wv x b e : Int} {tw tv tx tb te t1 t2 : Tok}
    {a0 a1 a2 d0 d1 d2 : Addr} {hs : Int} {Q : Flow → Shared → Prop} {E : Value → Shared → Prop}
    (K : Below callerA g0 [] g0) (F : Fr g0 L s.heap m) (X : (hd.heap_39 w.params).In g0) (T : Top pp lo mean mg mb g0)
    (mo : m (Str.ofString "other") = some (.int e te)) (mn : m (Str.ofString "one") = some (.int b tb)) (mx : m (Str.ofString "x") = some (.int x tx)) (mf : m (Str.ofString "form") = some (.int v tv))
    (N : News g0 L s.heap news) (kw : (L + 1 + 1 + 1 + 1 + 1, ow) ∈ news) (dw : ow.data = .cell (some (.int wv tw))) (ks : (L + 1 + 1 + 1 + 1, os) ∈ news) (ds : os.data = .cell (some (.ref (pick v a0 a1 a2))))
    (k0 : (a0, instObj 129 d0) ∈ news) (k0' : (d0, dictOf [] 0) ∈ news) (k1 : (a1, instObj 157 d1) ∈ news) (k1' : (d1, dictOf [⟨hs, .str (Str.ofString "x") t1, .int x t2⟩] 1) ∈ news) (k2 : (a2, instObj 178 d2) ∈ news) (k2' : (d2, dictOf [] 0) ∈ news)
    (fb9 : FB v) (wb9 : WB wv) (xr9 : XR x) (bd9 : PB b e)
    (hQ : ∀ h' tk' va vb vt vd, Fr g0 L h' (fun y => if y = Str.ofString "due" then some vd else if y = Str.ofString "told" then some vt else if y = Str.ofString "below" then some vb else if y = Str.ofString "above" then some va else m y) → News g0 L h' news → Q .next { s with heap := h', toks := tk' }) :
    wpAny (model PySem.Challenge.rw_rr0055_01.row.prog w) (callerA.deeper (envOfC (Str.ofString "law") sc L fa (.ref 251))) (execs fb (envOfC (Str.ofString "law") sc L fa (.ref 251))) Q E s := by
  cases h
  cases hf
  revert X
  w_top off
  k_with_none
  (k_with "m call ref" => (k_here; (with_reducible show wpAny _ _ (call (Value.ref 210) _) _ _ _); k_dflt ((refine' use_next ?B_z9 ?F_z9 ?X_z9 ?T_z9 ?k_z9 ?N_z9 ?U_z9 ?sl_z9 ?ne_z9 ?I_z9 ?len_z9 ?i0_z9 ?i1_z9 ?m0_z9 ?m1_z9 ?d_z9 ?u_z9 ?_; (case B_z9 => k_asm); (case F_z9 => k_asm); (case X_z9 => k_asm); (case T_z9 => k_asm); (case k_z9 => first | exact rfl | assumption); (case N_z9 => k_asm); (case U_z9 => (intro t9; k_upd)); (case sl_z9 => k_mem); (case ne_z9 => omega); (case I_z9 => l_ints); (case len_z9 => omega); (case i0_z9 => omega); (case i1_z9 => omega); (case m0_z9 => omega); (case m1_z9 => omega); (case d_z9 => ktr_room); (case u_z9 => ktr_units)); intro v9 t9 t92 h9 tk9 lo9 hi9 F9 N9; (try dsimp only at N9); (try dsimp only); (try k_fold))))
  (k_with "m call ref" => (k_here; (with_reducible show wpAny _ _ (call (Value.ref 210) [_, Value.int 6 _]) _ _ _); (fail_if_success (with_reducible rename XR _ => xr9)); k_dflt ((refine' use_next ?B_z9 ?F_z9 ?X_z9 ?T_z9 ?k_z9 ?N_z9 ?U_z9 ?sl_z9 ?ne_z9 ?I_z9 ?len_z9 ?i0_z9 ?i1_z9 ?m0_z9 ?m1_z9 ?d_z9 ?u_z9 ?_; (case B_z9 => k_asm); (case F_z9 => k_asm); (case X_z9 => k_asm); (case T_z9 => k_asm); (case k_z9 => first | exact rfl | assumption); (case N_z9 => k_asm); (case U_z9 => (intro t9; k_upd)); (case sl_z9 => k_mem); (case ne_z9 => omega); (case I_z9 => l_ints); (case len_z9 => omega); (case i0_z9 => omega); (case i1_z9 => omega); (case m0_z9 => omega); (case m1_z9 => omega); (case d_z9 => ktr_room); (case u_z9 => ktr_units)); intro v9 t9 t92 h9 tk9 lo9 hi9 F9 N9; (try dsimp only at N9); (try dsimp only); (have xr9 : XR (2 + v9) := ⟨by omega, by omega⟩); (try k_fold))))
  (k_with "m call ref" => (k_here; (with_reducible show wpAny _ _ (call (Value.ref 210) [_, Value.int 8 _]) _ _ _); (fail_if_success (with_reducible rename WB _ => wb9)); k_dflt ((refine' use_next ?B_z9 ?F_z9 ?X_z9 ?T_z9 ?k_z9 ?N_z9 ?U_z9 ?sl_z9 ?ne_z9 ?I_z9 ?len_z9 ?i0_z9 ?i1_z9 ?m0_z9 ?m1_z9 ?d_z9 ?u_z9 ?_; (case B_z9 => k_asm); (case F_z9 => k_asm); (case X_z9 => k_asm); (case T_z9 => k_asm); (case k_z9 => first | exact rfl | assumption); (case N_z9 => k_asm); (case U_z9 => (intro t9; k_upd)); (case sl_z9 => k_mem); (case ne_z9 => omega); (case I_z9 => l_ints); (case len_z9 => omega); (case i0_z9 => omega); (case i1_z9 => omega); (case m0_z9 => omega); (case m1_z9 => omega); (case d_z9 => ktr_room); (case u_z9 => ktr_units)); intro v9 t9 t92 h9 tk9 lo9 hi9 F9 N9; (try dsimp only at N9); (try dsimp only); (have wb9 : WB (2 + v9) := ⟨by omega, by omega⟩); (try k_fold))))
  (k_with "m call ref" => (k_here; (with_reducible show wpAny _ _ (call (Value.ref 210) [_, Value.int 3 _]) _ _ _); (fail_if_success (with_reducible rename FB _ => fb9)); k_dflt ((refine' use_next ?B_z9 ?F_z9 ?X_z9 ?T_z9 ?k_z9 ?N_z9 ?U_z9 ?sl_z9 ?ne_z9 ?I_z9 ?len_z9 ?i0_z9 ?i1_z9 ?m0_z9 ?m1_z9 ?d_z9 ?u_z9 ?_; (case B_z9 => k_asm); (case F_z9 => k_asm); (case X_z9 => k_asm); (case T_z9 => k_asm); (case k_z9 => first | exact rfl | assumption); (case N_z9 => k_asm); (case U_z9 => (intro t9; k_upd)); (case sl_z9 => k_mem); (case ne_z9 => omega); (case I_z9 => l_ints); (case len_z9 => omega); (case i0_z9 => omega); (case i1_z9 => omega); (case m0_z9 => omega); (case m1_z9 => omega); (case d_z9 => ktr_room); (case u_z9 => ktr_units)); intro v9 t9 t92 h9 tk9 lo9 hi9 F9 N9; (try dsimp only at N9); (try dsimp only); (have fb9 : FB v9 := ⟨by omega, by omega⟩); (try k_fold))))
  (k_with "m call ref" => (k_here; (with_reducible show wpAny _ _ (call (Value.ref 217) _) _ _ _); k_dflt (refine' ct_list (s_lrow ?x_z9 ?wb_z9) ?B_z9 ?F_z9 ?X_z9 ?T_z9 ?k_z9 ?N_z9 ?p_z9 ?d_z9 ?u_z9 ?_; (case B_z9 => k_asm); (case F_z9 => k_asm); (case X_z9 => k_asm); (case T_z9 => k_asm); (case k_z9 => first | exact rfl | assumption); (case N_z9 => k_asm); (case p_z9 => exact True.intro); (case x_z9 => k_extra "num"); (case wb_z9 => with_reducible assumption); (case d_z9 => ktr_room); (case u_z9 => ktr_units)); intro l9 us9 c9 h9 tk9 F9 N9 ne9 I9; clear ne9; (try dsimp only); (try k_fold)))
  (k_with "m call ref" => (k_here; (with_reducible show wpAny _ _ (call (Value.ref 224) _) _ _ _); k_dflt (refine' ct_sgn (s_lsigned ?x_z9 ?wb_z9) ?B_z9 ?F_z9 ?X_z9 ?T_z9 ?k_z9 ?N_z9 ?p_z9 ?d_z9 ?u_z9 ?_; (case B_z9 => k_asm); (case F_z9 => k_asm); (case X_z9 => k_asm); (case T_z9 => k_asm); (case k_z9 => first | exact rfl | assumption); (case N_z9 => k_asm); (case p_z9 => exact True.intro); (case x_z9 => k_extra "num"); (case wb_z9 => with_reducible assumption); (case d_z9 => ktr_room); (case u_z9 => ktr_units)); intro t9 l9 us9 c9 h9 tk9 F9 N9 ne9 ne9' I9; clear ne9 ne9'; (try dsimp only); (try k_fold)))
  (k_with "m call ref" => (k_here; (with_reducible show wpAny _ _ (call (Value.ref 238) _) _ _ _); k_dflt ((with_reducible refine with_bd (by first | with_reducible assumption | exact ⟨by omega, by omega, by omega, by omega⟩) ?_); intro bd9; refine' ct_ints (s_lpiece ?fb_z9 ?xr_z9 ?bd_z9) ?B_z9 ?F_z9 ?X_z9 ?T_z9 ?k_z9 ?N_z9 ?p_z9 ?d_z9 ?u_z9 ?_; (case B_z9 => k_asm); (case F_z9 => k_asm); (case X_z9 => k_asm); (case T_z9 => k_asm); (case k_z9 => first | exact rfl | assumption); (case N_z9 => k_asm); (case fb_z9 => with_reducible assumption); (case p_z9 => exact True.intro); (case xr_z9 => with_reducible assumption); (case bd_z9 => with_reducible assumption); (case d_z9 => ktr_room); (case u_z9 => ktr_units)); intro t9 t91 t92 t93 h9 tk9 F9 N9 ne9; clear ne9; (try dsimp only); (try k_fold)))
  (k_with "m call ref" => (k_here; (with_reducible show wpAny _ _ (call (Value.ref 189) (Value.ref (pick _ _ _ _) :: _)) _ _ _); k_dflt (refine' ct_pieceQ (s_split ?fb_z9 ?wb_z9 ?xr_z9 ?bd_z9) ?pq_z9 ?B_z9 ?F_z9 ?X_z9 ?T_z9 ?k_z9 ?N_z9 ?p_z9 ?d_z9 ?u_z9 ?_; (case bd_z9 => with_reducible assumption); (case B_z9 => k_asm); (case F_z9 => k_asm); (case X_z9 => k_asm); (case T_z9 => k_asm); (case k_z9 => first | exact rfl | assumption); (case N_z9 => k_asm); (case fb_z9 => with_reducible assumption); (case xr_z9 => with_reducible assumption); (case p_z9 => exact ⟨⟨_, News.get (by k_asm) (by k_mem), News.get (by k_asm) (by k_mem)⟩, ⟨_, _, _, _, News.get (by k_asm) (by k_mem), News.get (by k_asm) (by k_mem)⟩, ⟨_, News.get (by k_asm) (by k_mem), News.get (by k_asm) (by k_mem)⟩⟩); (case pq_z9 => exact s_posQ (by with_reducible assumption) (by with_reducible assumption)); (case wb_z9 => with_reducible assumption); (case d_z9 => ktr_room); (case u_z9 => ktr_units)); intro t9 t91 t93 l91 l92 l93 v91 v92 v93 c91 c92 c93 h9 tk9 F9 N9 I91 I92 I93; (try dsimp only); (try k_fold)))
  (k_with "m call ref" => (k_here; (with_reducible show wpAny _ _ (call (Value.ref 196) (Value.ref (pick _ _ _ _) :: _)) _ _ _); k_dflt (refine' ct_frac (s_frac ?fb_z9 ?wb_z9 ?xr_z9 ?h0_z9 ?h4_z9) ?B_z9 ?F_z9 ?X_z9 ?T_z9 ?k_z9 ?N_z9 ?p_z9 ?d_z9 ?u_z9 ?_; (case B_z9 => k_asm); (case F_z9 => k_asm); (case X_z9 => k_asm); (case T_z9 => k_asm); (case k_z9 => first | exact rfl | assumption); (case N_z9 => k_asm); (case h0_z9 => omega); (case h4_z9 => omega); (case fb_z9 => with_reducible assumption); (case xr_z9 => with_reducible assumption); (case p_z9 => exact ⟨⟨_, News.get (by k_asm) (by k_mem), News.get (by k_asm) (by k_mem)⟩, ⟨_, _, _, _, News.get (by k_asm) (by k_mem), News.get (by k_asm) (by k_mem)⟩, ⟨_, News.get (by k_asm) (by k_mem), News.get (by k_asm) (by k_mem)⟩⟩); (case wb_z9 => with_reducible assumption); (case d_z9 => ktr_room); (case u_z9 => ktr_units)); intro t9 l91 l92 v91 v92 c91 c92 h9 tk9 F9 N9 ne91 ne92 ne93 I91 I92; clear ne91 ne92 ne93; (try dsimp only); (try k_fold)))
  (k_with "m subscriptTail" => (k_here; (with_reducible show wpAny _ _ (subscriptTail _ _ (Value.ref _) (Value.int _ _)) _ _ _); (with_unfolding_all refine' item_litK ?k1_z9 ?k2_z9 ?k3_z9 (pick_get ?k4_z9 ?k5_z9) ?_ ?k6_z9; (case k1_z9 => is_list); (case k2_z9 => omega); (case k3_z9 => exact below63 (by omega)); (case k4_z9 => omega); (case k5_z9 => omega); (case k6_z9 => with_unfolding_all rfl); k_whole)))
  (k_with "m ite" => (k_here; (with_reducible refine ite_ints ?_); intro z9 hz9; (have hz91 : 3 ≤ z9 := by omega); (have hz92 : z9 ≤ 5 := by omega); clear hz9; (try dsimp only)))
  (k_with "m compareOp NotEq ref ref" => (k_here; (with_reducible show wpAny _ _ (compareOp CmpOp.NotEq (Value.ref _) (Value.ref _)) _ _ _); k_dflt ((refine' ne_piece ?hu_z9 ?N_z9 ?ht_z9 ?ht1_z9 ?ht3_z9 ?h1_z9 ?h2_z9 ?h3_z9 ?i1_z9 ?i2_z9 ?i3_z9 ?gt_z9 ?gt1_z9 ?gt3_z9 ?g1_z9 ?g2_z9 ?g3_z9 ?j1_z9 ?j2_z9 ?j3_z9 ?_); (case hu_z9 => ke_room); (case N_z9 => k_asm); (case ht_z9 => k_mem); (case ht1_z9 => k_mem); (case ht3_z9 => k_mem); (case h1_z9 => k_mem); (case h2_z9 => k_mem); (case h3_z9 => k_mem);(case i1_z9 => with_reducible assumption); (case i2_z9 => with_reducible assumption); (case i3_z9 => with_reducible assumption);(case gt_z9 => k_mem); (case gt1_z9 => k_mem); (case gt3_z9 => k_mem); (case g1_z9 => k_mem); (case g2_z9 => k_mem); (case g3_z9 => k_mem);(case j1_z9 => with_reducible assumption); (case j2_z9 => with_reducible assumption); (case j3_z9 => with_reducible assumption); (try dsimp only))))
  (k_with "m compareOp Eq ref ref" => (k_here; (with_reducible show wpAny _ _ (compareOp CmpOp.Eq (Value.ref _) (Value.ref _)) _ _ _); k_dflt ((refine' eq_pair ?hu_z9 ?N_z9 ?ht_z9 ?h1_z9 ?h2_z9 ?i1_z9 ?i2_z9 ?gt_z9 ?g1_z9 ?g2_z9 ?j1_z9 ?j2_z9 ?_); (case hu_z9 => ke_room); (case N_z9 => k_asm); (case ht_z9 => k_mem); (case h1_z9 => k_mem); (case h2_z9 => k_mem);(case i1_z9 => with_reducible assumption); (case i2_z9 => with_reducible assumption);(case gt_z9 => k_mem); (case g1_z9 => k_mem); (case g2_z9 => k_mem);(case j1_z9 => with_reducible assumption); (case j2_z9 => with_reducible assumption); (try dsimp only))))
  (k_with "m UnrEndW" => (refine unrEnd_cut (by k_asm) (by k_asm) (by with_unfolding_all exact rfl) (by repeat' (first | (with_reducible apply Cut.here) | (with_reducible apply Cut.step))) (by ktu_offL) ⟨by k_subL, ?_⟩))
  (k_with "m call ref" => (k_here; (with_reducible show wpAny _ _ (call (Value.ref 245) _) _ _ _); k_dflt (refine wpAny_call ?_; refine' enter_try ?k1_z9 ?k2_z9 ?k3_z9 ?k4_z9 ?k5_z9 ?kA_z9 ?kf_z9 ?kK_z9 ?k6_z9 ?k7_z9 ?k8_z9 ?k9_z9 ?kB_z9 ?_ ?c2_z9 ?c3_z9 ?c4_z9 ?c5_z9; (case kA_z9 => exact rfl); (case kf_z9 => exact rfl); (case kK_z9 => exact rfl); (case k2_z9 => k_asm); (case k1_z9 => k_asm); (case k3_z9 => k_asm); (case k4_z9 => k_asm); (case k5_z9 => k_asm); (case k6_z9 => k_is); (case k7_z9 => k_is); (case k8_z9 => k_room); (case k9_z9 => exact BindsTo.of_eq rfl); (case kB_z9 => exact locs rfl); (case c2_z9 => exact rfl); (case c3_z9 => exact rfl); (case c4_z9 => exact rfl); (case c5_z9 => decide); k_whole; intro g' L' h' FG' F' N' B' X' T' D'; (try dsimp only); (try k_lift B'); (try k_fold))))
  (k_with "m leaving ref" => (k_here; (with_reducible show wpAny _ _ (leaving (envX _ _ _ _ _ _) _) _ _ _); k_dflt (refine' leave_onSX ?k1_z9 ?k2_z9 ?k3_z9 ?k4_z9 ?_; (case k3_z9 => assumption); (case k1_z9 => assumption); (case k4_z9 => assumption); (case k2_z9 => assumption); k_whole; intro h' R' U'; (try dsimp only at R' U' ⊢))))
  (k_with "m callWith ref" => (k_here; (first | (with_reducible show wpAny _ _ (callWith _ (Value.ref 210) _ _ _) _ _ _) | (with_reducible show wpAny _ _ (callWith _ (Value.ref 217) _ _ _) _ _ _) | (with_reducible show wpAny _ _ (callWith _ (Value.ref 224) _ _ _) _ _ _) | (with_reducible show wpAny _ _ (callWith _ (Value.ref 238) _ _ _) _ _ _) | (with_reducible show wpAny _ _ (callWith _ (Value.ref 189) _ _ _) _ _ _) | (with_reducible show wpAny _ _ (callWith _ (Value.ref 196) _ _ _) _ _ _) | (with_reducible show wpAny _ _ (callWith _ (Value.ref 245) _ _ _) _ _ _) | (with_reducible show wpAny _ _ (callWith _ (Value.ref 129) _ _ _) _ _ _) | (with_reducible show wpAny _ _ (callWith _ (Value.ref 157) _ _ _) _ _ _) | (with_reducible show wpAny _ _ (callWith _ (Value.ref 178) _ _ _) _ _ _)); k_dflt (first | (refine' callWith_K ?k1_z9 ?k2_z9 ?_; (case k1_z9 => k_asm); (case k2_z9 => k_is); k_whole) | (refine' callWith_noargs ?k0_z9 ?k1_z9 ?k2_z9 ?_; (case k0_z9 => k_asm); (case k1_z9 => k_asm); (case k2_z9 => k_is); k_whole))))
  (k_with "m eval Name" => (k_here; (with_reducible show wpAny _ _ (eval (Expr.Name _ _) (envOfC _ _ _ _ _)) _ _ _); k_dflt (first
      | (name_kind "local"; refine' nameX_L ?F_z9 ?v_z9 ?_ ?a_z9 ?b_z9; (case a_z9 => rfl); (case b_z9 => kernel_rfl!); (case F_z9 => k_asm); (case v_z9 => rfl); k_whole)
      | (name_kind "cell"; refine' nameX_C ?N_z9 ?c_z9 ?m_z9 ?d_z9 ?_ ?a_z9 ?b_z9; (case a_z9 => rfl); (case b_z9 => kernel_rfl!); (case N_z9 => k_asm); (case c_z9 => rfl); (case m_z9 => k_mem); (case d_z9 => k_asm); k_whole)
      | (name_kind "globalImplicit"; refine' nameX_K ?F_z9 ?X_z9 ?T_z9 ?e_z9 ?_ ?a_z9 ?b_z9; (case a_z9 => rfl); (case b_z9 => kernel_rfl!); (case F_z9 => k_asm); (case X_z9 => k_asm); (case T_z9 => k_asm); (case e_z9 => k_is); k_whole))))
  (k_with "m execs cons" => (k_here; (with_reducible show wpAny _ _ (execs (PySem.Stmt.Assign _ _ _ :: PySem.Stmt.Assign _ _ _ :: PySem.Stmt.If _ _ _ _ :: []) (envOfC _ _ _ _ _)) _ _ _); k_dflt (refine' turn rfl rfl ?K_z9 ?F_z9 ?X_z9 ?T_z9 ?mo_z9 ?mn_z9 ?mx_z9 ?mf_z9 ?N_z9 ?kw_z9 ?dw_z9 ?ks_z9 ?ds_z9 ?k0_z9 ?k0'_z9 ?k1_z9 ?k1'_z9 ?k2_z9 ?k2'_z9 ?fb_z9 ?wb_z9 ?xr_z9 ?bd_z9 ?_; (case K_z9 => k_asm); (case F_z9 => k_asm); (case X_z9 => k_asm); (case T_z9 => k_asm); (case mo_z9 => rfl); (case mn_z9 => rfl); (case mx_z9 => rfl); (case mf_z9 => rfl); (case N_z9 => k_asm); (case kw_z9 => k_mem); (case dw_z9 => k_asm); (case ks_z9 => k_mem); (case ds_z9 => k_asm); (case k0_z9 => k_mem); (case k0'_z9 => k_mem); (case k1_z9 => k_mem); (case k1'_z9 => k_mem); (case k2_z9 => k_mem); (case k2'_z9 => k_mem); (case fb_z9 => with_reducible assumption); (case wb_z9 => with_reducible assumption); (case xr_z9 => with_reducible assumption); (case bd_z9 => exact ⟨by omega, by omega, by omega, by omega⟩); k_whole); intro h9 tk9 va9 vb9 vt9 vd9 F9 N9; (try dsimp only); (try k_sweep)))
  k_fill
  intro X
  have hm : (fun y => if y = Str.ofString "other" then some (.int e te) else if y = Str.ofString "one" then some (.int b tb) else if y = Str.ofString "x" then some (.int x tx) else if y = Str.ofString "form" then some (.int v tv) else m y) = m := by
    funext y
    split
    · next q => rw [q, mo]
    · split
      · next q => rw [q, mn]
      · split
        · next q => rw [q, mx]
        · split
          · next q => rw [q, mf]
          · rfl
  have N8 := news_eight N kw ks k0 k0' k1 k1' k2 k2'
  clear N kw ks k0 k0' k1 k1' k2 k2'
  rw [← hm] at F
  (k_with "num" =>
    first
    | exact s_pP (by with_reducible assumption) (by with_reducible assumption)
    | exact s_pT (by with_reducible assumption) (by with_reducible assumption)
    | exact s_pQ (by with_reducible assumption) (by with_reducible assumption)
    | exact num_QT (FB.le (by with_reducible assumption)) (by with_reducible assumption) (by omega)
    | fail)
  k_steps
  (rename Fr _ _ _ _ => Fz; rename News _ _ _ _ => Nz; exact hQ _ _ _ _ _ _ (fr_four hm Fz) (fun q hq => Nz q (by repeat (first | exact hq | apply List.Mem.tail))))
theorem law_holds : PySem.Challenge.rw_rr0055_01.Holds := hd rfl (by
  w_top off
  k_with_none
  (k_with "m call ref" => (k_here; (with_reducible show wpAny _ _ (call (Value.ref 210) _) _ _ _); k_dflt ((refine' use_next ?B_z9 ?F_z9 ?X_z9 ?T_z9 ?k_z9 ?N_z9 ?U_z9 ?sl_z9 ?ne_z9 ?I_z9 ?len_z9 ?i0_z9 ?i1_z9 ?m0_z9 ?m1_z9 ?d_z9 ?u_z9 ?_; (case B_z9 => k_asm); (case F_z9 => k_asm); (case X_z9 => k_asm); (case T_z9 => k_asm); (case k_z9 => first | exact rfl | assumption); (case N_z9 => k_asm); (case U_z9 => (intro t9; k_upd)); (case sl_z9 => k_mem); (case ne_z9 => omega); (case I_z9 => l_ints); (case len_z9 => omega); (case i0_z9 => omega); (case i1_z9 => omega); (case m0_z9 => omega); (case m1_z9 => omega); (case d_z9 => ktr_room); (case u_z9 => ktr_units)); intro v9 t9 t92 h9 tk9 lo9 hi9 F9 N9; (try dsimp only at N9); (try dsimp only); (try k_fold))))
  (k_with "m call ref" => (k_here; (with_reducible show wpAny _ _ (call (Value.ref 210) [_, Value.int 6 _]) _ _ _); (fail_if_success (with_reducible rename XR _ => xr9)); k_dflt ((refine' use_next ?B_z9 ?F_z9 ?X_z9 ?T_z9 ?k_z9 ?N_z9 ?U_z9 ?sl_z9 ?ne_z9 ?I_z9 ?len_z9 ?i0_z9 ?i1_z9 ?m0_z9 ?m1_z9 ?d_z9 ?u_z9 ?_; (case B_z9 => k_asm); (case F_z9 => k_asm); (case X_z9 => k_asm); (case T_z9 => k_asm); (case k_z9 => first | exact rfl | assumption); (case N_z9 => k_asm); (case U_z9 => (intro t9; k_upd)); (case sl_z9 => k_mem); (case ne_z9 => omega); (case I_z9 => l_ints); (case len_z9 => omega); (case i0_z9 => omega); (case i1_z9 => omega); (case m0_z9 => omega); (case m1_z9 => omega); (case d_z9 => ktr_room); (case u_z9 => ktr_units)); intro v9 t9 t92 h9 tk9 lo9 hi9 F9 N9; (try dsimp only at N9); (try dsimp only); (have xr9 : XR (2 + v9) := ⟨by omega, by omega⟩); (try k_fold))))
  (k_with "m call ref" => (k_here; (with_reducible show wpAny _ _ (call (Value.ref 210) [_, Value.int 8 _]) _ _ _); (fail_if_success (with_reducible rename WB _ => wb9)); k_dflt ((refine' use_next ?B_z9 ?F_z9 ?X_z9 ?T_z9 ?k_z9 ?N_z9 ?U_z9 ?sl_z9 ?ne_z9 ?I_z9 ?len_z9 ?i0_z9 ?i1_z9 ?m0_z9 ?m1_z9 ?d_z9 ?u_z9 ?_; (case B_z9 => k_asm); (case F_z9 => k_asm); (case X_z9 => k_asm); (case T_z9 => k_asm); (case k_z9 => first | exact rfl | assumption); (case N_z9 => k_asm); (case U_z9 => (intro t9; k_upd)); (case sl_z9 => k_mem); (case ne_z9 => omega); (case I_z9 => l_ints); (case len_z9 => omega); (case i0_z9 => omega); (case i1_z9 => omega); (case m0_z9 => omega); (case m1_z9 => omega); (case d_z9 => ktr_room); (case u_z9 => ktr_units)); intro v9 t9 t92 h9 tk9 lo9 hi9 F9 N9; (try dsimp only at N9); (try dsimp only); (have wb9 : WB (2 + v9) := ⟨by omega, by omega⟩); (try k_fold))))
  (k_with "m call ref" => (k_here; (with_reducible show wpAny _ _ (call (Value.ref 210) [_, Value.int 3 _]) _ _ _); (fail_if_success (with_reducible rename FB _ => fb9)); k_dflt ((refine' use_next ?B_z9 ?F_z9 ?X_z9 ?T_z9 ?k_z9 ?N_z9 ?U_z9 ?sl_z9 ?ne_z9 ?I_z9 ?len_z9 ?i0_z9 ?i1_z9 ?m0_z9 ?m1_z9 ?d_z9 ?u_z9 ?_; (case B_z9 => k_asm); (case F_z9 => k_asm); (case X_z9 => k_asm); (case T_z9 => k_asm); (case k_z9 => first | exact rfl | assumption); (case N_z9 => k_asm); (case U_z9 => (intro t9; k_upd)); (case sl_z9 => k_mem); (case ne_z9 => omega); (case I_z9 => l_ints); (case len_z9 => omega); (case i0_z9 => omega); (case i1_z9 => omega); (case m0_z9 => omega); (case m1_z9 => omega); (case d_z9 => ktr_room); (case u_z9 => ktr_units)); intro v9 t9 t92 h9 tk9 lo9 hi9 F9 N9; (try dsimp only at N9); (try dsimp only); (have fb9 : FB v9 := ⟨by omega, by omega⟩); (try k_fold))))
  (k_with "m call ref" => (k_here; (with_reducible show wpAny _ _ (call (Value.ref 217) _) _ _ _); k_dflt (refine' ct_list (s_lrow ?x_z9 ?wb_z9) ?B_z9 ?F_z9 ?X_z9 ?T_z9 ?k_z9 ?N_z9 ?p_z9 ?d_z9 ?u_z9 ?_; (case B_z9 => k_asm); (case F_z9 => k_asm); (case X_z9 => k_asm); (case T_z9 => k_asm); (case k_z9 => first | exact rfl | assumption); (case N_z9 => k_asm); (case p_z9 => exact True.intro); (case x_z9 => k_extra "num"); (case wb_z9 => with_reducible assumption); (case d_z9 => ktr_room); (case u_z9 => ktr_units)); intro l9 us9 c9 h9 tk9 F9 N9 ne9 I9; clear ne9; (try dsimp only); (try k_fold)))
  (k_with "m call ref" => (k_here; (with_reducible show wpAny _ _ (call (Value.ref 224) _) _ _ _); k_dflt (refine' ct_sgn (s_lsigned ?x_z9 ?wb_z9) ?B_z9 ?F_z9 ?X_z9 ?T_z9 ?k_z9 ?N_z9 ?p_z9 ?d_z9 ?u_z9 ?_; (case B_z9 => k_asm); (case F_z9 => k_asm); (case X_z9 => k_asm); (case T_z9 => k_asm); (case k_z9 => first | exact rfl | assumption); (case N_z9 => k_asm); (case p_z9 => exact True.intro); (case x_z9 => k_extra "num"); (case wb_z9 => with_reducible assumption); (case d_z9 => ktr_room); (case u_z9 => ktr_units)); intro t9 l9 us9 c9 h9 tk9 F9 N9 ne9 ne9' I9; clear ne9 ne9'; (try dsimp only); (try k_fold)))
  (k_with "m call ref" => (k_here; (with_reducible show wpAny _ _ (call (Value.ref 238) _) _ _ _); k_dflt ((with_reducible refine with_bd (by first | with_reducible assumption | exact ⟨by omega, by omega, by omega, by omega⟩) ?_); intro bd9; refine' ct_ints (s_lpiece ?fb_z9 ?xr_z9 ?bd_z9) ?B_z9 ?F_z9 ?X_z9 ?T_z9 ?k_z9 ?N_z9 ?p_z9 ?d_z9 ?u_z9 ?_; (case B_z9 => k_asm); (case F_z9 => k_asm); (case X_z9 => k_asm); (case T_z9 => k_asm); (case k_z9 => first | exact rfl | assumption); (case N_z9 => k_asm); (case fb_z9 => with_reducible assumption); (case p_z9 => exact True.intro); (case xr_z9 => with_reducible assumption); (case bd_z9 => with_reducible assumption); (case d_z9 => ktr_room); (case u_z9 => ktr_units)); intro t9 t91 t92 t93 h9 tk9 F9 N9 ne9; clear ne9; (try dsimp only); (try k_fold)))
  (k_with "m call ref" => (k_here; (with_reducible show wpAny _ _ (call (Value.ref 189) (Value.ref (pick _ _ _ _) :: _)) _ _ _); k_dflt (refine' ct_pieceQ (s_split ?fb_z9 ?wb_z9 ?xr_z9 ?bd_z9) ?pq_z9 ?B_z9 ?F_z9 ?X_z9 ?T_z9 ?k_z9 ?N_z9 ?p_z9 ?d_z9 ?u_z9 ?_; (case bd_z9 => with_reducible assumption); (case B_z9 => k_asm); (case F_z9 => k_asm); (case X_z9 => k_asm); (case T_z9 => k_asm); (case k_z9 => first | exact rfl | assumption); (case N_z9 => k_asm); (case fb_z9 => with_reducible assumption); (case xr_z9 => with_reducible assumption); (case p_z9 => exact ⟨⟨_, News.get (by k_asm) (by k_mem), News.get (by k_asm) (by k_mem)⟩, ⟨_, _, _, _, News.get (by k_asm) (by k_mem), News.get (by k_asm) (by k_mem)⟩, ⟨_, News.get (by k_asm) (by k_mem), News.get (by k_asm) (by k_mem)⟩⟩); (case pq_z9 => exact s_posQ (by with_reducible assumption) (by with_reducible assumption)); (case wb_z9 => with_reducible assumption); (case d_z9 => ktr_room); (case u_z9 => ktr_units)); intro t9 t91 t93 l91 l92 l93 v91 v92 v93 c91 c92 c93 h9 tk9 F9 N9 I91 I92 I93; (try dsimp only); (try k_fold)))
  (k_with "m call ref" => (k_here; (with_reducible show wpAny _ _ (call (Value.ref 196) (Value.ref (pick _ _ _ _) :: _)) _ _ _); k_dflt (refine' ct_frac (s_frac ?fb_z9 ?wb_z9 ?xr_z9 ?h0_z9 ?h4_z9) ?B_z9 ?F_z9 ?X_z9 ?T_z9 ?k_z9 ?N_z9 ?p_z9 ?d_z9 ?u_z9 ?_; (case B_z9 => k_asm); (case F_z9 => k_asm); (case X_z9 => k_asm); (case T_z9 => k_asm); (case k_z9 => first | exact rfl | assumption); (case N_z9 => k_asm); (case h0_z9 => omega); (case h4_z9 => omega); (case fb_z9 => with_reducible assumption); (case xr_z9 => with_reducible assumption); (case p_z9 => exact ⟨⟨_, News.get (by k_asm) (by k_mem), News.get (by k_asm) (by k_mem)⟩, ⟨_, _, _, _, News.get (by k_asm) (by k_mem), News.get (by k_asm) (by k_mem)⟩, ⟨_, News.get (by k_asm) (by k_mem), News.get (by k_asm) (by k_mem)⟩⟩); (case wb_z9 => with_reducible assumption); (case d_z9 => ktr_room); (case u_z9 => ktr_units)); intro t9 l91 l92 v91 v92 c91 c92 h9 tk9 F9 N9 ne91 ne92 ne93 I91 I92; clear ne91 ne92 ne93; (try dsimp only); (try k_fold)))
  (k_with "m subscriptTail" => (k_here; (with_reducible show wpAny _ _ (subscriptTail _ _ (Value.ref _) (Value.int _ _)) _ _ _); (with_unfolding_all refine' item_litK ?k1_z9 ?k2_z9 ?k3_z9 (pick_get ?k4_z9 ?k5_z9) ?_ ?k6_z9; (case k1_z9 => is_list); (case k2_z9 => omega); (case k3_z9 => exact below63 (by omega)); (case k4_z9 => omega); (case k5_z9 => omega); (case k6_z9 => with_unfolding_all rfl); k_whole)))
  (k_with "m ite" => (k_here; (with_reducible refine ite_ints ?_); intro z9 hz9; (have hz91 : 3 ≤ z9 := by omega); (have hz92 : z9 ≤ 5 := by omega); clear hz9; (try dsimp only)))
  (k_with "m compareOp NotEq ref ref" => (k_here; (with_reducible show wpAny _ _ (compareOp CmpOp.NotEq (Value.ref _) (Value.ref _)) _ _ _); k_dflt ((refine' ne_piece ?hu_z9 ?N_z9 ?ht_z9 ?ht1_z9 ?ht3_z9 ?h1_z9 ?h2_z9 ?h3_z9 ?i1_z9 ?i2_z9 ?i3_z9 ?gt_z9 ?gt1_z9 ?gt3_z9 ?g1_z9 ?g2_z9 ?g3_z9 ?j1_z9 ?j2_z9 ?j3_z9 ?_); (case hu_z9 => ke_room); (case N_z9 => k_asm); (case ht_z9 => k_mem); (case ht1_z9 => k_mem); (case ht3_z9 => k_mem); (case h1_z9 => k_mem); (case h2_z9 => k_mem); (case h3_z9 => k_mem);(case i1_z9 => with_reducible assumption); (case i2_z9 => with_reducible assumption); (case i3_z9 => with_reducible assumption);(case gt_z9 => k_mem); (case gt1_z9 => k_mem); (case gt3_z9 => k_mem); (case g1_z9 => k_mem); (case g2_z9 => k_mem); (case g3_z9 => k_mem);(case j1_z9 => with_reducible assumption); (case j2_z9 => with_reducible assumption); (case j3_z9 => with_reducible assumption); (try dsimp only))))
  (k_with "m compareOp Eq ref ref" => (k_here; (with_reducible show wpAny _ _ (compareOp CmpOp.Eq (Value.ref _) (Value.ref _)) _ _ _); k_dflt ((refine' eq_pair ?hu_z9 ?N_z9 ?ht_z9 ?h1_z9 ?h2_z9 ?i1_z9 ?i2_z9 ?gt_z9 ?g1_z9 ?g2_z9 ?j1_z9 ?j2_z9 ?_); (case hu_z9 => ke_room); (case N_z9 => k_asm); (case ht_z9 => k_mem); (case h1_z9 => k_mem); (case h2_z9 => k_mem);(case i1_z9 => with_reducible assumption); (case i2_z9 => with_reducible assumption);(case gt_z9 => k_mem); (case g1_z9 => k_mem); (case g2_z9 => k_mem);(case j1_z9 => with_reducible assumption); (case j2_z9 => with_reducible assumption); (try dsimp only))))
  (k_with "m UnrEndW" => (refine unrEnd_cut (by k_asm) (by k_asm) (by with_unfolding_all exact rfl) (by repeat' (first | (with_reducible apply Cut.here) | (with_reducible apply Cut.step))) (by ktu_offL) ⟨by k_subL, ?_⟩))
  (k_with "m call ref" => (k_here; (with_reducible show wpAny _ _ (call (Value.ref 245) _) _ _ _); k_dflt (refine wpAny_call ?_; refine' enter_try ?k1_z9 ?k2_z9 ?k3_z9 ?k4_z9 ?k5_z9 ?kA_z9 ?kf_z9 ?kK_z9 ?k6_z9 ?k7_z9 ?k8_z9 ?k9_z9 ?kB_z9 ?_ ?c2_z9 ?c3_z9 ?c4_z9 ?c5_z9; (case kA_z9 => exact rfl); (case kf_z9 => exact rfl); (case kK_z9 => exact rfl); (case k2_z9 => k_asm); (case k1_z9 => k_asm); (case k3_z9 => k_asm); (case k4_z9 => k_asm); (case k5_z9 => k_asm); (case k6_z9 => k_is); (case k7_z9 => k_is); (case k8_z9 => k_room); (case k9_z9 => exact BindsTo.of_eq rfl); (case kB_z9 => exact locs rfl); (case c2_z9 => exact rfl); (case c3_z9 => exact rfl); (case c4_z9 => exact rfl); (case c5_z9 => decide); k_whole; intro g' L' h' FG' F' N' B' X' T' D'; (try dsimp only); (try k_lift B'); (try k_fold))))
  (k_with "m leaving ref" => (k_here; (with_reducible show wpAny _ _ (leaving (envX _ _ _ _ _ _) _) _ _ _); k_dflt (refine' leave_onSX ?k1_z9 ?k2_z9 ?k3_z9 ?k4_z9 ?_; (case k3_z9 => assumption); (case k1_z9 => assumption); (case k4_z9 => assumption); (case k2_z9 => assumption); k_whole; intro h' R' U'; (try dsimp only at R' U' ⊢))))
  (k_with "m callWith ref" => (k_here; (first | (with_reducible show wpAny _ _ (callWith _ (Value.ref 210) _ _ _) _ _ _) | (with_reducible show wpAny _ _ (callWith _ (Value.ref 217) _ _ _) _ _ _) | (with_reducible show wpAny _ _ (callWith _ (Value.ref 224) _ _ _) _ _ _) | (with_reducible show wpAny _ _ (callWith _ (Value.ref 238) _ _ _) _ _ _) | (with_reducible show wpAny _ _ (callWith _ (Value.ref 189) _ _ _) _ _ _) | (with_reducible show wpAny _ _ (callWith _ (Value.ref 196) _ _ _) _ _ _) | (with_reducible show wpAny _ _ (callWith _ (Value.ref 245) _ _ _) _ _ _) | (with_reducible show wpAny _ _ (callWith _ (Value.ref 129) _ _ _) _ _ _) | (with_reducible show wpAny _ _ (callWith _ (Value.ref 157) _ _ _) _ _ _) | (with_reducible show wpAny _ _ (callWith _ (Value.ref 178) _ _ _) _ _ _)); k_dflt (first | (refine' callWith_K ?k1_z9 ?k2_z9 ?_; (case k1_z9 => k_asm); (case k2_z9 => k_is); k_whole) | (refine' callWith_noargs ?k0_z9 ?k1_z9 ?k2_z9 ?_; (case k0_z9 => k_asm); (case k1_z9 => k_asm); (case k2_z9 => k_is); k_whole))))
  (k_with "m eval Name" => (k_here; (with_reducible show wpAny _ _ (eval (Expr.Name _ _) (envOfC _ _ _ _ _)) _ _ _); k_dflt (first
      | (name_kind "local"; refine' nameX_L ?F_z9 ?v_z9 ?_ ?a_z9 ?b_z9; (case a_z9 => rfl); (case b_z9 => kernel_rfl!); (case F_z9 => k_asm); (case v_z9 => rfl); k_whole)
      | (name_kind "cell"; refine' nameX_C ?N_z9 ?c_z9 ?m_z9 ?d_z9 ?_ ?a_z9 ?b_z9; (case a_z9 => rfl); (case b_z9 => kernel_rfl!); (case N_z9 => k_asm); (case c_z9 => rfl); (case m_z9 => k_mem); (case d_z9 => k_asm); k_whole)
      | (name_kind "globalImplicit"; refine' nameX_K ?F_z9 ?X_z9 ?T_z9 ?e_z9 ?_ ?a_z9 ?b_z9; (case a_z9 => rfl); (case b_z9 => kernel_rfl!); (case F_z9 => k_asm); (case X_z9 => k_asm); (case T_z9 => k_asm); (case e_z9 => k_is); k_whole))))
  (k_with "m execs cons" => (k_here; (with_reducible show wpAny _ _ (execs (PySem.Stmt.Assign _ _ _ :: PySem.Stmt.Assign _ _ _ :: PySem.Stmt.If _ _ _ _ :: []) (envOfC _ _ _ _ _)) _ _ _); k_dflt (refine' turn rfl rfl ?K_z9 ?F_z9 ?X_z9 ?T_z9 ?mo_z9 ?mn_z9 ?mx_z9 ?mf_z9 ?N_z9 ?kw_z9 ?dw_z9 ?ks_z9 ?ds_z9 ?k0_z9 ?k0'_z9 ?k1_z9 ?k1'_z9 ?k2_z9 ?k2'_z9 ?fb_z9 ?wb_z9 ?xr_z9 ?bd_z9 ?_; (case K_z9 => k_asm); (case F_z9 => k_asm); (case X_z9 => k_asm); (case T_z9 => k_asm); (case mo_z9 => rfl); (case mn_z9 => rfl); (case mx_z9 => rfl); (case mf_z9 => rfl); (case N_z9 => k_asm); (case kw_z9 => k_mem); (case dw_z9 => k_asm); (case ks_z9 => k_mem); (case ds_z9 => k_asm); (case k0_z9 => k_mem); (case k0'_z9 => k_mem); (case k1_z9 => k_mem); (case k1'_z9 => k_mem); (case k2_z9 => k_mem); (case k2'_z9 => k_mem); (case fb_z9 => with_reducible assumption); (case wb_z9 => with_reducible assumption); (case xr_z9 => with_reducible assumption); (case bd_z9 => exact ⟨by omega, by omega, by omega, by omega⟩); k_whole); intro h9 tk9 va9 vb9 vt9 vd9 F9 N9; (try dsimp only); (try k_sweep)))
  k_go0
  all_goals try k_fold
  (k_with "num" =>
    first
    | exact s_pP (by with_reducible assumption) (by with_reducible assumption)
    | exact s_pT (by with_reducible assumption) (by with_reducible assumption)
    | exact s_pQ (by with_reducible assumption) (by with_reducible assumption)
    | exact num_QT (FB.le (by with_reducible assumption)) (by with_reducible assumption) (by omega)
    | fail)
  k_steps)
end
end Mine
theorem PySem.Challenge.cw_rr0055_01_holds : PySem.Challenge.rw_rr0055_01.Holds :=
  Mine.law_holds
