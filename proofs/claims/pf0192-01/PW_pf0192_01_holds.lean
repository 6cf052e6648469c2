import PyProof.Rows.All
import Wide.All
import OpenK.AllK
import Wide.FinOn
import PySem.Challenge.RW_pf0192_01
open PySem PySem.W PyProof.Rows PySem.Calls
set_option Elab.async false
namespace Mine
set_option maxRecDepth 100000
set_option maxHeartbeats 8000000
namespace Hx
set_option maxRecDepth 100000
noncomputable def st (i : Nat) : Stmt := (PySem.Challenge.pw_pf0192_01.main.body[i]?).getD (Stmt.Pass (Pos.mk 0 0 0 0))
noncomputable def sub (s : Stmt) (i : Nat) : Stmt := match s with
  | .ClassDef _ _ _ b _ _ _ _ _ _ _ => (b[i]?).getD (Stmt.Pass (Pos.mk 0 0 0 0))
  | s => s
noncomputable def At {α : Type} (_ : α) : Prop := True
@[reducible] noncomputable def out {α : Type} {a : α} (_ : At a) : α := a
theorem atA {s : Stmt} {n a b d r t c ts bd p} (_ : s = Stmt.FunctionDef n a b d r t c ts bd p) : At a := trivial
theorem atBF {s : Stmt} {n a b d r t c ts bd p} (_ : s = Stmt.FunctionDef n a b d r t c ts bd p) : At b := trivial
theorem atSF {s : Stmt} {n a b d r t c ts bd p} (_ : s = Stmt.FunctionDef n a b d r t c ts bd p) : At c := trivial
theorem atBC {s : Stmt} {n bs ks b d t c ts bd sa p} (_ : s = Stmt.ClassDef n bs ks b d t c ts bd sa p) : At b := trivial
theorem atSC {s : Stmt} {n bs ks b d t c ts bd sa p} (_ : s = Stmt.ClassDef n bs ks b d t c ts bd sa p) : At c := trivial
@[reducible] noncomputable def a0 : Arguments := out (atA (s := (st 0)) rfl)
@[reducible] noncomputable def b0 : List Stmt := out (atBF (s := (st 0)) rfl)
@[reducible] noncomputable def c0 : Scope := out (atSF (s := (st 0)) rfl)
@[reducible] noncomputable def a2 : Arguments := out (atA (s := (sub (st 2) 0)) rfl)
@[reducible] noncomputable def b2 : List Stmt := out (atBF (s := (sub (st 2) 0)) rfl)
@[reducible] noncomputable def c2 : Scope := out (atSF (s := (sub (st 2) 0)) rfl)
@[reducible] noncomputable def a6 : Arguments := out (atA (s := (st 8)) rfl)
@[reducible] noncomputable def b6 : List Stmt := out (atBF (s := (st 8)) rfl)
@[reducible] noncomputable def c6 : Scope := out (atSF (s := (st 8)) rfl)
@[reducible] noncomputable def a7 : Arguments := out (atA (s := (st 9)) rfl)
@[reducible] noncomputable def b7 : List Stmt := out (atBF (s := (st 9)) rfl)
@[reducible] noncomputable def c7 : Scope := out (atSF (s := (st 9)) rfl)
@[reducible] noncomputable def a8 : Arguments := out (atA (s := (st 10)) rfl)
@[reducible] noncomputable def b8 : List Stmt := out (atBF (s := (st 10)) rfl)
@[reducible] noncomputable def c8 : Scope := out (atSF (s := (st 10)) rfl)
@[reducible] noncomputable def a9 : Arguments := out (atA (s := (st 11)) rfl)
@[reducible] noncomputable def b9 : List Stmt := out (atBF (s := (st 11)) rfl)
@[reducible] noncomputable def c9 : Scope := out (atSF (s := (st 11)) rfl)
@[reducible] noncomputable def a10 : Arguments := out (atA (s := (st 12)) rfl)
@[reducible] noncomputable def b10 : List Stmt := out (atBF (s := (st 12)) rfl)
@[reducible] noncomputable def c10 : Scope := out (atSF (s := (st 12)) rfl)
@[reducible] noncomputable def a11 : Arguments := out (atA (s := (st 13)) rfl)
@[reducible] noncomputable def b11 : List Stmt := out (atBF (s := (st 13)) rfl)
@[reducible] noncomputable def c11 : Scope := out (atSF (s := (st 13)) rfl)
@[reducible] noncomputable def a12 : Arguments := out (atA (s := (st 14)) rfl)
@[reducible] noncomputable def b12 : List Stmt := out (atBF (s := (st 14)) rfl)
@[reducible] noncomputable def c12 : Scope := out (atSF (s := (st 14)) rfl)
@[reducible] noncomputable def a13 : Arguments := out (atA (s := (st 15)) rfl)
@[reducible] noncomputable def b13 : List Stmt := out (atBF (s := (st 15)) rfl)
@[reducible] noncomputable def c13 : Scope := out (atSF (s := (st 15)) rfl)
@[reducible] noncomputable def a14 : Arguments := out (atA (s := (st 16)) rfl)
@[reducible] noncomputable def b14 : List Stmt := out (atBF (s := (st 16)) rfl)
@[reducible] noncomputable def c14 : Scope := out (atSF (s := (st 16)) rfl)
@[reducible] noncomputable def a15 : Arguments := out (atA (s := (st 17)) rfl)
@[reducible] noncomputable def b15 : List Stmt := out (atBF (s := (st 17)) rfl)
@[reducible] noncomputable def c15 : Scope := out (atSF (s := (st 17)) rfl)
@[reducible] noncomputable def a16 : Arguments := out (atA (s := (st 19)) rfl)
@[reducible] noncomputable def b16 : List Stmt := out (atBF (s := (st 19)) rfl)
@[reducible] noncomputable def c16 : Scope := out (atSF (s := (st 19)) rfl)
@[reducible] noncomputable def a17 : Arguments := out (atA (s := (st 22)) rfl)
@[reducible] noncomputable def b17 : List Stmt := out (atBF (s := (st 22)) rfl)
@[reducible] noncomputable def c17 : Scope := out (atSF (s := (st 22)) rfl)
@[reducible] noncomputable def a19 : Arguments := out (atA (s := (sub (st 23) 0)) rfl)
@[reducible] noncomputable def b19 : List Stmt := out (atBF (s := (sub (st 23) 0)) rfl)
@[reducible] noncomputable def c19 : Scope := out (atSF (s := (sub (st 23) 0)) rfl)
@[reducible] noncomputable def a20 : Arguments := out (atA (s := (sub (st 23) 1)) rfl)
@[reducible] noncomputable def b20 : List Stmt := out (atBF (s := (sub (st 23) 1)) rfl)
@[reducible] noncomputable def c20 : Scope := out (atSF (s := (sub (st 23) 1)) rfl)
@[reducible] noncomputable def a21 : Arguments := out (atA (s := (sub (st 23) 2)) rfl)
@[reducible] noncomputable def b21 : List Stmt := out (atBF (s := (sub (st 23) 2)) rfl)
@[reducible] noncomputable def c21 : Scope := out (atSF (s := (sub (st 23) 2)) rfl)
@[reducible] noncomputable def a22 : Arguments := out (atA (s := (sub (st 23) 3)) rfl)
@[reducible] noncomputable def b22 : List Stmt := out (atBF (s := (sub (st 23) 3)) rfl)
@[reducible] noncomputable def c22 : Scope := out (atSF (s := (sub (st 23) 3)) rfl)
@[reducible] noncomputable def a24 : Arguments := out (atA (s := (sub (st 26) 0)) rfl)
@[reducible] noncomputable def b24 : List Stmt := out (atBF (s := (sub (st 26) 0)) rfl)
@[reducible] noncomputable def c24 : Scope := out (atSF (s := (sub (st 26) 0)) rfl)
@[reducible] noncomputable def a25 : Arguments := out (atA (s := (sub (st 26) 1)) rfl)
@[reducible] noncomputable def b25 : List Stmt := out (atBF (s := (sub (st 26) 1)) rfl)
@[reducible] noncomputable def c25 : Scope := out (atSF (s := (sub (st 26) 1)) rfl)
@[reducible] noncomputable def a26 : Arguments := out (atA (s := (sub (st 26) 2)) rfl)
@[reducible] noncomputable def b26 : List Stmt := out (atBF (s := (sub (st 26) 2)) rfl)
@[reducible] noncomputable def c26 : Scope := out (atSF (s := (sub (st 26) 2)) rfl)
@[reducible] noncomputable def a27 : Arguments := out (atA (s := (sub (st 26) 3)) rfl)
@[reducible] noncomputable def b27 : List Stmt := out (atBF (s := (sub (st 26) 3)) rfl)
@[reducible] noncomputable def c27 : Scope := out (atSF (s := (sub (st 26) 3)) rfl)
@[reducible] noncomputable def a28 : Arguments := out (atA (s := (sub (st 26) 4)) rfl)
@[reducible] noncomputable def b28 : List Stmt := out (atBF (s := (sub (st 26) 4)) rfl)
@[reducible] noncomputable def c28 : Scope := out (atSF (s := (sub (st 26) 4)) rfl)
@[reducible] noncomputable def a29 : Arguments := out (atA (s := (sub (st 26) 5)) rfl)
@[reducible] noncomputable def b29 : List Stmt := out (atBF (s := (sub (st 26) 5)) rfl)
@[reducible] noncomputable def c29 : Scope := out (atSF (s := (sub (st 26) 5)) rfl)
@[reducible] noncomputable def a30 : Arguments := out (atA (s := (sub (st 26) 6)) rfl)
@[reducible] noncomputable def b30 : List Stmt := out (atBF (s := (sub (st 26) 6)) rfl)
@[reducible] noncomputable def c30 : Scope := out (atSF (s := (sub (st 26) 6)) rfl)
@[reducible] noncomputable def a31 : Arguments := out (atA (s := (sub (st 26) 7)) rfl)
@[reducible] noncomputable def b31 : List Stmt := out (atBF (s := (sub (st 26) 7)) rfl)
@[reducible] noncomputable def c31 : Scope := out (atSF (s := (sub (st 26) 7)) rfl)
@[reducible] noncomputable def a32 : Arguments := out (atA (s := (sub (st 26) 8)) rfl)
@[reducible] noncomputable def b32 : List Stmt := out (atBF (s := (sub (st 26) 8)) rfl)
@[reducible] noncomputable def c32 : Scope := out (atSF (s := (sub (st 26) 8)) rfl)
@[reducible] noncomputable def a34 : Arguments := out (atA (s := (sub (st 28) 0)) rfl)
@[reducible] noncomputable def b34 : List Stmt := out (atBF (s := (sub (st 28) 0)) rfl)
@[reducible] noncomputable def c34 : Scope := out (atSF (s := (sub (st 28) 0)) rfl)
@[reducible] noncomputable def a35 : Arguments := out (atA (s := (sub (st 28) 1)) rfl)
@[reducible] noncomputable def b35 : List Stmt := out (atBF (s := (sub (st 28) 1)) rfl)
@[reducible] noncomputable def c35 : Scope := out (atSF (s := (sub (st 28) 1)) rfl)
@[reducible] noncomputable def a36 : Arguments := out (atA (s := (sub (st 28) 2)) rfl)
@[reducible] noncomputable def b36 : List Stmt := out (atBF (s := (sub (st 28) 2)) rfl)
@[reducible] noncomputable def c36 : Scope := out (atSF (s := (sub (st 28) 2)) rfl)
@[reducible] noncomputable def a37 : Arguments := out (atA (s := (sub (st 28) 3)) rfl)
@[reducible] noncomputable def b37 : List Stmt := out (atBF (s := (sub (st 28) 3)) rfl)
@[reducible] noncomputable def c37 : Scope := out (atSF (s := (sub (st 28) 3)) rfl)
@[reducible] noncomputable def a38 : Arguments := out (atA (s := (sub (st 28) 4)) rfl)
@[reducible] noncomputable def b38 : List Stmt := out (atBF (s := (sub (st 28) 4)) rfl)
@[reducible] noncomputable def c38 : Scope := out (atSF (s := (sub (st 28) 4)) rfl)
@[reducible] noncomputable def a39 : Arguments := out (atA (s := (sub (st 28) 5)) rfl)
@[reducible] noncomputable def b39 : List Stmt := out (atBF (s := (sub (st 28) 5)) rfl)
@[reducible] noncomputable def c39 : Scope := out (atSF (s := (sub (st 28) 5)) rfl)
@[reducible] noncomputable def a40 : Arguments := out (atA (s := (sub (st 28) 6)) rfl)
@[reducible] noncomputable def b40 : List Stmt := out (atBF (s := (sub (st 28) 6)) rfl)
@[reducible] noncomputable def c40 : Scope := out (atSF (s := (sub (st 28) 6)) rfl)
@[reducible] noncomputable def a41 : Arguments := out (atA (s := (st 30)) rfl)
@[reducible] noncomputable def b41 : List Stmt := out (atBF (s := (st 30)) rfl)
@[reducible] noncomputable def c41 : Scope := out (atSF (s := (st 30)) rfl)
@[reducible] noncomputable def a42 : Arguments := out (atA (s := (st 31)) rfl)
@[reducible] noncomputable def b42 : List Stmt := out (atBF (s := (st 31)) rfl)
@[reducible] noncomputable def c42 : Scope := out (atSF (s := (st 31)) rfl)
@[reducible] noncomputable def a43 : Arguments := out (atA (s := (st 32)) rfl)
@[reducible] noncomputable def b43 : List Stmt := out (atBF (s := (st 32)) rfl)
@[reducible] noncomputable def c43 : Scope := out (atSF (s := (st 32)) rfl)
@[reducible] noncomputable def a44 : Arguments := out (atA (s := (st 33)) rfl)
@[reducible] noncomputable def b44 : List Stmt := out (atBF (s := (st 33)) rfl)
@[reducible] noncomputable def c44 : Scope := out (atSF (s := (st 33)) rfl)
@[reducible] noncomputable def a45 : Arguments := out (atA (s := (st 34)) rfl)
@[reducible] noncomputable def b45 : List Stmt := out (atBF (s := (st 34)) rfl)
@[reducible] noncomputable def c45 : Scope := out (atSF (s := (st 34)) rfl)
@[reducible] noncomputable def a46 : Arguments := out (atA (s := (st 35)) rfl)
@[reducible] noncomputable def b46 : List Stmt := out (atBF (s := (st 35)) rfl)
@[reducible] noncomputable def c46 : Scope := out (atSF (s := (st 35)) rfl)
@[reducible] noncomputable def a47 : Arguments := out (atA (s := (st 36)) rfl)
@[reducible] noncomputable def b47 : List Stmt := out (atBF (s := (st 36)) rfl)
@[reducible] noncomputable def c47 : Scope := out (atSF (s := (st 36)) rfl)
@[reducible] noncomputable def a48 : Arguments := out (atA (s := (st 37)) rfl)
@[reducible] noncomputable def b48 : List Stmt := out (atBF (s := (st 37)) rfl)
@[reducible] noncomputable def c48 : Scope := out (atSF (s := (st 37)) rfl)
@[reducible] noncomputable def a49 : Arguments := out (atA (s := (st 38)) rfl)
@[reducible] noncomputable def b49 : List Stmt := out (atBF (s := (st 38)) rfl)
@[reducible] noncomputable def c49 : Scope := out (atSF (s := (st 38)) rfl)
@[reducible] noncomputable def a50 : Arguments := out (atA (s := (st 39)) rfl)
@[reducible] noncomputable def b50 : List Stmt := out (atBF (s := (st 39)) rfl)
@[reducible] noncomputable def c50 : Scope := out (atSF (s := (st 39)) rfl)
@[reducible] noncomputable def a51 : Arguments := out (atA (s := (st 40)) rfl)
@[reducible] noncomputable def b51 : List Stmt := out (atBF (s := (st 40)) rfl)
@[reducible] noncomputable def c51 : Scope := out (atSF (s := (st 40)) rfl)
noncomputable def K : Params → Frag := fun P => ((
(nat_lit 2, Obj.mk Value.none none (Data.dict #[DictEntry.mk (PyData.keyHash P (Str.ofString "type.__subclasses__.Exception.0")) (Value.str (Str.ofString "type.__subclasses__.Exception.0") 221) (Value.int 38 0), DictEntry.mk (PyData.keyHash P (Str.ofString "type.__subclasses__.Exception.n")) (Value.str (Str.ofString "type.__subclasses__.Exception.n") 222) (Value.int 1 0)] 2) #[])::
(nat_lit 3, Obj.mk (Value.type "dict") none (Data.dict #[DictEntry.mk (PyData.keyHash P (Str.ofString "__name__")) (Value.str (Str.ofString "__name__") 165) (Value.str (Str.ofString "law_pf0192_01") 647), DictEntry.mk (PyData.keyHash P (Str.ofString "__doc__")) (Value.str (Str.ofString "__doc__") 166) Value.none, DictEntry.mk (PyData.keyHash P (Str.ofString "__package__")) (Value.str (Str.ofString "__package__") 167) Value.none, DictEntry.mk (PyData.keyHash P (Str.ofString "__loader__")) (Value.str (Str.ofString "__loader__") 168) (Value.builtin "__main__.__loader__#opaque"), DictEntry.mk (PyData.keyHash P (Str.ofString "__spec__")) (Value.str (Str.ofString "__spec__") 169) Value.none, DictEntry.mk (PyData.keyHash P (Str.ofString "__annotations__")) (Value.str (Str.ofString "__annotations__") 170) (Value.ref 6), DictEntry.mk (PyData.keyHash P (Str.ofString "__builtins__")) (Value.str (Str.ofString "__builtins__") 171) (Value.ref 4), DictEntry.mk (PyData.keyHash P (Str.ofString "__file__")) (Value.str (Str.ofString "__file__") 173) (Value.str (Str.ofString "/claim/cut.py") 172), DictEntry.mk (PyData.keyHash P (Str.ofString "__cached__")) (Value.str (Str.ofString "__cached__") 174) Value.none, DictEntry.mk (PyData.keyHash P (Str.ofString "_wall")) (Value.str (Str.ofString "_wall") 193) (Value.ref 21), DictEntry.mk (PyData.keyHash P (Str.ofString "MillError")) (Value.str (Str.ofString "MillError") 224) (Value.ref 38), DictEntry.mk (PyData.keyHash P (Str.ofString "NumberFault")) (Value.str (Str.ofString "NumberFault") 240) (Value.ref 51), DictEntry.mk (PyData.keyHash P (Str.ofString "MatrixFault")) (Value.str (Str.ofString "MatrixFault") 256) (Value.ref 63), DictEntry.mk (PyData.keyHash P (Str.ofString "SizeFault")) (Value.str (Str.ofString "SizeFault") 272) (Value.ref 75), DictEntry.mk (PyData.keyHash P (Str.ofString "ZERO")) (Value.str (Str.ofString "ZERO") 277) (Value.ref 78), DictEntry.mk (PyData.keyHash P (Str.ofString "common_divisor")) (Value.str (Str.ofString "common_divisor") 287) (Value.ref 85), DictEntry.mk (PyData.keyHash P (Str.ofString "fraction")) (Value.str (Str.ofString "fraction") 297) (Value.ref 93), DictEntry.mk (PyData.keyHash P (Str.ofString "plus")) (Value.str (Str.ofString "plus") 305) (Value.ref 100), DictEntry.mk (PyData.keyHash P (Str.ofString "minus")) (Value.str (Str.ofString "minus") 313) (Value.ref 107), DictEntry.mk (PyData.keyHash P (Str.ofString "times")) (Value.str (Str.ofString "times") 321) (Value.ref 114), DictEntry.mk (PyData.keyHash P (Str.ofString "divided")) (Value.str (Str.ofString "divided") 329) (Value.ref 121), DictEntry.mk (PyData.keyHash P (Str.ofString "negated")) (Value.str (Str.ofString "negated") 336) (Value.ref 128), DictEntry.mk (PyData.keyHash P (Str.ofString "sign_of")) (Value.str (Str.ofString "sign_of") 343) (Value.ref 135), DictEntry.mk (PyData.keyHash P (Str.ofString "compare")) (Value.str (Str.ofString "compare") 351) (Value.ref 142), DictEntry.mk (PyData.keyHash P (Str.ofString "floor_of")) (Value.str (Str.ofString "floor_of") 358) (Value.ref 149), DictEntry.mk (PyData.keyHash P (Str.ofString "middle_of")) (Value.str (Str.ofString "middle_of") 368) (Value.ref 156), DictEntry.mk (PyData.keyHash P (Str.ofString "CLEAR")) (Value.str (Str.ofString "CLEAR") 375) (Value.ref 157), DictEntry.mk (PyData.keyHash P (Str.ofString "within")) (Value.str (Str.ofString "within") 384) (Value.ref 164), DictEntry.mk (PyData.keyHash P (Str.ofString "Pattern")) (Value.str (Str.ofString "Pattern") 448) (Value.ref 202), DictEntry.mk (PyData.keyHash P (Str.ofString "NOTHING")) (Value.str (Str.ofString "NOTHING") 455) (Value.ref 207), DictEntry.mk (PyData.keyHash P (Str.ofString "Canvas")) (Value.str (Str.ofString "Canvas") 552) (Value.ref 277), DictEntry.mk (PyData.keyHash P (Str.ofString "Matrix")) (Value.str (Str.ofString "Matrix") 646) (Value.ref 340), DictEntry.mk (PyData.keyHash P (Str.ofString "_law_pool")) (Value.str (Str.ofString "_law_pool") 659) (Value.ref 351), DictEntry.mk (PyData.keyHash P (Str.ofString "_law_take")) (Value.str (Str.ofString "_law_take") 668) (Value.ref 358), DictEntry.mk (PyData.keyHash P (Str.ofString "_law_one")) (Value.str (Str.ofString "_law_one") 676) (Value.ref 365), DictEntry.mk (PyData.keyHash P (Str.ofString "_law_rest")) (Value.str (Str.ofString "_law_rest") 686) (Value.ref 372), DictEntry.mk (PyData.keyHash P (Str.ofString "_law_dot")) (Value.str (Str.ofString "_law_dot") 698) (Value.ref 379), DictEntry.mk (PyData.keyHash P (Str.ofString "_law_picture")) (Value.str (Str.ofString "_law_picture") 711) (Value.ref 386), DictEntry.mk (PyData.keyHash P (Str.ofString "_law_side")) (Value.str (Str.ofString "_law_side") 718) (Value.ref 393), DictEntry.mk (PyData.keyHash P (Str.ofString "_law_colour")) (Value.str (Str.ofString "_law_colour") 739) (Value.ref 400), DictEntry.mk (PyData.keyHash P (Str.ofString "_law_right")) (Value.str (Str.ofString "_law_right") 753) (Value.ref 407), DictEntry.mk (PyData.keyHash P (Str.ofString "_law_matrix")) (Value.str (Str.ofString "_law_matrix") 759) (Value.ref 412), DictEntry.mk (PyData.keyHash P (Str.ofString "law")) (Value.str (Str.ofString "law") 765) (Value.ref 417)] 43) #[])::
(nat_lit 15, Obj.mk (Value.type "tuple") none (Data.seq #[]) #[])::
(nat_lit 17, Obj.mk (Value.type "tuple") none (Data.seq #[Value.str (Str.ofString "k") 190]) #[])::
(nat_lit 18, Obj.mk (Value.type "tuple") none (Data.seq #[]) #[])::
(nat_lit 20, Obj.mk (Value.type "code") none (Data.fields #[Value.str (Str.ofString "_wall") 187, Value.str (Str.ofString "_wall") 188, Value.str (Str.ofString "/claim/cut.py") 189, Value.int 1 0, Value.int 1 0, Value.int 0 0, Value.int 0 0, Value.int 3 0, Value.ref 15, Value.bool true, Value.int 181 0, Value.ref 16, Value.none, Value.ref 17, Value.ref 18, Value.ref 19, Value.int 191 0, Value.int 1 0, Value.str (Str.ofString "/claim/cut.py") 192]) #[])::
(nat_lit 21, Obj.mk (Value.type "function") none (Data.func (FuncData.mk (Str.ofString "_wall") (Str.ofString "_wall") a0 (FuncBody.stmts b0) c0 3 [] Value.none Value.none Value.none (Value.str (Str.ofString "__main__") 164) none (Value.ref 20) Value.none 0)) #[])::
(nat_lit 22, Obj.mk (Value.type "tuple") none (Data.seq #[Value.type "Exception"]) #[])::
(nat_lit 29, Obj.mk (Value.type "tuple") none (Data.seq #[]) #[])::
(nat_lit 31, Obj.mk (Value.type "tuple") none (Data.seq #[Value.str (Str.ofString "self") 211, Value.str (Str.ofString "message") 212]) #[])::
(nat_lit 32, Obj.mk (Value.type "tuple") none (Data.seq #[]) #[])::
(nat_lit 34, Obj.mk (Value.type "code") none (Data.fields #[Value.str (Str.ofString "__init__") 208, Value.str (Str.ofString "MillError.__init__") 209, Value.str (Str.ofString "/claim/cut.py") 210, Value.int 7 0, Value.int 2 0, Value.int 0 0, Value.int 0 0, Value.int 3 0, Value.ref 29, Value.bool true, Value.int 181 0, Value.ref 30, Value.none, Value.ref 31, Value.ref 32, Value.ref 33, Value.int 213 0, Value.int 7 0, Value.str (Str.ofString "/claim/cut.py") 214]) #[])::
(nat_lit 35, Obj.mk (Value.type "function") none (Data.func (FuncData.mk (Str.ofString "__init__") (Str.ofString "MillError.__init__") a2 (FuncBody.stmts b2) c2 3 [] Value.none Value.none Value.none (Value.str (Str.ofString "outlinemill.errors") 194) none (Value.ref 34) Value.none 0)) #[])::
(nat_lit 36, Obj.mk (Value.type "tuple") none (Data.seq #[Value.str (Str.ofString "message") 216]) #[])::
(nat_lit 37, Obj.mk (Value.type "dict") none (Data.dict #[DictEntry.mk (PyData.keyHash P (Str.ofString "__module__")) (Value.str (Str.ofString "__module__") 203) (Value.str (Str.ofString "outlinemill.errors") 194), DictEntry.mk (PyData.keyHash P (Str.ofString "__firstlineno__")) (Value.str (Str.ofString "__firstlineno__") 207) (Value.int 5 206), DictEntry.mk (PyData.keyHash P (Str.ofString "__init__")) (Value.str (Str.ofString "__init__") 215) (Value.ref 35), DictEntry.mk (PyData.keyHash P (Str.ofString "__static_attributes__")) (Value.str (Str.ofString "__static_attributes__") 217) (Value.ref 36), DictEntry.mk (PyData.keyHash P (Str.ofString "__weakref__")) (Value.str (Str.ofString "__weakref__") 219) (Value.ref 39), DictEntry.mk (PyData.keyHash P (Str.ofString "__doc__")) (Value.str (Str.ofString "__doc__") 220) Value.none] 3) #[])::
(nat_lit 38, Obj.mk (Value.type "type") none (Data.cls (ClassData.mk (Str.ofString "MillError") [Value.type "Exception"] [Value.ref 38, Value.type "Exception", Value.type "BaseException", Value.type "object"] 37 (Str.ofString "MillError") true [] [Value.ref 51, Value.ref 63, Value.ref 75] false none false)) #[some (Value.ref 22), none, some (Value.str (Str.ofString "MillError") 196), some (Value.str (Str.ofString "MillError") 204), some (Value.builtin "Exception.__new__"), some (Value.bool true)])::
(nat_lit 39, Obj.mk (Value.type "getset_descriptor") none (Data.fields #[Value.str (Str.ofString "__weakref__") 218, Value.ref 38, Value.builtin "ExceptionGroup.__weakref__", Value.none]) #[])::
(nat_lit 42, Obj.mk (Value.type "tuple") none (Data.seq #[Value.ref 38]) #[])::
(nat_lit 49, Obj.mk (Value.type "tuple") none (Data.seq #[]) #[])::
(nat_lit 50, Obj.mk (Value.type "dict") none (Data.dict #[DictEntry.mk (PyData.keyHash P (Str.ofString "__module__")) (Value.str (Str.ofString "__module__") 232) (Value.str (Str.ofString "outlinemill.errors") 194), DictEntry.mk (PyData.keyHash P (Str.ofString "__firstlineno__")) (Value.str (Str.ofString "__firstlineno__") 236) (Value.int 9 235), DictEntry.mk (PyData.keyHash P (Str.ofString "__static_attributes__")) (Value.str (Str.ofString "__static_attributes__") 237) (Value.ref 49), DictEntry.mk (PyData.keyHash P (Str.ofString "__doc__")) (Value.str (Str.ofString "__doc__") 238) Value.none] 2) #[])::
(nat_lit 51, Obj.mk (Value.type "type") none (Data.cls (ClassData.mk (Str.ofString "NumberFault") [Value.ref 38] [Value.ref 51, Value.ref 38, Value.type "Exception", Value.type "BaseException", Value.type "object"] 50 (Str.ofString "NumberFault") true [] [] false none false)) #[some (Value.ref 42), none, some (Value.str (Str.ofString "NumberFault") 225), some (Value.str (Str.ofString "NumberFault") 233), some (Value.builtin "Exception.__new__"), some (Value.bool true)])::
(nat_lit 54, Obj.mk (Value.type "tuple") none (Data.seq #[Value.ref 38]) #[])::
(nat_lit 61, Obj.mk (Value.type "tuple") none (Data.seq #[]) #[])::
(nat_lit 62, Obj.mk (Value.type "dict") none (Data.dict #[DictEntry.mk (PyData.keyHash P (Str.ofString "__module__")) (Value.str (Str.ofString "__module__") 248) (Value.str (Str.ofString "outlinemill.errors") 194), DictEntry.mk (PyData.keyHash P (Str.ofString "__firstlineno__")) (Value.str (Str.ofString "__firstlineno__") 252) (Value.int 11 251), DictEntry.mk (PyData.keyHash P (Str.ofString "__static_attributes__")) (Value.str (Str.ofString "__static_attributes__") 253) (Value.ref 61), DictEntry.mk (PyData.keyHash P (Str.ofString "__doc__")) (Value.str (Str.ofString "__doc__") 254) Value.none] 2) #[])::
(nat_lit 63, Obj.mk (Value.type "type") none (Data.cls (ClassData.mk (Str.ofString "MatrixFault") [Value.ref 38] [Value.ref 63, Value.ref 38, Value.type "Exception", Value.type "BaseException", Value.type "object"] 62 (Str.ofString "MatrixFault") true [] [] false none false)) #[some (Value.ref 54), none, some (Value.str (Str.ofString "MatrixFault") 241), some (Value.str (Str.ofString "MatrixFault") 249), some (Value.builtin "Exception.__new__"), some (Value.bool true)])::
(nat_lit 66, Obj.mk (Value.type "tuple") none (Data.seq #[Value.ref 38]) #[])::
(nat_lit 73, Obj.mk (Value.type "tuple") none (Data.seq #[]) #[])::
(nat_lit 74, Obj.mk (Value.type "dict") none (Data.dict #[DictEntry.mk (PyData.keyHash P (Str.ofString "__module__")) (Value.str (Str.ofString "__module__") 264) (Value.str (Str.ofString "outlinemill.errors") 194), DictEntry.mk (PyData.keyHash P (Str.ofString "__firstlineno__")) (Value.str (Str.ofString "__firstlineno__") 268) (Value.int 13 267), DictEntry.mk (PyData.keyHash P (Str.ofString "__static_attributes__")) (Value.str (Str.ofString "__static_attributes__") 269) (Value.ref 73), DictEntry.mk (PyData.keyHash P (Str.ofString "__doc__")) (Value.str (Str.ofString "__doc__") 270) Value.none] 2) #[])::
(nat_lit 75, Obj.mk (Value.type "type") none (Data.cls (ClassData.mk (Str.ofString "SizeFault") [Value.ref 38] [Value.ref 75, Value.ref 38, Value.type "Exception", Value.type "BaseException", Value.type "object"] 74 (Str.ofString "SizeFault") true [] [] false none false)) #[some (Value.ref 66), none, some (Value.str (Str.ofString "SizeFault") 257), some (Value.str (Str.ofString "SizeFault") 265), some (Value.builtin "Exception.__new__"), some (Value.bool true)])::
(nat_lit 78, Obj.mk (Value.type "tuple") none (Data.seq #[Value.int 0 275, Value.int 1 276]) #[])::
(nat_lit 79, Obj.mk (Value.type "tuple") none (Data.seq #[]) #[])::
(nat_lit 81, Obj.mk (Value.type "tuple") none (Data.seq #[Value.str (Str.ofString "one") 281, Value.str (Str.ofString "other") 282, Value.str (Str.ofString "first") 283, Value.str (Str.ofString "second") 284]) #[])::
(nat_lit 82, Obj.mk (Value.type "tuple") none (Data.seq #[]) #[])::
(nat_lit 84, Obj.mk (Value.type "code") none (Data.fields #[Value.str (Str.ofString "common_divisor") 278, Value.str (Str.ofString "common_divisor") 279, Value.str (Str.ofString "/claim/cut.py") 280, Value.int 17 0, Value.int 2 0, Value.int 0 0, Value.int 0 0, Value.int 3 0, Value.ref 79, Value.bool true, Value.int 181 0, Value.ref 80, Value.none, Value.ref 81, Value.ref 82, Value.ref 83, Value.int 285 0, Value.int 17 0, Value.str (Str.ofString "/claim/cut.py") 286]) #[])::
(nat_lit 85, Obj.mk (Value.type "function") none (Data.func (FuncData.mk (Str.ofString "common_divisor") (Str.ofString "common_divisor") a6 (FuncBody.stmts b6) c6 3 [] Value.none Value.none Value.none (Value.str (Str.ofString "outlinemill.exact") 273) none (Value.ref 84) Value.none 0)) #[])::
(nat_lit 86, Obj.mk (Value.type "tuple") none (Data.seq #[Value.int 1 288]) #[])::
(nat_lit 87, Obj.mk (Value.type "tuple") none (Data.seq #[]) #[])::
(nat_lit 89, Obj.mk (Value.type "tuple") none (Data.seq #[Value.str (Str.ofString "top") 292, Value.str (Str.ofString "bottom") 293, Value.str (Str.ofString "common") 294]) #[])::
(nat_lit 90, Obj.mk (Value.type "tuple") none (Data.seq #[]) #[])::
(nat_lit 92, Obj.mk (Value.type "code") none (Data.fields #[Value.str (Str.ofString "fraction") 289, Value.str (Str.ofString "fraction") 290, Value.str (Str.ofString "/claim/cut.py") 291, Value.int 22 0, Value.int 2 0, Value.int 0 0, Value.int 0 0, Value.int 3 0, Value.ref 87, Value.bool true, Value.int 181 0, Value.ref 88, Value.none, Value.ref 89, Value.ref 90, Value.ref 91, Value.int 295 0, Value.int 22 0, Value.str (Str.ofString "/claim/cut.py") 296]) #[])::
(nat_lit 93, Obj.mk (Value.type "function") none (Data.func (FuncData.mk (Str.ofString "fraction") (Str.ofString "fraction") a7 (FuncBody.stmts b7) c7 3 [] (Value.ref 86) Value.none Value.none (Value.str (Str.ofString "outlinemill.exact") 273) none (Value.ref 92) Value.none 0)) #[])::
(nat_lit 94, Obj.mk (Value.type "tuple") none (Data.seq #[]) #[])::
(nat_lit 96, Obj.mk (Value.type "tuple") none (Data.seq #[Value.str (Str.ofString "a") 301, Value.str (Str.ofString "b") 302]) #[])::
(nat_lit 97, Obj.mk (Value.type "tuple") none (Data.seq #[]) #[])::
(nat_lit 99, Obj.mk (Value.type "code") none (Data.fields #[Value.str (Str.ofString "plus") 298, Value.str (Str.ofString "plus") 299, Value.str (Str.ofString "/claim/cut.py") 300, Value.int 29 0, Value.int 2 0, Value.int 0 0, Value.int 0 0, Value.int 3 0, Value.ref 94, Value.bool true, Value.int 181 0, Value.ref 95, Value.none, Value.ref 96, Value.ref 97, Value.ref 98, Value.int 303 0, Value.int 29 0, Value.str (Str.ofString "/claim/cut.py") 304]) #[])::
(nat_lit 100, Obj.mk (Value.type "function") none (Data.func (FuncData.mk (Str.ofString "plus") (Str.ofString "plus") a8 (FuncBody.stmts b8) c8 3 [] Value.none Value.none Value.none (Value.str (Str.ofString "outlinemill.exact") 273) none (Value.ref 99) Value.none 0)) #[])::
(nat_lit 101, Obj.mk (Value.type "tuple") none (Data.seq #[]) #[])::
(nat_lit 103, Obj.mk (Value.type "tuple") none (Data.seq #[Value.str (Str.ofString "a") 309, Value.str (Str.ofString "b") 310]) #[])::
(nat_lit 104, Obj.mk (Value.type "tuple") none (Data.seq #[]) #[])::
(nat_lit 106, Obj.mk (Value.type "code") none (Data.fields #[Value.str (Str.ofString "minus") 306, Value.str (Str.ofString "minus") 307, Value.str (Str.ofString "/claim/cut.py") 308, Value.int 31 0, Value.int 2 0, Value.int 0 0, Value.int 0 0, Value.int 3 0, Value.ref 101, Value.bool true, Value.int 181 0, Value.ref 102, Value.none, Value.ref 103, Value.ref 104, Value.ref 105, Value.int 311 0, Value.int 31 0, Value.str (Str.ofString "/claim/cut.py") 312]) #[])::
(nat_lit 107, Obj.mk (Value.type "function") none (Data.func (FuncData.mk (Str.ofString "minus") (Str.ofString "minus") a9 (FuncBody.stmts b9) c9 3 [] Value.none Value.none Value.none (Value.str (Str.ofString "outlinemill.exact") 273) none (Value.ref 106) Value.none 0)) #[])::
(nat_lit 108, Obj.mk (Value.type "tuple") none (Data.seq #[]) #[])::
(nat_lit 110, Obj.mk (Value.type "tuple") none (Data.seq #[Value.str (Str.ofString "a") 317, Value.str (Str.ofString "b") 318]) #[])::
(nat_lit 111, Obj.mk (Value.type "tuple") none (Data.seq #[]) #[])::
(nat_lit 113, Obj.mk (Value.type "code") none (Data.fields #[Value.str (Str.ofString "times") 314, Value.str (Str.ofString "times") 315, Value.str (Str.ofString "/claim/cut.py") 316, Value.int 33 0, Value.int 2 0, Value.int 0 0, Value.int 0 0, Value.int 3 0, Value.ref 108, Value.bool true, Value.int 181 0, Value.ref 109, Value.none, Value.ref 110, Value.ref 111, Value.ref 112, Value.int 319 0, Value.int 33 0, Value.str (Str.ofString "/claim/cut.py") 320]) #[])::
(nat_lit 114, Obj.mk (Value.type "function") none (Data.func (FuncData.mk (Str.ofString "times") (Str.ofString "times") a10 (FuncBody.stmts b10) c10 3 [] Value.none Value.none Value.none (Value.str (Str.ofString "outlinemill.exact") 273) none (Value.ref 113) Value.none 0)) #[])::
(nat_lit 115, Obj.mk (Value.type "tuple") none (Data.seq #[]) #[])::
(nat_lit 117, Obj.mk (Value.type "tuple") none (Data.seq #[Value.str (Str.ofString "a") 325, Value.str (Str.ofString "b") 326]) #[])::
(nat_lit 118, Obj.mk (Value.type "tuple") none (Data.seq #[]) #[])::
(nat_lit 120, Obj.mk (Value.type "code") none (Data.fields #[Value.str (Str.ofString "divided") 322, Value.str (Str.ofString "divided") 323, Value.str (Str.ofString "/claim/cut.py") 324, Value.int 35 0, Value.int 2 0, Value.int 0 0, Value.int 0 0, Value.int 3 0, Value.ref 115, Value.bool true, Value.int 181 0, Value.ref 116, Value.none, Value.ref 117, Value.ref 118, Value.ref 119, Value.int 327 0, Value.int 35 0, Value.str (Str.ofString "/claim/cut.py") 328]) #[])::
(nat_lit 121, Obj.mk (Value.type "function") none (Data.func (FuncData.mk (Str.ofString "divided") (Str.ofString "divided") a11 (FuncBody.stmts b11) c11 3 [] Value.none Value.none Value.none (Value.str (Str.ofString "outlinemill.exact") 273) none (Value.ref 120) Value.none 0)) #[])::
(nat_lit 122, Obj.mk (Value.type "tuple") none (Data.seq #[]) #[])::
(nat_lit 124, Obj.mk (Value.type "tuple") none (Data.seq #[Value.str (Str.ofString "a") 333]) #[])::
(nat_lit 125, Obj.mk (Value.type "tuple") none (Data.seq #[]) #[])::
(nat_lit 127, Obj.mk (Value.type "code") none (Data.fields #[Value.str (Str.ofString "negated") 330, Value.str (Str.ofString "negated") 331, Value.str (Str.ofString "/claim/cut.py") 332, Value.int 39 0, Value.int 1 0, Value.int 0 0, Value.int 0 0, Value.int 3 0, Value.ref 122, Value.bool true, Value.int 181 0, Value.ref 123, Value.none, Value.ref 124, Value.ref 125, Value.ref 126, Value.int 334 0, Value.int 39 0, Value.str (Str.ofString "/claim/cut.py") 335]) #[])::
(nat_lit 128, Obj.mk (Value.type "function") none (Data.func (FuncData.mk (Str.ofString "negated") (Str.ofString "negated") a12 (FuncBody.stmts b12) c12 3 [] Value.none Value.none Value.none (Value.str (Str.ofString "outlinemill.exact") 273) none (Value.ref 127) Value.none 0)) #[])::
(nat_lit 129, Obj.mk (Value.type "tuple") none (Data.seq #[]) #[])::
(nat_lit 131, Obj.mk (Value.type "tuple") none (Data.seq #[Value.str (Str.ofString "a") 340]) #[])::
(nat_lit 132, Obj.mk (Value.type "tuple") none (Data.seq #[]) #[])::
(nat_lit 134, Obj.mk (Value.type "code") none (Data.fields #[Value.str (Str.ofString "sign_of") 337, Value.str (Str.ofString "sign_of") 338, Value.str (Str.ofString "/claim/cut.py") 339, Value.int 41 0, Value.int 1 0, Value.int 0 0, Value.int 0 0, Value.int 3 0, Value.ref 129, Value.bool true, Value.int 181 0, Value.ref 130, Value.none, Value.ref 131, Value.ref 132, Value.ref 133, Value.int 341 0, Value.int 41 0, Value.str (Str.ofString "/claim/cut.py") 342]) #[])::
(nat_lit 135, Obj.mk (Value.type "function") none (Data.func (FuncData.mk (Str.ofString "sign_of") (Str.ofString "sign_of") a13 (FuncBody.stmts b13) c13 3 [] Value.none Value.none Value.none (Value.str (Str.ofString "outlinemill.exact") 273) none (Value.ref 134) Value.none 0)) #[])::
(nat_lit 136, Obj.mk (Value.type "tuple") none (Data.seq #[]) #[])::
(nat_lit 138, Obj.mk (Value.type "tuple") none (Data.seq #[Value.str (Str.ofString "a") 347, Value.str (Str.ofString "b") 348]) #[])::
(nat_lit 139, Obj.mk (Value.type "tuple") none (Data.seq #[]) #[])::
(nat_lit 141, Obj.mk (Value.type "code") none (Data.fields #[Value.str (Str.ofString "compare") 344, Value.str (Str.ofString "compare") 345, Value.str (Str.ofString "/claim/cut.py") 346, Value.int 47 0, Value.int 2 0, Value.int 0 0, Value.int 0 0, Value.int 3 0, Value.ref 136, Value.bool true, Value.int 181 0, Value.ref 137, Value.none, Value.ref 138, Value.ref 139, Value.ref 140, Value.int 349 0, Value.int 47 0, Value.str (Str.ofString "/claim/cut.py") 350]) #[])::
(nat_lit 142, Obj.mk (Value.type "function") none (Data.func (FuncData.mk (Str.ofString "compare") (Str.ofString "compare") a14 (FuncBody.stmts b14) c14 3 [] Value.none Value.none Value.none (Value.str (Str.ofString "outlinemill.exact") 273) none (Value.ref 141) Value.none 0)) #[])::
(nat_lit 143, Obj.mk (Value.type "tuple") none (Data.seq #[]) #[])::
(nat_lit 145, Obj.mk (Value.type "tuple") none (Data.seq #[Value.str (Str.ofString "a") 355]) #[])::
(nat_lit 146, Obj.mk (Value.type "tuple") none (Data.seq #[]) #[])::
(nat_lit 148, Obj.mk (Value.type "code") none (Data.fields #[Value.str (Str.ofString "floor_of") 352, Value.str (Str.ofString "floor_of") 353, Value.str (Str.ofString "/claim/cut.py") 354, Value.int 49 0, Value.int 1 0, Value.int 0 0, Value.int 0 0, Value.int 3 0, Value.ref 143, Value.bool true, Value.int 181 0, Value.ref 144, Value.none, Value.ref 145, Value.ref 146, Value.ref 147, Value.int 356 0, Value.int 49 0, Value.str (Str.ofString "/claim/cut.py") 357]) #[])::
(nat_lit 149, Obj.mk (Value.type "function") none (Data.func (FuncData.mk (Str.ofString "floor_of") (Str.ofString "floor_of") a15 (FuncBody.stmts b15) c15 3 [] Value.none Value.none Value.none (Value.str (Str.ofString "outlinemill.exact") 273) none (Value.ref 148) Value.none 0)) #[])::
(nat_lit 150, Obj.mk (Value.type "tuple") none (Data.seq #[]) #[])::
(nat_lit 152, Obj.mk (Value.type "tuple") none (Data.seq #[Value.str (Str.ofString "x") 364, Value.str (Str.ofString "y") 365]) #[])::
(nat_lit 153, Obj.mk (Value.type "tuple") none (Data.seq #[]) #[])::
(nat_lit 155, Obj.mk (Value.type "code") none (Data.fields #[Value.str (Str.ofString "middle_of") 361, Value.str (Str.ofString "middle_of") 362, Value.str (Str.ofString "/claim/cut.py") 363, Value.int 52 0, Value.int 2 0, Value.int 0 0, Value.int 0 0, Value.int 3 0, Value.ref 150, Value.bool true, Value.int 181 0, Value.ref 151, Value.none, Value.ref 152, Value.ref 153, Value.ref 154, Value.int 366 0, Value.int 52 0, Value.str (Str.ofString "/claim/cut.py") 367]) #[])::
(nat_lit 156, Obj.mk (Value.type "function") none (Data.func (FuncData.mk (Str.ofString "middle_of") (Str.ofString "middle_of") a16 (FuncBody.stmts b16) c16 3 [] Value.none Value.none Value.none (Value.str (Str.ofString "outlinemill.paints") 359) none (Value.ref 155) Value.none 0)) #[])::
(nat_lit 157, Obj.mk (Value.type "tuple") none (Data.seq #[Value.int 0 371, Value.int 0 372, Value.int 0 373, Value.int 0 374]) #[])::
(nat_lit 158, Obj.mk (Value.type "tuple") none (Data.seq #[]) #[])::
(nat_lit 160, Obj.mk (Value.type "tuple") none (Data.seq #[Value.str (Str.ofString "place") 379, Value.str (Str.ofString "size") 380, Value.str (Str.ofString "many") 381]) #[])::
(nat_lit 161, Obj.mk (Value.type "tuple") none (Data.seq #[]) #[])::
(nat_lit 163, Obj.mk (Value.type "code") none (Data.fields #[Value.str (Str.ofString "within") 376, Value.str (Str.ofString "within") 377, Value.str (Str.ofString "/claim/cut.py") 378, Value.int 56 0, Value.int 2 0, Value.int 0 0, Value.int 0 0, Value.int 3 0, Value.ref 158, Value.bool true, Value.int 181 0, Value.ref 159, Value.none, Value.ref 160, Value.ref 161, Value.ref 162, Value.int 382 0, Value.int 56 0, Value.str (Str.ofString "/claim/cut.py") 383]) #[])::
(nat_lit 164, Obj.mk (Value.type "function") none (Data.func (FuncData.mk (Str.ofString "within") (Str.ofString "within") a17 (FuncBody.stmts b17) c17 3 [] Value.none Value.none Value.none (Value.str (Str.ofString "outlinemill.patterns") 369) none (Value.ref 163) Value.none 0)) #[])::
(nat_lit 172, Obj.mk (Value.type "tuple") none (Data.seq #[]) #[])::
(nat_lit 174, Obj.mk (Value.type "tuple") none (Data.seq #[Value.str (Str.ofString "self") 400, Value.str (Str.ofString "canvas") 401, Value.str (Str.ofString "inverse") 402, Value.str (Str.ofString "width") 403, Value.str (Str.ofString "height") 404]) #[])::
(nat_lit 175, Obj.mk (Value.type "tuple") none (Data.seq #[]) #[])::
(nat_lit 177, Obj.mk (Value.type "code") none (Data.fields #[Value.str (Str.ofString "__init__") 397, Value.str (Str.ofString "Pattern.__init__") 398, Value.str (Str.ofString "/claim/cut.py") 399, Value.int 61 0, Value.int 5 0, Value.int 0 0, Value.int 0 0, Value.int 3 0, Value.ref 172, Value.bool true, Value.int 181 0, Value.ref 173, Value.none, Value.ref 174, Value.ref 175, Value.ref 176, Value.int 405 0, Value.int 61 0, Value.str (Str.ofString "/claim/cut.py") 406]) #[])::
(nat_lit 178, Obj.mk (Value.type "function") none (Data.func (FuncData.mk (Str.ofString "__init__") (Str.ofString "Pattern.__init__") a19 (FuncBody.stmts b19) c19 3 [] Value.none Value.none Value.none (Value.str (Str.ofString "outlinemill.patterns") 369) none (Value.ref 177) Value.none 0)) #[])::
(nat_lit 179, Obj.mk (Value.type "tuple") none (Data.seq #[]) #[])::
(nat_lit 181, Obj.mk (Value.type "tuple") none (Data.seq #[Value.str (Str.ofString "self") 411]) #[])::
(nat_lit 182, Obj.mk (Value.type "tuple") none (Data.seq #[]) #[])::
(nat_lit 184, Obj.mk (Value.type "code") none (Data.fields #[Value.str (Str.ofString "is_empty") 408, Value.str (Str.ofString "Pattern.is_empty") 409, Value.str (Str.ofString "/claim/cut.py") 410, Value.int 67 0, Value.int 1 0, Value.int 0 0, Value.int 0 0, Value.int 3 0, Value.ref 179, Value.bool true, Value.int 181 0, Value.ref 180, Value.none, Value.ref 181, Value.ref 182, Value.ref 183, Value.int 412 0, Value.int 67 0, Value.str (Str.ofString "/claim/cut.py") 413]) #[])::
(nat_lit 185, Obj.mk (Value.type "function") none (Data.func (FuncData.mk (Str.ofString "is_empty") (Str.ofString "Pattern.is_empty") a20 (FuncBody.stmts b20) c20 3 [] Value.none Value.none Value.none (Value.str (Str.ofString "outlinemill.patterns") 369) none (Value.ref 184) Value.none 0)) #[])::
(nat_lit 186, Obj.mk (Value.type "tuple") none (Data.seq #[]) #[])::
(nat_lit 188, Obj.mk (Value.type "tuple") none (Data.seq #[Value.str (Str.ofString "self") 418, Value.str (Str.ofString "place") 419, Value.str (Str.ofString "size") 420, Value.str (Str.ofString "many") 421]) #[])::
(nat_lit 189, Obj.mk (Value.type "tuple") none (Data.seq #[]) #[])::
(nat_lit 191, Obj.mk (Value.type "code") none (Data.fields #[Value.str (Str.ofString "dot_of") 415, Value.str (Str.ofString "Pattern.dot_of") 416, Value.str (Str.ofString "/claim/cut.py") 417, Value.int 72 0, Value.int 4 0, Value.int 0 0, Value.int 0 0, Value.int 3 0, Value.ref 186, Value.bool true, Value.int 181 0, Value.ref 187, Value.none, Value.ref 188, Value.ref 189, Value.ref 190, Value.int 422 0, Value.int 72 0, Value.str (Str.ofString "/claim/cut.py") 423]) #[])::
(nat_lit 192, Obj.mk (Value.type "function") none (Data.func (FuncData.mk (Str.ofString "dot_of") (Str.ofString "Pattern.dot_of") a21 (FuncBody.stmts b21) c21 3 [] Value.none Value.none Value.none (Value.str (Str.ofString "outlinemill.patterns") 369) none (Value.ref 191) Value.none 0)) #[])::
(nat_lit 193, Obj.mk (Value.type "tuple") none (Data.seq #[]) #[])::
(nat_lit 195, Obj.mk (Value.type "tuple") none (Data.seq #[Value.str (Str.ofString "self") 428, Value.str (Str.ofString "x") 429, Value.str (Str.ofString "y") 430, Value.str (Str.ofString "place") 431, Value.str (Str.ofString "column") 432, Value.str (Str.ofString "row") 433]) #[])::
(nat_lit 196, Obj.mk (Value.type "tuple") none (Data.seq #[]) #[])::
(nat_lit 198, Obj.mk (Value.type "code") none (Data.fields #[Value.str (Str.ofString "colour_at") 425, Value.str (Str.ofString "Pattern.colour_at") 426, Value.str (Str.ofString "/claim/cut.py") 427, Value.int 75 0, Value.int 3 0, Value.int 0 0, Value.int 0 0, Value.int 3 0, Value.ref 193, Value.bool true, Value.int 181 0, Value.ref 194, Value.none, Value.ref 195, Value.ref 196, Value.ref 197, Value.int 434 0, Value.int 75 0, Value.str (Str.ofString "/claim/cut.py") 435]) #[])::
(nat_lit 199, Obj.mk (Value.type "function") none (Data.func (FuncData.mk (Str.ofString "colour_at") (Str.ofString "Pattern.colour_at") a22 (FuncBody.stmts b22) c22 3 [] Value.none Value.none Value.none (Value.str (Str.ofString "outlinemill.patterns") 369) none (Value.ref 198) Value.none 0)) #[])::
(nat_lit 200, Obj.mk (Value.type "tuple") none (Data.seq #[Value.str (Str.ofString "canvas") 437, Value.str (Str.ofString "height") 438, Value.str (Str.ofString "inverse") 439, Value.str (Str.ofString "width") 440]) #[])::
(nat_lit 201, Obj.mk (Value.type "dict") none (Data.dict #[DictEntry.mk (PyData.keyHash P (Str.ofString "__module__")) (Value.str (Str.ofString "__module__") 392) (Value.str (Str.ofString "outlinemill.patterns") 369), DictEntry.mk (PyData.keyHash P (Str.ofString "__firstlineno__")) (Value.str (Str.ofString "__firstlineno__") 396) (Value.int 59 395), DictEntry.mk (PyData.keyHash P (Str.ofString "__init__")) (Value.str (Str.ofString "__init__") 407) (Value.ref 178), DictEntry.mk (PyData.keyHash P (Str.ofString "is_empty")) (Value.str (Str.ofString "is_empty") 414) (Value.ref 185), DictEntry.mk (PyData.keyHash P (Str.ofString "dot_of")) (Value.str (Str.ofString "dot_of") 424) (Value.ref 192), DictEntry.mk (PyData.keyHash P (Str.ofString "colour_at")) (Value.str (Str.ofString "colour_at") 436) (Value.ref 199), DictEntry.mk (PyData.keyHash P (Str.ofString "__static_attributes__")) (Value.str (Str.ofString "__static_attributes__") 441) (Value.ref 200), DictEntry.mk (PyData.keyHash P (Str.ofString "__dict__")) (Value.str (Str.ofString "__dict__") 443) (Value.ref 203), DictEntry.mk (PyData.keyHash P (Str.ofString "__weakref__")) (Value.str (Str.ofString "__weakref__") 445) (Value.ref 204), DictEntry.mk (PyData.keyHash P (Str.ofString "__doc__")) (Value.str (Str.ofString "__doc__") 446) Value.none] 4) #[])::
(nat_lit 202, Obj.mk (Value.type "type") none (Data.cls (ClassData.mk (Str.ofString "Pattern") [Value.type "object"] [Value.ref 202, Value.type "object"] 201 (Str.ofString "Pattern") true [] [] false none false)) #[none, none, some (Value.str (Str.ofString "Pattern") 385), some (Value.str (Str.ofString "Pattern") 393), some (Value.builtin "object.__new__"), some (Value.bool true)])::
(nat_lit 203, Obj.mk (Value.type "getset_descriptor") none (Data.fields #[Value.str (Str.ofString "__dict__") 442, Value.ref 202, Value.builtin "function.__dict__", Value.builtin "function.__dict__#set"]) #[])::
(nat_lit 204, Obj.mk (Value.type "getset_descriptor") none (Data.fields #[Value.str (Str.ofString "__weakref__") 444, Value.ref 202, Value.builtin "ExceptionGroup.__weakref__", Value.none]) #[])::
(nat_lit 207, Obj.mk (Value.type "tuple") none (Data.seq #[Value.int 0 451, Value.int 0 452, Value.int 0 453, Value.int 0 454]) #[])::
(nat_lit 215, Obj.mk (Value.type "tuple") none (Data.seq #[Value.int 0 468, Value.int 0 469]) #[])::
(nat_lit 216, Obj.mk (Value.type "tuple") none (Data.seq #[]) #[])::
(nat_lit 219, Obj.mk (Value.type "code") none (Data.fields #[Value.str (Str.ofString "__init__") 470, Value.str (Str.ofString "Canvas.__init__") 471, Value.str (Str.ofString "/claim/cut.py") 472, Value.int 86 0, Value.int 5 0, Value.int 0 0, Value.int 0 0, Value.int 3 0, Value.ref 216, Value.bool true, Value.int 181 0, Value.ref 217, Value.none, Value.none, Value.none, Value.ref 218, Value.int 473 0, Value.int 86 0, Value.str (Str.ofString "/claim/cut.py") 474]) #[])::
(nat_lit 220, Obj.mk (Value.type "function") none (Data.func (FuncData.mk (Str.ofString "__init__") (Str.ofString "Canvas.__init__") a24 (FuncBody.stmts b24) c24 3 [] (Value.ref 215) Value.none Value.none (Value.str (Str.ofString "outlinemill.canvas") 449) none (Value.ref 219) Value.none 0)) #[])::
(nat_lit 221, Obj.mk (Value.type "tuple") none (Data.seq #[]) #[])::
(nat_lit 223, Obj.mk (Value.type "tuple") none (Data.seq #[Value.str (Str.ofString "self") 479, Value.str (Str.ofString "x") 480, Value.str (Str.ofString "y") 481]) #[])::
(nat_lit 224, Obj.mk (Value.type "tuple") none (Data.seq #[]) #[])::
(nat_lit 226, Obj.mk (Value.type "code") none (Data.fields #[Value.str (Str.ofString "holds") 476, Value.str (Str.ofString "Canvas.holds") 477, Value.str (Str.ofString "/claim/cut.py") 478, Value.int 95 0, Value.int 3 0, Value.int 0 0, Value.int 0 0, Value.int 3 0, Value.ref 221, Value.bool true, Value.int 181 0, Value.ref 222, Value.none, Value.ref 223, Value.ref 224, Value.ref 225, Value.int 482 0, Value.int 95 0, Value.str (Str.ofString "/claim/cut.py") 483]) #[])::
(nat_lit 227, Obj.mk (Value.type "function") none (Data.func (FuncData.mk (Str.ofString "holds") (Str.ofString "Canvas.holds") a25 (FuncBody.stmts b25) c25 3 [] Value.none Value.none Value.none (Value.str (Str.ofString "outlinemill.canvas") 449) none (Value.ref 226) Value.none 0)) #[])::
(nat_lit 228, Obj.mk (Value.type "tuple") none (Data.seq #[]) #[])::
(nat_lit 230, Obj.mk (Value.type "tuple") none (Data.seq #[Value.str (Str.ofString "self") 488, Value.str (Str.ofString "x") 489, Value.str (Str.ofString "y") 490]) #[])::
(nat_lit 231, Obj.mk (Value.type "tuple") none (Data.seq #[]) #[])::
(nat_lit 233, Obj.mk (Value.type "code") none (Data.fields #[Value.str (Str.ofString "get") 485, Value.str (Str.ofString "Canvas.get") 486, Value.str (Str.ofString "/claim/cut.py") 487, Value.int 98 0, Value.int 3 0, Value.int 0 0, Value.int 0 0, Value.int 3 0, Value.ref 228, Value.bool true, Value.int 181 0, Value.ref 229, Value.none, Value.ref 230, Value.ref 231, Value.ref 232, Value.int 491 0, Value.int 98 0, Value.str (Str.ofString "/claim/cut.py") 492]) #[])::
(nat_lit 234, Obj.mk (Value.type "function") none (Data.func (FuncData.mk (Str.ofString "get") (Str.ofString "Canvas.get") a26 (FuncBody.stmts b26) c26 3 [] Value.none Value.none Value.none (Value.str (Str.ofString "outlinemill.canvas") 449) none (Value.ref 233) Value.none 0)) #[])::
(nat_lit 235, Obj.mk (Value.type "tuple") none (Data.seq #[]) #[])::
(nat_lit 237, Obj.mk (Value.type "tuple") none (Data.seq #[Value.str (Str.ofString "self") 497, Value.str (Str.ofString "x") 498, Value.str (Str.ofString "y") 499, Value.str (Str.ofString "colour") 500]) #[])::
(nat_lit 238, Obj.mk (Value.type "tuple") none (Data.seq #[]) #[])::
(nat_lit 240, Obj.mk (Value.type "code") none (Data.fields #[Value.str (Str.ofString "put") 494, Value.str (Str.ofString "Canvas.put") 495, Value.str (Str.ofString "/claim/cut.py") 496, Value.int 101 0, Value.int 4 0, Value.int 0 0, Value.int 0 0, Value.int 3 0, Value.ref 235, Value.bool true, Value.int 181 0, Value.ref 236, Value.none, Value.ref 237, Value.ref 238, Value.ref 239, Value.int 501 0, Value.int 101 0, Value.str (Str.ofString "/claim/cut.py") 502]) #[])::
(nat_lit 241, Obj.mk (Value.type "function") none (Data.func (FuncData.mk (Str.ofString "put") (Str.ofString "Canvas.put") a27 (FuncBody.stmts b27) c27 3 [] Value.none Value.none Value.none (Value.str (Str.ofString "outlinemill.canvas") 449) none (Value.ref 240) Value.none 0)) #[])::
(nat_lit 242, Obj.mk (Value.type "tuple") none (Data.seq #[]) #[])::
(nat_lit 244, Obj.mk (Value.type "tuple") none (Data.seq #[Value.str (Str.ofString "self") 507, Value.str (Str.ofString "colour") 508]) #[])::
(nat_lit 245, Obj.mk (Value.type "tuple") none (Data.seq #[]) #[])::
(nat_lit 247, Obj.mk (Value.type "code") none (Data.fields #[Value.str (Str.ofString "fill") 504, Value.str (Str.ofString "Canvas.fill") 505, Value.str (Str.ofString "/claim/cut.py") 506, Value.int 106 0, Value.int 2 0, Value.int 0 0, Value.int 0 0, Value.int 3 0, Value.ref 242, Value.bool true, Value.int 181 0, Value.ref 243, Value.none, Value.ref 244, Value.ref 245, Value.ref 246, Value.int 509 0, Value.int 106 0, Value.str (Str.ofString "/claim/cut.py") 510]) #[])::
(nat_lit 248, Obj.mk (Value.type "function") none (Data.func (FuncData.mk (Str.ofString "fill") (Str.ofString "Canvas.fill") a28 (FuncBody.stmts b28) c28 3 [] Value.none Value.none Value.none (Value.str (Str.ofString "outlinemill.canvas") 449) none (Value.ref 247) Value.none 0)) #[])::
(nat_lit 249, Obj.mk (Value.type "tuple") none (Data.seq #[]) #[])::
(nat_lit 251, Obj.mk (Value.type "tuple") none (Data.seq #[Value.str (Str.ofString "self") 515]) #[])::
(nat_lit 252, Obj.mk (Value.type "tuple") none (Data.seq #[]) #[])::
(nat_lit 254, Obj.mk (Value.type "code") none (Data.fields #[Value.str (Str.ofString "rows") 512, Value.str (Str.ofString "Canvas.rows") 513, Value.str (Str.ofString "/claim/cut.py") 514, Value.int 109 0, Value.int 1 0, Value.int 0 0, Value.int 0 0, Value.int 3 0, Value.ref 249, Value.bool true, Value.int 181 0, Value.ref 250, Value.none, Value.ref 251, Value.ref 252, Value.ref 253, Value.int 516 0, Value.int 109 0, Value.str (Str.ofString "/claim/cut.py") 517]) #[])::
(nat_lit 255, Obj.mk (Value.type "function") none (Data.func (FuncData.mk (Str.ofString "rows") (Str.ofString "Canvas.rows") a29 (FuncBody.stmts b29) c29 3 [] Value.none Value.none Value.none (Value.str (Str.ofString "outlinemill.canvas") 449) none (Value.ref 254) Value.none 0)) #[])::
(nat_lit 256, Obj.mk (Value.type "tuple") none (Data.seq #[]) #[])::
(nat_lit 259, Obj.mk (Value.type "code") none (Data.fields #[Value.str (Str.ofString "places") 519, Value.str (Str.ofString "Canvas.places") 520, Value.str (Str.ofString "/claim/cut.py") 521, Value.int 112 0, Value.int 1 0, Value.int 0 0, Value.int 0 0, Value.int 3 0, Value.ref 256, Value.bool true, Value.int 181 0, Value.ref 257, Value.none, Value.none, Value.none, Value.ref 258, Value.int 522 0, Value.int 112 0, Value.str (Str.ofString "/claim/cut.py") 523]) #[])::
(nat_lit 260, Obj.mk (Value.type "function") none (Data.func (FuncData.mk (Str.ofString "places") (Str.ofString "Canvas.places") a30 (FuncBody.stmts b30) c30 3 [] Value.none Value.none Value.none (Value.str (Str.ofString "outlinemill.canvas") 449) none (Value.ref 259) Value.none 0)) #[])::
(nat_lit 261, Obj.mk (Value.type "tuple") none (Data.seq #[]) #[])::
(nat_lit 263, Obj.mk (Value.type "tuple") none (Data.seq #[Value.str (Str.ofString "self") 528]) #[])::
(nat_lit 264, Obj.mk (Value.type "tuple") none (Data.seq #[]) #[])::
(nat_lit 266, Obj.mk (Value.type "code") none (Data.fields #[Value.str (Str.ofString "like") 525, Value.str (Str.ofString "Canvas.like") 526, Value.str (Str.ofString "/claim/cut.py") 527, Value.int 118 0, Value.int 1 0, Value.int 0 0, Value.int 0 0, Value.int 3 0, Value.ref 261, Value.bool true, Value.int 181 0, Value.ref 262, Value.none, Value.ref 263, Value.ref 264, Value.ref 265, Value.int 529 0, Value.int 118 0, Value.str (Str.ofString "/claim/cut.py") 530]) #[])::
(nat_lit 267, Obj.mk (Value.type "function") none (Data.func (FuncData.mk (Str.ofString "like") (Str.ofString "Canvas.like") a31 (FuncBody.stmts b31) c31 3 [] Value.none Value.none Value.none (Value.str (Str.ofString "outlinemill.canvas") 449) none (Value.ref 266) Value.none 0)) #[])::
(nat_lit 268, Obj.mk (Value.type "tuple") none (Data.seq #[]) #[])::
(nat_lit 270, Obj.mk (Value.type "tuple") none (Data.seq #[Value.str (Str.ofString "self") 535, Value.str (Str.ofString "other") 536]) #[])::
(nat_lit 271, Obj.mk (Value.type "tuple") none (Data.seq #[]) #[])::
(nat_lit 273, Obj.mk (Value.type "code") none (Data.fields #[Value.str (Str.ofString "take") 532, Value.str (Str.ofString "Canvas.take") 533, Value.str (Str.ofString "/claim/cut.py") 534, Value.int 121 0, Value.int 2 0, Value.int 0 0, Value.int 0 0, Value.int 3 0, Value.ref 268, Value.bool true, Value.int 181 0, Value.ref 269, Value.none, Value.ref 270, Value.ref 271, Value.ref 272, Value.int 537 0, Value.int 121 0, Value.str (Str.ofString "/claim/cut.py") 538]) #[])::
(nat_lit 274, Obj.mk (Value.type "function") none (Data.func (FuncData.mk (Str.ofString "take") (Str.ofString "Canvas.take") a32 (FuncBody.stmts b32) c32 3 [] Value.none Value.none Value.none (Value.str (Str.ofString "outlinemill.canvas") 449) none (Value.ref 273) Value.none 0)) #[])::
(nat_lit 275, Obj.mk (Value.type "tuple") none (Data.seq #[Value.str (Str.ofString "cells") 540, Value.str (Str.ofString "height") 541, Value.str (Str.ofString "left") 542, Value.str (Str.ofString "top") 543, Value.str (Str.ofString "width") 544]) #[])::
(nat_lit 276, Obj.mk (Value.type "dict") none (Data.dict #[DictEntry.mk (PyData.keyHash P (Str.ofString "__module__")) (Value.str (Str.ofString "__module__") 463) (Value.str (Str.ofString "outlinemill.canvas") 449), DictEntry.mk (PyData.keyHash P (Str.ofString "__firstlineno__")) (Value.str (Str.ofString "__firstlineno__") 467) (Value.int 84 466), DictEntry.mk (PyData.keyHash P (Str.ofString "__init__")) (Value.str (Str.ofString "__init__") 475) (Value.ref 220), DictEntry.mk (PyData.keyHash P (Str.ofString "holds")) (Value.str (Str.ofString "holds") 484) (Value.ref 227), DictEntry.mk (PyData.keyHash P (Str.ofString "get")) (Value.str (Str.ofString "get") 493) (Value.ref 234), DictEntry.mk (PyData.keyHash P (Str.ofString "put")) (Value.str (Str.ofString "put") 503) (Value.ref 241), DictEntry.mk (PyData.keyHash P (Str.ofString "fill")) (Value.str (Str.ofString "fill") 511) (Value.ref 248), DictEntry.mk (PyData.keyHash P (Str.ofString "rows")) (Value.str (Str.ofString "rows") 518) (Value.ref 255), DictEntry.mk (PyData.keyHash P (Str.ofString "places")) (Value.str (Str.ofString "places") 524) (Value.ref 260), DictEntry.mk (PyData.keyHash P (Str.ofString "like")) (Value.str (Str.ofString "like") 531) (Value.ref 267), DictEntry.mk (PyData.keyHash P (Str.ofString "take")) (Value.str (Str.ofString "take") 539) (Value.ref 274), DictEntry.mk (PyData.keyHash P (Str.ofString "__static_attributes__")) (Value.str (Str.ofString "__static_attributes__") 545) (Value.ref 275), DictEntry.mk (PyData.keyHash P (Str.ofString "__dict__")) (Value.str (Str.ofString "__dict__") 547) (Value.ref 278), DictEntry.mk (PyData.keyHash P (Str.ofString "__weakref__")) (Value.str (Str.ofString "__weakref__") 549) (Value.ref 279), DictEntry.mk (PyData.keyHash P (Str.ofString "__doc__")) (Value.str (Str.ofString "__doc__") 550) Value.none] 4) #[])::
(nat_lit 277, Obj.mk (Value.type "type") none (Data.cls (ClassData.mk (Str.ofString "Canvas") [Value.type "object"] [Value.ref 277, Value.type "object"] 276 (Str.ofString "Canvas") true [] [] false none false)) #[none, none, some (Value.str (Str.ofString "Canvas") 456), some (Value.str (Str.ofString "Canvas") 464), some (Value.builtin "object.__new__"), some (Value.bool true)])::
(nat_lit 278, Obj.mk (Value.type "getset_descriptor") none (Data.fields #[Value.str (Str.ofString "__dict__") 546, Value.ref 277, Value.builtin "function.__dict__", Value.builtin "function.__dict__#set"]) #[])::
(nat_lit 279, Obj.mk (Value.type "getset_descriptor") none (Data.fields #[Value.str (Str.ofString "__weakref__") 548, Value.ref 277, Value.builtin "ExceptionGroup.__weakref__", Value.none]) #[])::
(nat_lit 289, Obj.mk (Value.type "tuple") none (Data.seq #[]) #[])::
(nat_lit 291, Obj.mk (Value.type "tuple") none (Data.seq #[Value.str (Str.ofString "self") 570, Value.str (Str.ofString "a") 571, Value.str (Str.ofString "b") 572, Value.str (Str.ofString "c") 573, Value.str (Str.ofString "d") 574, Value.str (Str.ofString "e") 575, Value.str (Str.ofString "f") 576]) #[])::
(nat_lit 292, Obj.mk (Value.type "tuple") none (Data.seq #[]) #[])::
(nat_lit 294, Obj.mk (Value.type "code") none (Data.fields #[Value.str (Str.ofString "__init__") 567, Value.str (Str.ofString "Matrix.__init__") 568, Value.str (Str.ofString "/claim/cut.py") 569, Value.int 126 0, Value.int 7 0, Value.int 0 0, Value.int 0 0, Value.int 3 0, Value.ref 289, Value.bool true, Value.int 181 0, Value.ref 290, Value.none, Value.ref 291, Value.ref 292, Value.ref 293, Value.int 577 0, Value.int 126 0, Value.str (Str.ofString "/claim/cut.py") 578]) #[])::
(nat_lit 295, Obj.mk (Value.type "function") none (Data.func (FuncData.mk (Str.ofString "__init__") (Str.ofString "Matrix.__init__") a34 (FuncBody.stmts b34) c34 3 [] Value.none Value.none Value.none (Value.str (Str.ofString "outlinemill.matrix") 553) none (Value.ref 294) Value.none 0)) #[])::
(nat_lit 296, Obj.mk (Value.type "tuple") none (Data.seq #[]) #[])::
(nat_lit 298, Obj.mk (Value.type "tuple") none (Data.seq #[Value.str (Str.ofString "self") 583]) #[])::
(nat_lit 299, Obj.mk (Value.type "tuple") none (Data.seq #[]) #[])::
(nat_lit 301, Obj.mk (Value.type "code") none (Data.fields #[Value.str (Str.ofString "row") 580, Value.str (Str.ofString "Matrix.row") 581, Value.str (Str.ofString "/claim/cut.py") 582, Value.int 134 0, Value.int 1 0, Value.int 0 0, Value.int 0 0, Value.int 3 0, Value.ref 296, Value.bool true, Value.int 181 0, Value.ref 297, Value.none, Value.ref 298, Value.ref 299, Value.ref 300, Value.int 584 0, Value.int 134 0, Value.str (Str.ofString "/claim/cut.py") 585]) #[])::
(nat_lit 302, Obj.mk (Value.type "function") none (Data.func (FuncData.mk (Str.ofString "row") (Str.ofString "Matrix.row") a35 (FuncBody.stmts b35) c35 3 [] Value.none Value.none Value.none (Value.str (Str.ofString "outlinemill.matrix") 553) none (Value.ref 301) Value.none 0)) #[])::
(nat_lit 303, Obj.mk (Value.type "tuple") none (Data.seq #[]) #[])::
(nat_lit 305, Obj.mk (Value.type "tuple") none (Data.seq #[Value.str (Str.ofString "self") 590, Value.str (Str.ofString "p") 591, Value.str (Str.ofString "x") 592, Value.str (Str.ofString "y") 593]) #[])::
(nat_lit 306, Obj.mk (Value.type "tuple") none (Data.seq #[]) #[])::
(nat_lit 308, Obj.mk (Value.type "code") none (Data.fields #[Value.str (Str.ofString "vector") 587, Value.str (Str.ofString "Matrix.vector") 588, Value.str (Str.ofString "/claim/cut.py") 589, Value.int 137 0, Value.int 2 0, Value.int 0 0, Value.int 0 0, Value.int 3 0, Value.ref 303, Value.bool true, Value.int 181 0, Value.ref 304, Value.none, Value.ref 305, Value.ref 306, Value.ref 307, Value.int 594 0, Value.int 137 0, Value.str (Str.ofString "/claim/cut.py") 595]) #[])::
(nat_lit 309, Obj.mk (Value.type "function") none (Data.func (FuncData.mk (Str.ofString "vector") (Str.ofString "Matrix.vector") a36 (FuncBody.stmts b36) c36 3 [] Value.none Value.none Value.none (Value.str (Str.ofString "outlinemill.matrix") 553) none (Value.ref 308) Value.none 0)) #[])::
(nat_lit 310, Obj.mk (Value.type "tuple") none (Data.seq #[]) #[])::
(nat_lit 312, Obj.mk (Value.type "tuple") none (Data.seq #[Value.str (Str.ofString "self") 600, Value.str (Str.ofString "p") 601, Value.str (Str.ofString "x") 602, Value.str (Str.ofString "y") 603]) #[])::
(nat_lit 313, Obj.mk (Value.type "tuple") none (Data.seq #[]) #[])::
(nat_lit 315, Obj.mk (Value.type "code") none (Data.fields #[Value.str (Str.ofString "point") 597, Value.str (Str.ofString "Matrix.point") 598, Value.str (Str.ofString "/claim/cut.py") 599, Value.int 141 0, Value.int 2 0, Value.int 0 0, Value.int 0 0, Value.int 3 0, Value.ref 310, Value.bool true, Value.int 181 0, Value.ref 311, Value.none, Value.ref 312, Value.ref 313, Value.ref 314, Value.int 604 0, Value.int 141 0, Value.str (Str.ofString "/claim/cut.py") 605]) #[])::
(nat_lit 316, Obj.mk (Value.type "function") none (Data.func (FuncData.mk (Str.ofString "point") (Str.ofString "Matrix.point") a37 (FuncBody.stmts b37) c37 3 [] Value.none Value.none Value.none (Value.str (Str.ofString "outlinemill.matrix") 553) none (Value.ref 315) Value.none 0)) #[])::
(nat_lit 317, Obj.mk (Value.type "tuple") none (Data.seq #[]) #[])::
(nat_lit 319, Obj.mk (Value.type "tuple") none (Data.seq #[Value.str (Str.ofString "self") 610, Value.str (Str.ofString "other") 611]) #[])::
(nat_lit 320, Obj.mk (Value.type "tuple") none (Data.seq #[]) #[])::
(nat_lit 322, Obj.mk (Value.type "code") none (Data.fields #[Value.str (Str.ofString "then") 607, Value.str (Str.ofString "Matrix.then") 608, Value.str (Str.ofString "/claim/cut.py") 609, Value.int 145 0, Value.int 2 0, Value.int 0 0, Value.int 0 0, Value.int 3 0, Value.ref 317, Value.bool true, Value.int 181 0, Value.ref 318, Value.none, Value.ref 319, Value.ref 320, Value.ref 321, Value.int 612 0, Value.int 145 0, Value.str (Str.ofString "/claim/cut.py") 613]) #[])::
(nat_lit 323, Obj.mk (Value.type "function") none (Data.func (FuncData.mk (Str.ofString "then") (Str.ofString "Matrix.then") a38 (FuncBody.stmts b38) c38 3 [] Value.none Value.none Value.none (Value.str (Str.ofString "outlinemill.matrix") 553) none (Value.ref 322) Value.none 0)) #[])::
(nat_lit 324, Obj.mk (Value.type "tuple") none (Data.seq #[]) #[])::
(nat_lit 326, Obj.mk (Value.type "tuple") none (Data.seq #[Value.str (Str.ofString "self") 618]) #[])::
(nat_lit 327, Obj.mk (Value.type "tuple") none (Data.seq #[]) #[])::
(nat_lit 329, Obj.mk (Value.type "code") none (Data.fields #[Value.str (Str.ofString "determinant") 615, Value.str (Str.ofString "Matrix.determinant") 616, Value.str (Str.ofString "/claim/cut.py") 617, Value.int 148 0, Value.int 1 0, Value.int 0 0, Value.int 0 0, Value.int 3 0, Value.ref 324, Value.bool true, Value.int 181 0, Value.ref 325, Value.none, Value.ref 326, Value.ref 327, Value.ref 328, Value.int 619 0, Value.int 148 0, Value.str (Str.ofString "/claim/cut.py") 620]) #[])::
(nat_lit 330, Obj.mk (Value.type "function") none (Data.func (FuncData.mk (Str.ofString "determinant") (Str.ofString "Matrix.determinant") a39 (FuncBody.stmts b39) c39 3 [] Value.none Value.none Value.none (Value.str (Str.ofString "outlinemill.matrix") 553) none (Value.ref 329) Value.none 0)) #[])::
(nat_lit 331, Obj.mk (Value.type "tuple") none (Data.seq #[]) #[])::
(nat_lit 333, Obj.mk (Value.type "tuple") none (Data.seq #[Value.str (Str.ofString "self") 625, Value.str (Str.ofString "whole") 626, Value.str (Str.ofString "turned") 627, Value.str (Str.ofString "e") 628, Value.str (Str.ofString "f") 629]) #[])::
(nat_lit 334, Obj.mk (Value.type "tuple") none (Data.seq #[]) #[])::
(nat_lit 336, Obj.mk (Value.type "code") none (Data.fields #[Value.str (Str.ofString "inverse") 622, Value.str (Str.ofString "Matrix.inverse") 623, Value.str (Str.ofString "/claim/cut.py") 624, Value.int 151 0, Value.int 1 0, Value.int 0 0, Value.int 0 0, Value.int 3 0, Value.ref 331, Value.bool true, Value.int 181 0, Value.ref 332, Value.none, Value.ref 333, Value.ref 334, Value.ref 335, Value.int 630 0, Value.int 151 0, Value.str (Str.ofString "/claim/cut.py") 631]) #[])::
(nat_lit 337, Obj.mk (Value.type "function") none (Data.func (FuncData.mk (Str.ofString "inverse") (Str.ofString "Matrix.inverse") a40 (FuncBody.stmts b40) c40 3 [] Value.none Value.none Value.none (Value.str (Str.ofString "outlinemill.matrix") 553) none (Value.ref 336) Value.none 0)) #[])::
(nat_lit 338, Obj.mk (Value.type "tuple") none (Data.seq #[Value.str (Str.ofString "a") 633, Value.str (Str.ofString "b") 634, Value.str (Str.ofString "c") 635, Value.str (Str.ofString "d") 636, Value.str (Str.ofString "e") 637, Value.str (Str.ofString "f") 638]) #[])::
(nat_lit 339, Obj.mk (Value.type "dict") none (Data.dict #[DictEntry.mk (PyData.keyHash P (Str.ofString "__module__")) (Value.str (Str.ofString "__module__") 562) (Value.str (Str.ofString "outlinemill.matrix") 553), DictEntry.mk (PyData.keyHash P (Str.ofString "__firstlineno__")) (Value.str (Str.ofString "__firstlineno__") 566) (Value.int 124 565), DictEntry.mk (PyData.keyHash P (Str.ofString "__init__")) (Value.str (Str.ofString "__init__") 579) (Value.ref 295), DictEntry.mk (PyData.keyHash P (Str.ofString "row")) (Value.str (Str.ofString "row") 586) (Value.ref 302), DictEntry.mk (PyData.keyHash P (Str.ofString "vector")) (Value.str (Str.ofString "vector") 596) (Value.ref 309), DictEntry.mk (PyData.keyHash P (Str.ofString "point")) (Value.str (Str.ofString "point") 606) (Value.ref 316), DictEntry.mk (PyData.keyHash P (Str.ofString "then")) (Value.str (Str.ofString "then") 614) (Value.ref 323), DictEntry.mk (PyData.keyHash P (Str.ofString "determinant")) (Value.str (Str.ofString "determinant") 621) (Value.ref 330), DictEntry.mk (PyData.keyHash P (Str.ofString "inverse")) (Value.str (Str.ofString "inverse") 632) (Value.ref 337), DictEntry.mk (PyData.keyHash P (Str.ofString "__static_attributes__")) (Value.str (Str.ofString "__static_attributes__") 639) (Value.ref 338), DictEntry.mk (PyData.keyHash P (Str.ofString "__dict__")) (Value.str (Str.ofString "__dict__") 641) (Value.ref 341), DictEntry.mk (PyData.keyHash P (Str.ofString "__weakref__")) (Value.str (Str.ofString "__weakref__") 643) (Value.ref 342), DictEntry.mk (PyData.keyHash P (Str.ofString "__doc__")) (Value.str (Str.ofString "__doc__") 644) Value.none] 4) #[])::
(nat_lit 340, Obj.mk (Value.type "type") none (Data.cls (ClassData.mk (Str.ofString "Matrix") [Value.type "object"] [Value.ref 340, Value.type "object"] 339 (Str.ofString "Matrix") true [] [] false none false)) #[none, none, some (Value.str (Str.ofString "Matrix") 555), some (Value.str (Str.ofString "Matrix") 563), some (Value.builtin "object.__new__"), some (Value.bool true)])::
(nat_lit 341, Obj.mk (Value.type "getset_descriptor") none (Data.fields #[Value.str (Str.ofString "__dict__") 640, Value.ref 340, Value.builtin "function.__dict__", Value.builtin "function.__dict__#set"]) #[])::
(nat_lit 342, Obj.mk (Value.type "getset_descriptor") none (Data.fields #[Value.str (Str.ofString "__weakref__") 642, Value.ref 340, Value.builtin "ExceptionGroup.__weakref__", Value.none]) #[])::
(nat_lit 345, Obj.mk (Value.type "tuple") none (Data.seq #[]) #[])::
(nat_lit 347, Obj.mk (Value.type "tuple") none (Data.seq #[Value.str (Str.ofString "script") 652, Value.str (Str.ofString "k") 653, Value.str (Str.ofString "cell") 654, Value.str (Str.ofString "big") 655, Value.str (Str.ofString "mixed") 656]) #[])::
(nat_lit 348, Obj.mk (Value.type "tuple") none (Data.seq #[]) #[])::
(nat_lit 350, Obj.mk (Value.type "code") none (Data.fields #[Value.str (Str.ofString "_law_pool") 649, Value.str (Str.ofString "_law_pool") 650, Value.str (Str.ofString "/claim/cut.py") 651, Value.int 159 0, Value.int 2 0, Value.int 0 0, Value.int 0 0, Value.int 3 0, Value.ref 345, Value.bool true, Value.int 181 0, Value.ref 346, Value.none, Value.ref 347, Value.ref 348, Value.ref 349, Value.int 657 0, Value.int 159 0, Value.str (Str.ofString "/claim/cut.py") 658]) #[])::
(nat_lit 351, Obj.mk (Value.type "function") none (Data.func (FuncData.mk (Str.ofString "_law_pool") (Str.ofString "_law_pool") a41 (FuncBody.stmts b41) c41 3 [] Value.none Value.none Value.none (Value.str (Str.ofString "law_pf0192_01") 647) none (Value.ref 350) Value.none 0)) #[])::
(nat_lit 352, Obj.mk (Value.type "tuple") none (Data.seq #[]) #[])::
(nat_lit 354, Obj.mk (Value.type "tuple") none (Data.seq #[Value.str (Str.ofString "source") 663, Value.str (Str.ofString "top") 664, Value.str (Str.ofString "drawn") 665]) #[])::
(nat_lit 355, Obj.mk (Value.type "tuple") none (Data.seq #[]) #[])::
(nat_lit 357, Obj.mk (Value.type "code") none (Data.fields #[Value.str (Str.ofString "_law_take") 660, Value.str (Str.ofString "_law_take") 661, Value.str (Str.ofString "/claim/cut.py") 662, Value.int 166 0, Value.int 2 0, Value.int 0 0, Value.int 0 0, Value.int 3 0, Value.ref 352, Value.bool true, Value.int 181 0, Value.ref 353, Value.none, Value.ref 354, Value.ref 355, Value.ref 356, Value.int 666 0, Value.int 166 0, Value.str (Str.ofString "/claim/cut.py") 667]) #[])::
(nat_lit 358, Obj.mk (Value.type "function") none (Data.func (FuncData.mk (Str.ofString "_law_take") (Str.ofString "_law_take") a42 (FuncBody.stmts b42) c42 3 [] Value.none Value.none Value.none (Value.str (Str.ofString "law_pf0192_01") 647) none (Value.ref 357) Value.none 0)) #[])::
(nat_lit 359, Obj.mk (Value.type "tuple") none (Data.seq #[]) #[])::
(nat_lit 361, Obj.mk (Value.type "tuple") none (Data.seq #[Value.str (Str.ofString "source") 672, Value.str (Str.ofString "things") 673]) #[])::
(nat_lit 362, Obj.mk (Value.type "tuple") none (Data.seq #[]) #[])::
(nat_lit 364, Obj.mk (Value.type "code") none (Data.fields #[Value.str (Str.ofString "_law_one") 669, Value.str (Str.ofString "_law_one") 670, Value.str (Str.ofString "/claim/cut.py") 671, Value.int 173 0, Value.int 2 0, Value.int 0 0, Value.int 0 0, Value.int 3 0, Value.ref 359, Value.bool true, Value.int 181 0, Value.ref 360, Value.none, Value.ref 361, Value.ref 362, Value.ref 363, Value.int 674 0, Value.int 173 0, Value.str (Str.ofString "/claim/cut.py") 675]) #[])::
(nat_lit 365, Obj.mk (Value.type "function") none (Data.func (FuncData.mk (Str.ofString "_law_one") (Str.ofString "_law_one") a43 (FuncBody.stmts b43) c43 3 [] Value.none Value.none Value.none (Value.str (Str.ofString "law_pf0192_01") 647) none (Value.ref 364) Value.none 0)) #[])::
(nat_lit 366, Obj.mk (Value.type "tuple") none (Data.seq #[]) #[])::
(nat_lit 368, Obj.mk (Value.type "tuple") none (Data.seq #[Value.str (Str.ofString "top") 680, Value.str (Str.ofString "bottom") 681, Value.str (Str.ofString "side") 682, Value.str (Str.ofString "whole") 683]) #[])::
(nat_lit 369, Obj.mk (Value.type "tuple") none (Data.seq #[]) #[])::
(nat_lit 371, Obj.mk (Value.type "code") none (Data.fields #[Value.str (Str.ofString "_law_rest") 677, Value.str (Str.ofString "_law_rest") 678, Value.str (Str.ofString "/claim/cut.py") 679, Value.int 175 0, Value.int 3 0, Value.int 0 0, Value.int 0 0, Value.int 3 0, Value.ref 366, Value.bool true, Value.int 181 0, Value.ref 367, Value.none, Value.ref 368, Value.ref 369, Value.ref 370, Value.int 684 0, Value.int 175 0, Value.str (Str.ofString "/claim/cut.py") 685]) #[])::
(nat_lit 372, Obj.mk (Value.type "function") none (Data.func (FuncData.mk (Str.ofString "_law_rest") (Str.ofString "_law_rest") a44 (FuncBody.stmts b44) c44 3 [] Value.none Value.none Value.none (Value.str (Str.ofString "law_pf0192_01") 647) none (Value.ref 371) Value.none 0)) #[])::
(nat_lit 373, Obj.mk (Value.type "tuple") none (Data.seq #[]) #[])::
(nat_lit 375, Obj.mk (Value.type "tuple") none (Data.seq #[Value.str (Str.ofString "top") 690, Value.str (Str.ofString "bottom") 691, Value.str (Str.ofString "side") 692, Value.str (Str.ofString "many") 693, Value.str (Str.ofString "rest") 694, Value.str (Str.ofString "whole") 695]) #[])::
(nat_lit 376, Obj.mk (Value.type "tuple") none (Data.seq #[]) #[])::
(nat_lit 378, Obj.mk (Value.type "code") none (Data.fields #[Value.str (Str.ofString "_law_dot") 687, Value.str (Str.ofString "_law_dot") 688, Value.str (Str.ofString "/claim/cut.py") 689, Value.int 178 0, Value.int 4 0, Value.int 0 0, Value.int 0 0, Value.int 3 0, Value.ref 373, Value.bool true, Value.int 181 0, Value.ref 374, Value.none, Value.ref 375, Value.ref 376, Value.ref 377, Value.int 696 0, Value.int 178 0, Value.str (Str.ofString "/claim/cut.py") 697]) #[])::
(nat_lit 379, Obj.mk (Value.type "function") none (Data.func (FuncData.mk (Str.ofString "_law_dot") (Str.ofString "_law_dot") a45 (FuncBody.stmts b45) c45 3 [] Value.none Value.none Value.none (Value.str (Str.ofString "law_pf0192_01") 647) none (Value.ref 378) Value.none 0)) #[])::
(nat_lit 380, Obj.mk (Value.type "tuple") none (Data.seq #[]) #[])::
(nat_lit 382, Obj.mk (Value.type "tuple") none (Data.seq #[Value.str (Str.ofString "source") 702, Value.str (Str.ofString "wide") 703, Value.str (Str.ofString "tall") 704, Value.str (Str.ofString "canvas") 705, Value.str (Str.ofString "number") 706, Value.str (Str.ofString "x") 707, Value.str (Str.ofString "y") 708]) #[])::
(nat_lit 383, Obj.mk (Value.type "tuple") none (Data.seq #[]) #[])::
(nat_lit 385, Obj.mk (Value.type "code") none (Data.fields #[Value.str (Str.ofString "_law_picture") 699, Value.str (Str.ofString "_law_picture") 700, Value.str (Str.ofString "/claim/cut.py") 701, Value.int 181 0, Value.int 1 0, Value.int 0 0, Value.int 0 0, Value.int 3 0, Value.ref 380, Value.bool true, Value.int 181 0, Value.ref 381, Value.none, Value.ref 382, Value.ref 383, Value.ref 384, Value.int 709 0, Value.int 181 0, Value.str (Str.ofString "/claim/cut.py") 710]) #[])::
(nat_lit 386, Obj.mk (Value.type "function") none (Data.func (FuncData.mk (Str.ofString "_law_picture") (Str.ofString "_law_picture") a46 (FuncBody.stmts b46) c46 3 [] Value.none Value.none Value.none (Value.str (Str.ofString "law_pf0192_01") 647) none (Value.ref 385) Value.none 0)) #[])::
(nat_lit 387, Obj.mk (Value.type "tuple") none (Data.seq #[]) #[])::
(nat_lit 389, Obj.mk (Value.type "tuple") none (Data.seq #[Value.str (Str.ofString "source") 715]) #[])::
(nat_lit 390, Obj.mk (Value.type "tuple") none (Data.seq #[]) #[])::
(nat_lit 392, Obj.mk (Value.type "code") none (Data.fields #[Value.str (Str.ofString "_law_side") 712, Value.str (Str.ofString "_law_side") 713, Value.str (Str.ofString "/claim/cut.py") 714, Value.int 187 0, Value.int 1 0, Value.int 0 0, Value.int 0 0, Value.int 3 0, Value.ref 387, Value.bool true, Value.int 181 0, Value.ref 388, Value.none, Value.ref 389, Value.ref 390, Value.ref 391, Value.int 716 0, Value.int 187 0, Value.str (Str.ofString "/claim/cut.py") 717]) #[])::
(nat_lit 393, Obj.mk (Value.type "function") none (Data.func (FuncData.mk (Str.ofString "_law_side") (Str.ofString "_law_side") a47 (FuncBody.stmts b47) c47 3 [] Value.none Value.none Value.none (Value.str (Str.ofString "law_pf0192_01") 647) none (Value.ref 392) Value.none 0)) #[])::
(nat_lit 394, Obj.mk (Value.type "tuple") none (Data.seq #[]) #[])::
(nat_lit 396, Obj.mk (Value.type "tuple") none (Data.seq #[Value.str (Str.ofString "canvas") 722, Value.str (Str.ofString "halves") 723, Value.str (Str.ofString "sides") 724, Value.str (Str.ofString "x") 725, Value.str (Str.ofString "y") 726, Value.str (Str.ofString "a") 727, Value.str (Str.ofString "b") 728, Value.str (Str.ofString "c") 729, Value.str (Str.ofString "d") 730, Value.str (Str.ofString "e") 731, Value.str (Str.ofString "f") 732, Value.str (Str.ofString "over") 733, Value.str (Str.ofString "down") 734, Value.str (Str.ofString "column") 735, Value.str (Str.ofString "row") 736]) #[])::
(nat_lit 397, Obj.mk (Value.type "tuple") none (Data.seq #[]) #[])::
(nat_lit 399, Obj.mk (Value.type "code") none (Data.fields #[Value.str (Str.ofString "_law_colour") 719, Value.str (Str.ofString "_law_colour") 720, Value.str (Str.ofString "/claim/cut.py") 721, Value.int 189 0, Value.int 5 0, Value.int 0 0, Value.int 0 0, Value.int 3 0, Value.ref 394, Value.bool true, Value.int 181 0, Value.ref 395, Value.none, Value.ref 396, Value.ref 397, Value.ref 398, Value.int 737 0, Value.int 189 0, Value.str (Str.ofString "/claim/cut.py") 738]) #[])::
(nat_lit 400, Obj.mk (Value.type "function") none (Data.func (FuncData.mk (Str.ofString "_law_colour") (Str.ofString "_law_colour") a48 (FuncBody.stmts b48) c48 3 [] Value.none Value.none Value.none (Value.str (Str.ofString "law_pf0192_01") 647) none (Value.ref 399) Value.none 0)) #[])::
(nat_lit 401, Obj.mk (Value.type "tuple") none (Data.seq #[]) #[])::
(nat_lit 403, Obj.mk (Value.type "tuple") none (Data.seq #[Value.str (Str.ofString "canvas") 743, Value.str (Str.ofString "halves") 744, Value.str (Str.ofString "sides") 745, Value.str (Str.ofString "dots") 746, Value.str (Str.ofString "inverse") 747, Value.str (Str.ofString "pattern") 748, Value.str (Str.ofString "x") 749, Value.str (Str.ofString "y") 750]) #[])::
(nat_lit 404, Obj.mk (Value.type "tuple") none (Data.seq #[]) #[])::
(nat_lit 406, Obj.mk (Value.type "code") none (Data.fields #[Value.str (Str.ofString "_law_right") 740, Value.str (Str.ofString "_law_right") 741, Value.str (Str.ofString "/claim/cut.py") 742, Value.int 197 0, Value.int 4 0, Value.int 0 0, Value.int 0 0, Value.int 3 0, Value.ref 401, Value.bool true, Value.int 181 0, Value.ref 402, Value.none, Value.ref 403, Value.ref 404, Value.ref 405, Value.int 751 0, Value.int 197 0, Value.str (Str.ofString "/claim/cut.py") 752]) #[])::
(nat_lit 407, Obj.mk (Value.type "function") none (Data.func (FuncData.mk (Str.ofString "_law_right") (Str.ofString "_law_right") a49 (FuncBody.stmts b49) c49 3 [] Value.none Value.none Value.none (Value.str (Str.ofString "law_pf0192_01") 647) none (Value.ref 406) Value.none 0)) #[])::
(nat_lit 408, Obj.mk (Value.type "tuple") none (Data.seq #[]) #[])::
(nat_lit 411, Obj.mk (Value.type "code") none (Data.fields #[Value.str (Str.ofString "_law_matrix") 754, Value.str (Str.ofString "_law_matrix") 755, Value.str (Str.ofString "/claim/cut.py") 756, Value.int 204 0, Value.int 1 0, Value.int 0 0, Value.int 0 0, Value.int 3 0, Value.ref 408, Value.bool true, Value.int 181 0, Value.ref 409, Value.none, Value.none, Value.none, Value.ref 410, Value.int 757 0, Value.int 204 0, Value.str (Str.ofString "/claim/cut.py") 758]) #[])::
(nat_lit 412, Obj.mk (Value.type "function") none (Data.func (FuncData.mk (Str.ofString "_law_matrix") (Str.ofString "_law_matrix") a50 (FuncBody.stmts b50) c50 3 [] Value.none Value.none Value.none (Value.str (Str.ofString "law_pf0192_01") 647) none (Value.ref 411) Value.none 0)) #[])::
(nat_lit 413, Obj.mk (Value.type "tuple") none (Data.seq #[]) #[])::
(nat_lit 416, Obj.mk (Value.type "code") none (Data.fields #[Value.str (Str.ofString "law") 760, Value.str (Str.ofString "law") 761, Value.str (Str.ofString "/claim/cut.py") 762, Value.int 207 0, Value.int 1 0, Value.int 0 0, Value.int 0 0, Value.int 3 0, Value.ref 413, Value.bool true, Value.int 181 0, Value.ref 414, Value.none, Value.none, Value.none, Value.ref 415, Value.int 763 0, Value.int 207 0, Value.str (Str.ofString "/claim/cut.py") 764]) #[])::
(nat_lit 417, Obj.mk (Value.type "function") none (Data.func (FuncData.mk (Str.ofString "law") (Str.ofString "law") a51 (FuncBody.stmts b51) c51 3 [] Value.none Value.none Value.none (Value.str (Str.ofString "law_pf0192_01") 647) none (Value.ref 416) Value.none 0)) #[])::[]) : List (Nat × Obj))
noncomputable def R : Params → Frag := fun P =>
(nat_lit 11, Obj.mk (Value.type "tuple") none (Data.seq #[]) #[])::
(nat_lit 12, Obj.mk Value.none none (Data.fields #[Value.int 1 0, Value.int 0 0, Value.ref 20, Value.int 5 0, Value.int 0 0, Value.ref 27, Value.int 9 0, Value.int 0 0, Value.ref 47, Value.int 11 0, Value.int 0 0, Value.ref 59, Value.int 13 0, Value.int 0 0, Value.ref 71, Value.int 17 0, Value.int 0 0, Value.ref 84, Value.int 22 0, Value.int 0 0, Value.ref 92, Value.int 29 0, Value.int 0 0, Value.ref 99, Value.int 31 0, Value.int 0 0, Value.ref 106, Value.int 33 0, Value.int 0 0, Value.ref 113, Value.int 35 0, Value.int 0 0, Value.ref 120, Value.int 39 0, Value.int 0 0, Value.ref 127, Value.int 41 0, Value.int 0 0, Value.ref 134, Value.int 47 0, Value.int 0 0, Value.ref 141, Value.int 49 0, Value.int 0 0, Value.ref 148, Value.int 52 0, Value.int 0 0, Value.ref 155, Value.int 56 0, Value.int 0 0, Value.ref 163, Value.int 59 0, Value.int 0 0, Value.ref 170, Value.int 84 0, Value.int 0 0, Value.ref 213, Value.int 124 0, Value.int 0 0, Value.ref 287, Value.int 159 0, Value.int 0 0, Value.ref 350, Value.int 166 0, Value.int 0 0, Value.ref 357, Value.int 173 0, Value.int 0 0, Value.ref 364, Value.int 175 0, Value.int 0 0, Value.ref 371, Value.int 178 0, Value.int 0 0, Value.ref 378, Value.int 181 0, Value.int 0 0, Value.ref 385, Value.int 187 0, Value.int 0 0, Value.ref 392, Value.int 189 0, Value.int 0 0, Value.ref 399, Value.int 197 0, Value.int 0 0, Value.ref 406, Value.int 204 0, Value.int 0 0, Value.ref 411, Value.int 207 0, Value.int 0 0, Value.ref 416]) #[])::
(nat_lit 13, Obj.mk (Value.type "code") none (Data.fields #[Value.str (Str.ofString "<module>") 182, Value.str (Str.ofString "<module>") 183, Value.str (Str.ofString "/claim/cut.py") 184, Value.int 1 0, Value.int 0 0, Value.int 0 0, Value.int 0 0, Value.int 0 0, Value.ref 11, Value.bool false, Value.int 181 0, Value.ref 12, Value.none, Value.none, Value.none, Value.none, Value.int 185 0, Value.int 1 0, Value.str (Str.ofString "/claim/cut.py") 186]) #[])::
(nat_lit 14, Obj.mk (Value.type "frame") none Data.plain #[some (Value.ref 13), some (Value.ref 3), some (Value.ref 3), none, some (Value.str (Str.ofString "__main__") 164), none, some (Value.ref 0)])::
(nat_lit 16, Obj.mk Value.none none (Data.fields #[]) #[])::
(nat_lit 19, Obj.mk Value.none none (Data.func (FuncData.mk (Str.ofString "_wall") (Str.ofString "_wall") a0 (FuncBody.stmts b0) c0 0 [] Value.none Value.none Value.none Value.none none Value.none Value.none 0)) #[])::
(nat_lit 23, Obj.mk (Value.type "builtin_function_or_method") none (Data.fields #[Value.builtin "type.__prepare__", Value.type "type"]) #[])::
(nat_lit 24, Obj.mk (Value.type "dict") none (Data.dict #[DictEntry.mk (PyData.keyHash P (Str.ofString "__module__")) (Value.str (Str.ofString "__module__") 203) (Value.str (Str.ofString "outlinemill.errors") 194), DictEntry.mk (PyData.keyHash P (Str.ofString "__qualname__")) (Value.str (Str.ofString "__qualname__") 205) (Value.str (Str.ofString "MillError") 204), DictEntry.mk (PyData.keyHash P (Str.ofString "__firstlineno__")) (Value.str (Str.ofString "__firstlineno__") 207) (Value.int 5 206), DictEntry.mk (PyData.keyHash P (Str.ofString "__init__")) (Value.str (Str.ofString "__init__") 215) (Value.ref 35), DictEntry.mk (PyData.keyHash P (Str.ofString "__static_attributes__")) (Value.str (Str.ofString "__static_attributes__") 217) (Value.ref 36)] 5) #[])::
(nat_lit 25, Obj.mk (Value.type "tuple") none (Data.seq #[]) #[])::
(nat_lit 26, Obj.mk Value.none none (Data.fields #[Value.int 7 0, Value.int 4 0, Value.ref 34]) #[])::
(nat_lit 27, Obj.mk (Value.type "code") none (Data.fields #[Value.str (Str.ofString "MillError") 198, Value.str (Str.ofString "MillError") 199, Value.str (Str.ofString "/claim/cut.py") 200, Value.int 5 0, Value.int 0 0, Value.int 0 0, Value.int 0 0, Value.int 0 0, Value.ref 25, Value.bool false, Value.int 181 0, Value.ref 26, Value.none, Value.none, Value.none, Value.none, Value.int 201 0, Value.int 5 0, Value.str (Str.ofString "/claim/cut.py") 202]) #[])::
(nat_lit 28, Obj.mk (Value.type "frame") none Data.plain #[some (Value.ref 27), some (Value.ref 3), some (Value.ref 24), none, some (Value.str (Str.ofString "outlinemill.errors") 194), none, some (Value.ref 0)])::
(nat_lit 30, Obj.mk Value.none none (Data.fields #[]) #[])::
(nat_lit 33, Obj.mk Value.none none (Data.func (FuncData.mk (Str.ofString "__init__") (Str.ofString "MillError.__init__") a2 (FuncBody.stmts b2) c2 0 [] Value.none Value.none Value.none Value.none none Value.none Value.none 0)) #[])::
(nat_lit 40, Obj.mk (Value.type "super") none (Data.fields #[Value.ref 38, Value.ref 38, Value.ref 38]) #[])::
(nat_lit 41, Obj.mk (Value.type "builtin_function_or_method") none (Data.fields #[Value.builtin "object.__init_subclass__", Value.ref 38]) #[])::
(nat_lit 43, Obj.mk (Value.type "builtin_function_or_method") none (Data.fields #[Value.builtin "type.__prepare__", Value.type "type"]) #[])::
(nat_lit 44, Obj.mk (Value.type "dict") none (Data.dict #[DictEntry.mk (PyData.keyHash P (Str.ofString "__module__")) (Value.str (Str.ofString "__module__") 232) (Value.str (Str.ofString "outlinemill.errors") 194), DictEntry.mk (PyData.keyHash P (Str.ofString "__qualname__")) (Value.str (Str.ofString "__qualname__") 234) (Value.str (Str.ofString "NumberFault") 233), DictEntry.mk (PyData.keyHash P (Str.ofString "__firstlineno__")) (Value.str (Str.ofString "__firstlineno__") 236) (Value.int 9 235), DictEntry.mk (PyData.keyHash P (Str.ofString "__static_attributes__")) (Value.str (Str.ofString "__static_attributes__") 237) (Value.ref 49)] 4) #[])::
(nat_lit 45, Obj.mk (Value.type "tuple") none (Data.seq #[]) #[])::
(nat_lit 46, Obj.mk Value.none none (Data.fields #[]) #[])::
(nat_lit 47, Obj.mk (Value.type "code") none (Data.fields #[Value.str (Str.ofString "NumberFault") 227, Value.str (Str.ofString "NumberFault") 228, Value.str (Str.ofString "/claim/cut.py") 229, Value.int 9 0, Value.int 0 0, Value.int 0 0, Value.int 0 0, Value.int 0 0, Value.ref 45, Value.bool false, Value.int 181 0, Value.ref 46, Value.none, Value.none, Value.none, Value.none, Value.int 230 0, Value.int 9 0, Value.str (Str.ofString "/claim/cut.py") 231]) #[])::
(nat_lit 48, Obj.mk (Value.type "frame") none Data.plain #[some (Value.ref 47), some (Value.ref 3), some (Value.ref 44), none, some (Value.str (Str.ofString "outlinemill.errors") 194), none, some (Value.ref 0)])::
(nat_lit 52, Obj.mk (Value.type "super") none (Data.fields #[Value.ref 51, Value.ref 51, Value.ref 51]) #[])::
(nat_lit 53, Obj.mk (Value.type "builtin_function_or_method") none (Data.fields #[Value.builtin "object.__init_subclass__", Value.ref 51]) #[])::
(nat_lit 55, Obj.mk (Value.type "builtin_function_or_method") none (Data.fields #[Value.builtin "type.__prepare__", Value.type "type"]) #[])::
(nat_lit 56, Obj.mk (Value.type "dict") none (Data.dict #[DictEntry.mk (PyData.keyHash P (Str.ofString "__module__")) (Value.str (Str.ofString "__module__") 248) (Value.str (Str.ofString "outlinemill.errors") 194), DictEntry.mk (PyData.keyHash P (Str.ofString "__qualname__")) (Value.str (Str.ofString "__qualname__") 250) (Value.str (Str.ofString "MatrixFault") 249), DictEntry.mk (PyData.keyHash P (Str.ofString "__firstlineno__")) (Value.str (Str.ofString "__firstlineno__") 252) (Value.int 11 251), DictEntry.mk (PyData.keyHash P (Str.ofString "__static_attributes__")) (Value.str (Str.ofString "__static_attributes__") 253) (Value.ref 61)] 4) #[])::
(nat_lit 57, Obj.mk (Value.type "tuple") none (Data.seq #[]) #[])::
(nat_lit 58, Obj.mk Value.none none (Data.fields #[]) #[])::
(nat_lit 59, Obj.mk (Value.type "code") none (Data.fields #[Value.str (Str.ofString "MatrixFault") 243, Value.str (Str.ofString "MatrixFault") 244, Value.str (Str.ofString "/claim/cut.py") 245, Value.int 11 0, Value.int 0 0, Value.int 0 0, Value.int 0 0, Value.int 0 0, Value.ref 57, Value.bool false, Value.int 181 0, Value.ref 58, Value.none, Value.none, Value.none, Value.none, Value.int 246 0, Value.int 11 0, Value.str (Str.ofString "/claim/cut.py") 247]) #[])::
(nat_lit 60, Obj.mk (Value.type "frame") none Data.plain #[some (Value.ref 59), some (Value.ref 3), some (Value.ref 56), none, some (Value.str (Str.ofString "outlinemill.errors") 194), none, some (Value.ref 0)])::
(nat_lit 64, Obj.mk (Value.type "super") none (Data.fields #[Value.ref 63, Value.ref 63, Value.ref 63]) #[])::
(nat_lit 65, Obj.mk (Value.type "builtin_function_or_method") none (Data.fields #[Value.builtin "object.__init_subclass__", Value.ref 63]) #[])::
(nat_lit 67, Obj.mk (Value.type "builtin_function_or_method") none (Data.fields #[Value.builtin "type.__prepare__", Value.type "type"]) #[])::
(nat_lit 68, Obj.mk (Value.type "dict") none (Data.dict #[DictEntry.mk (PyData.keyHash P (Str.ofString "__module__")) (Value.str (Str.ofString "__module__") 264) (Value.str (Str.ofString "outlinemill.errors") 194), DictEntry.mk (PyData.keyHash P (Str.ofString "__qualname__")) (Value.str (Str.ofString "__qualname__") 266) (Value.str (Str.ofString "SizeFault") 265), DictEntry.mk (PyData.keyHash P (Str.ofString "__firstlineno__")) (Value.str (Str.ofString "__firstlineno__") 268) (Value.int 13 267), DictEntry.mk (PyData.keyHash P (Str.ofString "__static_attributes__")) (Value.str (Str.ofString "__static_attributes__") 269) (Value.ref 73)] 4) #[])::
(nat_lit 69, Obj.mk (Value.type "tuple") none (Data.seq #[]) #[])::
(nat_lit 70, Obj.mk Value.none none (Data.fields #[]) #[])::
(nat_lit 71, Obj.mk (Value.type "code") none (Data.fields #[Value.str (Str.ofString "SizeFault") 259, Value.str (Str.ofString "SizeFault") 260, Value.str (Str.ofString "/claim/cut.py") 261, Value.int 13 0, Value.int 0 0, Value.int 0 0, Value.int 0 0, Value.int 0 0, Value.ref 69, Value.bool false, Value.int 181 0, Value.ref 70, Value.none, Value.none, Value.none, Value.none, Value.int 262 0, Value.int 13 0, Value.str (Str.ofString "/claim/cut.py") 263]) #[])::
(nat_lit 72, Obj.mk (Value.type "frame") none Data.plain #[some (Value.ref 71), some (Value.ref 3), some (Value.ref 68), none, some (Value.str (Str.ofString "outlinemill.errors") 194), none, some (Value.ref 0)])::
(nat_lit 76, Obj.mk (Value.type "super") none (Data.fields #[Value.ref 75, Value.ref 75, Value.ref 75]) #[])::
(nat_lit 77, Obj.mk (Value.type "builtin_function_or_method") none (Data.fields #[Value.builtin "object.__init_subclass__", Value.ref 75]) #[])::
(nat_lit 80, Obj.mk Value.none none (Data.fields #[]) #[])::
(nat_lit 83, Obj.mk Value.none none (Data.func (FuncData.mk (Str.ofString "common_divisor") (Str.ofString "common_divisor") a6 (FuncBody.stmts b6) c6 0 [] Value.none Value.none Value.none Value.none none Value.none Value.none 0)) #[])::
(nat_lit 88, Obj.mk Value.none none (Data.fields #[]) #[])::
(nat_lit 91, Obj.mk Value.none none (Data.func (FuncData.mk (Str.ofString "fraction") (Str.ofString "fraction") a7 (FuncBody.stmts b7) c7 0 [] Value.none Value.none Value.none Value.none none Value.none Value.none 0)) #[])::
(nat_lit 95, Obj.mk Value.none none (Data.fields #[]) #[])::
(nat_lit 98, Obj.mk Value.none none (Data.func (FuncData.mk (Str.ofString "plus") (Str.ofString "plus") a8 (FuncBody.stmts b8) c8 0 [] Value.none Value.none Value.none Value.none none Value.none Value.none 0)) #[])::
(nat_lit 102, Obj.mk Value.none none (Data.fields #[]) #[])::
(nat_lit 105, Obj.mk Value.none none (Data.func (FuncData.mk (Str.ofString "minus") (Str.ofString "minus") a9 (FuncBody.stmts b9) c9 0 [] Value.none Value.none Value.none Value.none none Value.none Value.none 0)) #[])::
(nat_lit 109, Obj.mk Value.none none (Data.fields #[]) #[])::
(nat_lit 112, Obj.mk Value.none none (Data.func (FuncData.mk (Str.ofString "times") (Str.ofString "times") a10 (FuncBody.stmts b10) c10 0 [] Value.none Value.none Value.none Value.none none Value.none Value.none 0)) #[])::
(nat_lit 116, Obj.mk Value.none none (Data.fields #[]) #[])::
(nat_lit 119, Obj.mk Value.none none (Data.func (FuncData.mk (Str.ofString "divided") (Str.ofString "divided") a11 (FuncBody.stmts b11) c11 0 [] Value.none Value.none Value.none Value.none none Value.none Value.none 0)) #[])::
(nat_lit 123, Obj.mk Value.none none (Data.fields #[]) #[])::
(nat_lit 126, Obj.mk Value.none none (Data.func (FuncData.mk (Str.ofString "negated") (Str.ofString "negated") a12 (FuncBody.stmts b12) c12 0 [] Value.none Value.none Value.none Value.none none Value.none Value.none 0)) #[])::
(nat_lit 130, Obj.mk Value.none none (Data.fields #[]) #[])::
(nat_lit 133, Obj.mk Value.none none (Data.func (FuncData.mk (Str.ofString "sign_of") (Str.ofString "sign_of") a13 (FuncBody.stmts b13) c13 0 [] Value.none Value.none Value.none Value.none none Value.none Value.none 0)) #[])::
(nat_lit 137, Obj.mk Value.none none (Data.fields #[]) #[])::
(nat_lit 140, Obj.mk Value.none none (Data.func (FuncData.mk (Str.ofString "compare") (Str.ofString "compare") a14 (FuncBody.stmts b14) c14 0 [] Value.none Value.none Value.none Value.none none Value.none Value.none 0)) #[])::
(nat_lit 144, Obj.mk Value.none none (Data.fields #[]) #[])::
(nat_lit 147, Obj.mk Value.none none (Data.func (FuncData.mk (Str.ofString "floor_of") (Str.ofString "floor_of") a15 (FuncBody.stmts b15) c15 0 [] Value.none Value.none Value.none Value.none none Value.none Value.none 0)) #[])::
(nat_lit 151, Obj.mk Value.none none (Data.fields #[]) #[])::
(nat_lit 154, Obj.mk Value.none none (Data.func (FuncData.mk (Str.ofString "middle_of") (Str.ofString "middle_of") a16 (FuncBody.stmts b16) c16 0 [] Value.none Value.none Value.none Value.none none Value.none Value.none 0)) #[])::
(nat_lit 159, Obj.mk Value.none none (Data.fields #[]) #[])::
(nat_lit 162, Obj.mk Value.none none (Data.func (FuncData.mk (Str.ofString "within") (Str.ofString "within") a17 (FuncBody.stmts b17) c17 0 [] Value.none Value.none Value.none Value.none none Value.none Value.none 0)) #[])::
(nat_lit 165, Obj.mk (Value.type "tuple") none (Data.seq #[]) #[])::
(nat_lit 166, Obj.mk (Value.type "builtin_function_or_method") none (Data.fields #[Value.builtin "type.__prepare__", Value.type "type"]) #[])::
(nat_lit 167, Obj.mk (Value.type "dict") none (Data.dict #[DictEntry.mk (PyData.keyHash P (Str.ofString "__module__")) (Value.str (Str.ofString "__module__") 392) (Value.str (Str.ofString "outlinemill.patterns") 369), DictEntry.mk (PyData.keyHash P (Str.ofString "__qualname__")) (Value.str (Str.ofString "__qualname__") 394) (Value.str (Str.ofString "Pattern") 393), DictEntry.mk (PyData.keyHash P (Str.ofString "__firstlineno__")) (Value.str (Str.ofString "__firstlineno__") 396) (Value.int 59 395), DictEntry.mk (PyData.keyHash P (Str.ofString "__init__")) (Value.str (Str.ofString "__init__") 407) (Value.ref 178), DictEntry.mk (PyData.keyHash P (Str.ofString "is_empty")) (Value.str (Str.ofString "is_empty") 414) (Value.ref 185), DictEntry.mk (PyData.keyHash P (Str.ofString "dot_of")) (Value.str (Str.ofString "dot_of") 424) (Value.ref 192), DictEntry.mk (PyData.keyHash P (Str.ofString "colour_at")) (Value.str (Str.ofString "colour_at") 436) (Value.ref 199), DictEntry.mk (PyData.keyHash P (Str.ofString "__static_attributes__")) (Value.str (Str.ofString "__static_attributes__") 441) (Value.ref 200)] 8) #[])::
(nat_lit 168, Obj.mk (Value.type "tuple") none (Data.seq #[]) #[])::
(nat_lit 169, Obj.mk Value.none none (Data.fields #[Value.int 61 0, Value.int 4 0, Value.ref 177, Value.int 67 0, Value.int 4 0, Value.ref 184, Value.int 72 0, Value.int 4 0, Value.ref 191, Value.int 75 0, Value.int 4 0, Value.ref 198]) #[])::
(nat_lit 170, Obj.mk (Value.type "code") none (Data.fields #[Value.str (Str.ofString "Pattern") 387, Value.str (Str.ofString "Pattern") 388, Value.str (Str.ofString "/claim/cut.py") 389, Value.int 59 0, Value.int 0 0, Value.int 0 0, Value.int 0 0, Value.int 0 0, Value.ref 168, Value.bool false, Value.int 181 0, Value.ref 169, Value.none, Value.none, Value.none, Value.none, Value.int 390 0, Value.int 59 0, Value.str (Str.ofString "/claim/cut.py") 391]) #[])::
(nat_lit 171, Obj.mk (Value.type "frame") none Data.plain #[some (Value.ref 170), some (Value.ref 3), some (Value.ref 167), none, some (Value.str (Str.ofString "outlinemill.patterns") 369), none, some (Value.ref 0)])::
(nat_lit 173, Obj.mk Value.none none (Data.fields #[]) #[])::
(nat_lit 176, Obj.mk Value.none none (Data.func (FuncData.mk (Str.ofString "__init__") (Str.ofString "Pattern.__init__") a19 (FuncBody.stmts b19) c19 0 [] Value.none Value.none Value.none Value.none none Value.none Value.none 0)) #[])::
(nat_lit 180, Obj.mk Value.none none (Data.fields #[]) #[])::
(nat_lit 183, Obj.mk Value.none none (Data.func (FuncData.mk (Str.ofString "is_empty") (Str.ofString "Pattern.is_empty") a20 (FuncBody.stmts b20) c20 0 [] Value.none Value.none Value.none Value.none none Value.none Value.none 0)) #[])::
(nat_lit 187, Obj.mk Value.none none (Data.fields #[]) #[])::
(nat_lit 190, Obj.mk Value.none none (Data.func (FuncData.mk (Str.ofString "dot_of") (Str.ofString "Pattern.dot_of") a21 (FuncBody.stmts b21) c21 0 [] Value.none Value.none Value.none Value.none none Value.none Value.none 0)) #[])::
(nat_lit 194, Obj.mk Value.none none (Data.fields #[]) #[])::
(nat_lit 197, Obj.mk Value.none none (Data.func (FuncData.mk (Str.ofString "colour_at") (Str.ofString "Pattern.colour_at") a22 (FuncBody.stmts b22) c22 0 [] Value.none Value.none Value.none Value.none none Value.none Value.none 0)) #[])::
(nat_lit 205, Obj.mk (Value.type "super") none (Data.fields #[Value.ref 202, Value.ref 202, Value.ref 202]) #[])::
(nat_lit 206, Obj.mk (Value.type "builtin_function_or_method") none (Data.fields #[Value.builtin "object.__init_subclass__", Value.ref 202]) #[])::
(nat_lit 208, Obj.mk (Value.type "tuple") none (Data.seq #[]) #[])::
(nat_lit 209, Obj.mk (Value.type "builtin_function_or_method") none (Data.fields #[Value.builtin "type.__prepare__", Value.type "type"]) #[])::
(nat_lit 210, Obj.mk (Value.type "dict") none (Data.dict #[DictEntry.mk (PyData.keyHash P (Str.ofString "__module__")) (Value.str (Str.ofString "__module__") 463) (Value.str (Str.ofString "outlinemill.canvas") 449), DictEntry.mk (PyData.keyHash P (Str.ofString "__qualname__")) (Value.str (Str.ofString "__qualname__") 465) (Value.str (Str.ofString "Canvas") 464), DictEntry.mk (PyData.keyHash P (Str.ofString "__firstlineno__")) (Value.str (Str.ofString "__firstlineno__") 467) (Value.int 84 466), DictEntry.mk (PyData.keyHash P (Str.ofString "__init__")) (Value.str (Str.ofString "__init__") 475) (Value.ref 220), DictEntry.mk (PyData.keyHash P (Str.ofString "holds")) (Value.str (Str.ofString "holds") 484) (Value.ref 227), DictEntry.mk (PyData.keyHash P (Str.ofString "get")) (Value.str (Str.ofString "get") 493) (Value.ref 234), DictEntry.mk (PyData.keyHash P (Str.ofString "put")) (Value.str (Str.ofString "put") 503) (Value.ref 241), DictEntry.mk (PyData.keyHash P (Str.ofString "fill")) (Value.str (Str.ofString "fill") 511) (Value.ref 248), DictEntry.mk (PyData.keyHash P (Str.ofString "rows")) (Value.str (Str.ofString "rows") 518) (Value.ref 255), DictEntry.mk (PyData.keyHash P (Str.ofString "places")) (Value.str (Str.ofString "places") 524) (Value.ref 260), DictEntry.mk (PyData.keyHash P (Str.ofString "like")) (Value.str (Str.ofString "like") 531) (Value.ref 267), DictEntry.mk (PyData.keyHash P (Str.ofString "take")) (Value.str (Str.ofString "take") 539) (Value.ref 274), DictEntry.mk (PyData.keyHash P (Str.ofString "__static_attributes__")) (Value.str (Str.ofString "__static_attributes__") 545) (Value.ref 275)] 13) #[])::
(nat_lit 211, Obj.mk (Value.type "tuple") none (Data.seq #[]) #[])::
(nat_lit 212, Obj.mk Value.none none (Data.fields #[Value.int 86 0, Value.int 4 0, Value.ref 219, Value.int 95 0, Value.int 4 0, Value.ref 226, Value.int 98 0, Value.int 4 0, Value.ref 233, Value.int 101 0, Value.int 4 0, Value.ref 240, Value.int 106 0, Value.int 4 0, Value.ref 247, Value.int 109 0, Value.int 4 0, Value.ref 254, Value.int 112 0, Value.int 4 0, Value.ref 259, Value.int 118 0, Value.int 4 0, Value.ref 266, Value.int 121 0, Value.int 4 0, Value.ref 273]) #[])::
(nat_lit 213, Obj.mk (Value.type "code") none (Data.fields #[Value.str (Str.ofString "Canvas") 458, Value.str (Str.ofString "Canvas") 459, Value.str (Str.ofString "/claim/cut.py") 460, Value.int 84 0, Value.int 0 0, Value.int 0 0, Value.int 0 0, Value.int 0 0, Value.ref 211, Value.bool false, Value.int 181 0, Value.ref 212, Value.none, Value.none, Value.none, Value.none, Value.int 461 0, Value.int 84 0, Value.str (Str.ofString "/claim/cut.py") 462]) #[])::
(nat_lit 214, Obj.mk (Value.type "frame") none Data.plain #[some (Value.ref 213), some (Value.ref 3), some (Value.ref 210), none, some (Value.str (Str.ofString "outlinemill.canvas") 449), none, some (Value.ref 0)])::
(nat_lit 217, Obj.mk Value.none none (Data.fields #[]) #[])::
(nat_lit 218, Obj.mk Value.none none (Data.func (FuncData.mk (Str.ofString "__init__") (Str.ofString "Canvas.__init__") a24 (FuncBody.stmts b24) c24 0 [] Value.none Value.none Value.none Value.none none Value.none Value.none 0)) #[])::
(nat_lit 222, Obj.mk Value.none none (Data.fields #[]) #[])::
(nat_lit 225, Obj.mk Value.none none (Data.func (FuncData.mk (Str.ofString "holds") (Str.ofString "Canvas.holds") a25 (FuncBody.stmts b25) c25 0 [] Value.none Value.none Value.none Value.none none Value.none Value.none 0)) #[])::
(nat_lit 229, Obj.mk Value.none none (Data.fields #[]) #[])::
(nat_lit 232, Obj.mk Value.none none (Data.func (FuncData.mk (Str.ofString "get") (Str.ofString "Canvas.get") a26 (FuncBody.stmts b26) c26 0 [] Value.none Value.none Value.none Value.none none Value.none Value.none 0)) #[])::
(nat_lit 236, Obj.mk Value.none none (Data.fields #[]) #[])::
(nat_lit 239, Obj.mk Value.none none (Data.func (FuncData.mk (Str.ofString "put") (Str.ofString "Canvas.put") a27 (FuncBody.stmts b27) c27 0 [] Value.none Value.none Value.none Value.none none Value.none Value.none 0)) #[])::
(nat_lit 243, Obj.mk Value.none none (Data.fields #[]) #[])::
(nat_lit 246, Obj.mk Value.none none (Data.func (FuncData.mk (Str.ofString "fill") (Str.ofString "Canvas.fill") a28 (FuncBody.stmts b28) c28 0 [] Value.none Value.none Value.none Value.none none Value.none Value.none 0)) #[])::
(nat_lit 250, Obj.mk Value.none none (Data.fields #[]) #[])::
(nat_lit 253, Obj.mk Value.none none (Data.func (FuncData.mk (Str.ofString "rows") (Str.ofString "Canvas.rows") a29 (FuncBody.stmts b29) c29 0 [] Value.none Value.none Value.none Value.none none Value.none Value.none 0)) #[])::
(nat_lit 257, Obj.mk Value.none none (Data.fields #[]) #[])::
(nat_lit 258, Obj.mk Value.none none (Data.func (FuncData.mk (Str.ofString "places") (Str.ofString "Canvas.places") a30 (FuncBody.stmts b30) c30 0 [] Value.none Value.none Value.none Value.none none Value.none Value.none 0)) #[])::
(nat_lit 262, Obj.mk Value.none none (Data.fields #[]) #[])::
(nat_lit 265, Obj.mk Value.none none (Data.func (FuncData.mk (Str.ofString "like") (Str.ofString "Canvas.like") a31 (FuncBody.stmts b31) c31 0 [] Value.none Value.none Value.none Value.none none Value.none Value.none 0)) #[])::
(nat_lit 269, Obj.mk Value.none none (Data.fields #[]) #[])::
(nat_lit 272, Obj.mk Value.none none (Data.func (FuncData.mk (Str.ofString "take") (Str.ofString "Canvas.take") a32 (FuncBody.stmts b32) c32 0 [] Value.none Value.none Value.none Value.none none Value.none Value.none 0)) #[])::
(nat_lit 280, Obj.mk (Value.type "super") none (Data.fields #[Value.ref 277, Value.ref 277, Value.ref 277]) #[])::
(nat_lit 281, Obj.mk (Value.type "builtin_function_or_method") none (Data.fields #[Value.builtin "object.__init_subclass__", Value.ref 277]) #[])::
(nat_lit 282, Obj.mk (Value.type "tuple") none (Data.seq #[]) #[])::
(nat_lit 283, Obj.mk (Value.type "builtin_function_or_method") none (Data.fields #[Value.builtin "type.__prepare__", Value.type "type"]) #[])::
(nat_lit 284, Obj.mk (Value.type "dict") none (Data.dict #[DictEntry.mk (PyData.keyHash P (Str.ofString "__module__")) (Value.str (Str.ofString "__module__") 562) (Value.str (Str.ofString "outlinemill.matrix") 553), DictEntry.mk (PyData.keyHash P (Str.ofString "__qualname__")) (Value.str (Str.ofString "__qualname__") 564) (Value.str (Str.ofString "Matrix") 563), DictEntry.mk (PyData.keyHash P (Str.ofString "__firstlineno__")) (Value.str (Str.ofString "__firstlineno__") 566) (Value.int 124 565), DictEntry.mk (PyData.keyHash P (Str.ofString "__init__")) (Value.str (Str.ofString "__init__") 579) (Value.ref 295), DictEntry.mk (PyData.keyHash P (Str.ofString "row")) (Value.str (Str.ofString "row") 586) (Value.ref 302), DictEntry.mk (PyData.keyHash P (Str.ofString "vector")) (Value.str (Str.ofString "vector") 596) (Value.ref 309), DictEntry.mk (PyData.keyHash P (Str.ofString "point")) (Value.str (Str.ofString "point") 606) (Value.ref 316), DictEntry.mk (PyData.keyHash P (Str.ofString "then")) (Value.str (Str.ofString "then") 614) (Value.ref 323), DictEntry.mk (PyData.keyHash P (Str.ofString "determinant")) (Value.str (Str.ofString "determinant") 621) (Value.ref 330), DictEntry.mk (PyData.keyHash P (Str.ofString "inverse")) (Value.str (Str.ofString "inverse") 632) (Value.ref 337), DictEntry.mk (PyData.keyHash P (Str.ofString "__static_attributes__")) (Value.str (Str.ofString "__static_attributes__") 639) (Value.ref 338)] 11) #[])::
(nat_lit 285, Obj.mk (Value.type "tuple") none (Data.seq #[]) #[])::
(nat_lit 286, Obj.mk Value.none none (Data.fields #[Value.int 126 0, Value.int 4 0, Value.ref 294, Value.int 134 0, Value.int 4 0, Value.ref 301, Value.int 137 0, Value.int 4 0, Value.ref 308, Value.int 141 0, Value.int 4 0, Value.ref 315, Value.int 145 0, Value.int 4 0, Value.ref 322, Value.int 148 0, Value.int 4 0, Value.ref 329, Value.int 151 0, Value.int 4 0, Value.ref 336]) #[])::
(nat_lit 287, Obj.mk (Value.type "code") none (Data.fields #[Value.str (Str.ofString "Matrix") 557, Value.str (Str.ofString "Matrix") 558, Value.str (Str.ofString "/claim/cut.py") 559, Value.int 124 0, Value.int 0 0, Value.int 0 0, Value.int 0 0, Value.int 0 0, Value.ref 285, Value.bool false, Value.int 181 0, Value.ref 286, Value.none, Value.none, Value.none, Value.none, Value.int 560 0, Value.int 124 0, Value.str (Str.ofString "/claim/cut.py") 561]) #[])::
(nat_lit 288, Obj.mk (Value.type "frame") none Data.plain #[some (Value.ref 287), some (Value.ref 3), some (Value.ref 284), none, some (Value.str (Str.ofString "outlinemill.matrix") 553), none, some (Value.ref 0)])::
(nat_lit 290, Obj.mk Value.none none (Data.fields #[]) #[])::
(nat_lit 293, Obj.mk Value.none none (Data.func (FuncData.mk (Str.ofString "__init__") (Str.ofString "Matrix.__init__") a34 (FuncBody.stmts b34) c34 0 [] Value.none Value.none Value.none Value.none none Value.none Value.none 0)) #[])::
(nat_lit 297, Obj.mk Value.none none (Data.fields #[]) #[])::
(nat_lit 300, Obj.mk Value.none none (Data.func (FuncData.mk (Str.ofString "row") (Str.ofString "Matrix.row") a35 (FuncBody.stmts b35) c35 0 [] Value.none Value.none Value.none Value.none none Value.none Value.none 0)) #[])::
(nat_lit 304, Obj.mk Value.none none (Data.fields #[]) #[])::
(nat_lit 307, Obj.mk Value.none none (Data.func (FuncData.mk (Str.ofString "vector") (Str.ofString "Matrix.vector") a36 (FuncBody.stmts b36) c36 0 [] Value.none Value.none Value.none Value.none none Value.none Value.none 0)) #[])::
(nat_lit 311, Obj.mk Value.none none (Data.fields #[]) #[])::
(nat_lit 314, Obj.mk Value.none none (Data.func (FuncData.mk (Str.ofString "point") (Str.ofString "Matrix.point") a37 (FuncBody.stmts b37) c37 0 [] Value.none Value.none Value.none Value.none none Value.none Value.none 0)) #[])::
(nat_lit 318, Obj.mk Value.none none (Data.fields #[]) #[])::
(nat_lit 321, Obj.mk Value.none none (Data.func (FuncData.mk (Str.ofString "then") (Str.ofString "Matrix.then") a38 (FuncBody.stmts b38) c38 0 [] Value.none Value.none Value.none Value.none none Value.none Value.none 0)) #[])::
(nat_lit 325, Obj.mk Value.none none (Data.fields #[]) #[])::
(nat_lit 328, Obj.mk Value.none none (Data.func (FuncData.mk (Str.ofString "determinant") (Str.ofString "Matrix.determinant") a39 (FuncBody.stmts b39) c39 0 [] Value.none Value.none Value.none Value.none none Value.none Value.none 0)) #[])::
(nat_lit 332, Obj.mk Value.none none (Data.fields #[]) #[])::
(nat_lit 335, Obj.mk Value.none none (Data.func (FuncData.mk (Str.ofString "inverse") (Str.ofString "Matrix.inverse") a40 (FuncBody.stmts b40) c40 0 [] Value.none Value.none Value.none Value.none none Value.none Value.none 0)) #[])::
(nat_lit 343, Obj.mk (Value.type "super") none (Data.fields #[Value.ref 340, Value.ref 340, Value.ref 340]) #[])::
(nat_lit 344, Obj.mk (Value.type "builtin_function_or_method") none (Data.fields #[Value.builtin "object.__init_subclass__", Value.ref 340]) #[])::
(nat_lit 346, Obj.mk Value.none none (Data.fields #[]) #[])::
(nat_lit 349, Obj.mk Value.none none (Data.func (FuncData.mk (Str.ofString "_law_pool") (Str.ofString "_law_pool") a41 (FuncBody.stmts b41) c41 0 [] Value.none Value.none Value.none Value.none none Value.none Value.none 0)) #[])::
(nat_lit 353, Obj.mk Value.none none (Data.fields #[]) #[])::
(nat_lit 356, Obj.mk Value.none none (Data.func (FuncData.mk (Str.ofString "_law_take") (Str.ofString "_law_take") a42 (FuncBody.stmts b42) c42 0 [] Value.none Value.none Value.none Value.none none Value.none Value.none 0)) #[])::
(nat_lit 360, Obj.mk Value.none none (Data.fields #[]) #[])::
(nat_lit 363, Obj.mk Value.none none (Data.func (FuncData.mk (Str.ofString "_law_one") (Str.ofString "_law_one") a43 (FuncBody.stmts b43) c43 0 [] Value.none Value.none Value.none Value.none none Value.none Value.none 0)) #[])::
(nat_lit 367, Obj.mk Value.none none (Data.fields #[]) #[])::
(nat_lit 370, Obj.mk Value.none none (Data.func (FuncData.mk (Str.ofString "_law_rest") (Str.ofString "_law_rest") a44 (FuncBody.stmts b44) c44 0 [] Value.none Value.none Value.none Value.none none Value.none Value.none 0)) #[])::
(nat_lit 374, Obj.mk Value.none none (Data.fields #[]) #[])::
(nat_lit 377, Obj.mk Value.none none (Data.func (FuncData.mk (Str.ofString "_law_dot") (Str.ofString "_law_dot") a45 (FuncBody.stmts b45) c45 0 [] Value.none Value.none Value.none Value.none none Value.none Value.none 0)) #[])::
(nat_lit 381, Obj.mk Value.none none (Data.fields #[]) #[])::
(nat_lit 384, Obj.mk Value.none none (Data.func (FuncData.mk (Str.ofString "_law_picture") (Str.ofString "_law_picture") a46 (FuncBody.stmts b46) c46 0 [] Value.none Value.none Value.none Value.none none Value.none Value.none 0)) #[])::
(nat_lit 388, Obj.mk Value.none none (Data.fields #[]) #[])::
(nat_lit 391, Obj.mk Value.none none (Data.func (FuncData.mk (Str.ofString "_law_side") (Str.ofString "_law_side") a47 (FuncBody.stmts b47) c47 0 [] Value.none Value.none Value.none Value.none none Value.none Value.none 0)) #[])::
(nat_lit 395, Obj.mk Value.none none (Data.fields #[]) #[])::
(nat_lit 398, Obj.mk Value.none none (Data.func (FuncData.mk (Str.ofString "_law_colour") (Str.ofString "_law_colour") a48 (FuncBody.stmts b48) c48 0 [] Value.none Value.none Value.none Value.none none Value.none Value.none 0)) #[])::
(nat_lit 402, Obj.mk Value.none none (Data.fields #[]) #[])::
(nat_lit 405, Obj.mk Value.none none (Data.func (FuncData.mk (Str.ofString "_law_right") (Str.ofString "_law_right") a49 (FuncBody.stmts b49) c49 0 [] Value.none Value.none Value.none Value.none none Value.none Value.none 0)) #[])::
(nat_lit 409, Obj.mk Value.none none (Data.fields #[]) #[])::
(nat_lit 410, Obj.mk Value.none none (Data.func (FuncData.mk (Str.ofString "_law_matrix") (Str.ofString "_law_matrix") a50 (FuncBody.stmts b50) c50 0 [] Value.none Value.none Value.none Value.none none Value.none Value.none 0)) #[])::
(nat_lit 414, Obj.mk Value.none none (Data.fields #[]) #[])::
(nat_lit 415, Obj.mk Value.none none (Data.func (FuncData.mk (Str.ofString "law") (Str.ofString "law") a51 (FuncBody.stmts b51) c51 0 [] Value.none Value.none Value.none Value.none none Value.none Value.none 0)) #[])::[]
noncomputable def ob (P : Params) (a : Nat) : Obj := ((K P).lookup a).getD default
noncomputable def ot (P : Params) (a : Nat) : Obj := ((R P).lookup a).getD default
noncomputable def v12_47 : Params → Obj := fun P => Obj.mk Value.none none (Data.fields #[]) #[]
noncomputable def v3_108 : Params → Obj := fun P => Obj.mk (Value.type "dict") none (Data.dict #[DictEntry.mk (PyData.keyHash P (Str.ofString "__name__")) (Value.str (Str.ofString "__name__") 165) (Value.str (Str.ofString "outlinemill.errors") 194), DictEntry.mk (PyData.keyHash P (Str.ofString "__doc__")) (Value.str (Str.ofString "__doc__") 166) Value.none, DictEntry.mk (PyData.keyHash P (Str.ofString "__package__")) (Value.str (Str.ofString "__package__") 167) Value.none, DictEntry.mk (PyData.keyHash P (Str.ofString "__loader__")) (Value.str (Str.ofString "__loader__") 168) (Value.builtin "__main__.__loader__#opaque"), DictEntry.mk (PyData.keyHash P (Str.ofString "__spec__")) (Value.str (Str.ofString "__spec__") 169) Value.none, DictEntry.mk (PyData.keyHash P (Str.ofString "__annotations__")) (Value.str (Str.ofString "__annotations__") 170) (Value.ref 6), DictEntry.mk (PyData.keyHash P (Str.ofString "__builtins__")) (Value.str (Str.ofString "__builtins__") 171) (Value.ref 4), DictEntry.mk (PyData.keyHash P (Str.ofString "__file__")) (Value.str (Str.ofString "__file__") 173) (Value.str (Str.ofString "/claim/cut.py") 172), DictEntry.mk (PyData.keyHash P (Str.ofString "__cached__")) (Value.str (Str.ofString "__cached__") 174) Value.none, DictEntry.mk (PyData.keyHash P (Str.ofString "_wall")) (Value.str (Str.ofString "_wall") 193) (Value.ref 21), DictEntry.mk (PyData.keyHash P (Str.ofString "MillError")) (Value.str (Str.ofString "MillError") 224) (Value.ref 38), DictEntry.mk (PyData.keyHash P (Str.ofString "NumberFault")) (Value.str (Str.ofString "NumberFault") 240) (Value.ref 51), DictEntry.mk (PyData.keyHash P (Str.ofString "MatrixFault")) (Value.str (Str.ofString "MatrixFault") 256) (Value.ref 63)] 13) #[]
noncomputable def v12_108 : Params → Obj := fun P => Obj.mk Value.none none (Data.fields #[Value.int 1 0, Value.int 0 0, Value.ref 20, Value.int 5 0, Value.int 0 0, Value.ref 27, Value.int 9 0, Value.int 0 0, Value.ref 47, Value.int 11 0, Value.int 0 0, Value.ref 59]) #[]
noncomputable def v38_108 : Params → Obj := fun P => Obj.mk (Value.type "type") none (Data.cls (ClassData.mk (Str.ofString "MillError") [Value.type "Exception"] [Value.ref 38, Value.type "Exception", Value.type "BaseException", Value.type "object"] 37 (Str.ofString "MillError") true [] [Value.ref 51, Value.ref 63] false none false)) #[some (Value.ref 22), none, some (Value.str (Str.ofString "MillError") 196), some (Value.str (Str.ofString "MillError") 204), some (Value.builtin "Exception.__new__"), some (Value.bool true)]
noncomputable def v3_160 : Params → Obj := fun P => Obj.mk (Value.type "dict") none (Data.dict #[DictEntry.mk (PyData.keyHash P (Str.ofString "__name__")) (Value.str (Str.ofString "__name__") 165) (Value.str (Str.ofString "outlinemill.exact") 273), DictEntry.mk (PyData.keyHash P (Str.ofString "__doc__")) (Value.str (Str.ofString "__doc__") 166) Value.none, DictEntry.mk (PyData.keyHash P (Str.ofString "__package__")) (Value.str (Str.ofString "__package__") 167) Value.none, DictEntry.mk (PyData.keyHash P (Str.ofString "__loader__")) (Value.str (Str.ofString "__loader__") 168) (Value.builtin "__main__.__loader__#opaque"), DictEntry.mk (PyData.keyHash P (Str.ofString "__spec__")) (Value.str (Str.ofString "__spec__") 169) Value.none, DictEntry.mk (PyData.keyHash P (Str.ofString "__annotations__")) (Value.str (Str.ofString "__annotations__") 170) (Value.ref 6), DictEntry.mk (PyData.keyHash P (Str.ofString "__builtins__")) (Value.str (Str.ofString "__builtins__") 171) (Value.ref 4), DictEntry.mk (PyData.keyHash P (Str.ofString "__file__")) (Value.str (Str.ofString "__file__") 173) (Value.str (Str.ofString "/claim/cut.py") 172), DictEntry.mk (PyData.keyHash P (Str.ofString "__cached__")) (Value.str (Str.ofString "__cached__") 174) Value.none, DictEntry.mk (PyData.keyHash P (Str.ofString "_wall")) (Value.str (Str.ofString "_wall") 193) (Value.ref 21), DictEntry.mk (PyData.keyHash P (Str.ofString "MillError")) (Value.str (Str.ofString "MillError") 224) (Value.ref 38), DictEntry.mk (PyData.keyHash P (Str.ofString "NumberFault")) (Value.str (Str.ofString "NumberFault") 240) (Value.ref 51), DictEntry.mk (PyData.keyHash P (Str.ofString "MatrixFault")) (Value.str (Str.ofString "MatrixFault") 256) (Value.ref 63), DictEntry.mk (PyData.keyHash P (Str.ofString "SizeFault")) (Value.str (Str.ofString "SizeFault") 272) (Value.ref 75), DictEntry.mk (PyData.keyHash P (Str.ofString "ZERO")) (Value.str (Str.ofString "ZERO") 277) (Value.ref 78), DictEntry.mk (PyData.keyHash P (Str.ofString "common_divisor")) (Value.str (Str.ofString "common_divisor") 287) (Value.ref 85), DictEntry.mk (PyData.keyHash P (Str.ofString "fraction")) (Value.str (Str.ofString "fraction") 297) (Value.ref 93), DictEntry.mk (PyData.keyHash P (Str.ofString "plus")) (Value.str (Str.ofString "plus") 305) (Value.ref 100), DictEntry.mk (PyData.keyHash P (Str.ofString "minus")) (Value.str (Str.ofString "minus") 313) (Value.ref 107), DictEntry.mk (PyData.keyHash P (Str.ofString "times")) (Value.str (Str.ofString "times") 321) (Value.ref 114)] 20) #[]
noncomputable def v12_160 : Params → Obj := fun P => Obj.mk Value.none none (Data.fields #[Value.int 1 0, Value.int 0 0, Value.ref 20, Value.int 5 0, Value.int 0 0, Value.ref 27, Value.int 9 0, Value.int 0 0, Value.ref 47, Value.int 11 0, Value.int 0 0, Value.ref 59, Value.int 13 0, Value.int 0 0, Value.ref 71, Value.int 17 0, Value.int 0 0, Value.ref 84, Value.int 22 0, Value.int 0 0, Value.ref 92, Value.int 29 0, Value.int 0 0, Value.ref 99, Value.int 31 0, Value.int 0 0, Value.ref 106, Value.int 33 0, Value.int 0 0, Value.ref 113]) #[]
noncomputable def v3_212 : Params → Obj := fun P => Obj.mk (Value.type "dict") none (Data.dict #[DictEntry.mk (PyData.keyHash P (Str.ofString "__name__")) (Value.str (Str.ofString "__name__") 165) (Value.str (Str.ofString "outlinemill.patterns") 369), DictEntry.mk (PyData.keyHash P (Str.ofString "__doc__")) (Value.str (Str.ofString "__doc__") 166) Value.none, DictEntry.mk (PyData.keyHash P (Str.ofString "__package__")) (Value.str (Str.ofString "__package__") 167) Value.none, DictEntry.mk (PyData.keyHash P (Str.ofString "__loader__")) (Value.str (Str.ofString "__loader__") 168) (Value.builtin "__main__.__loader__#opaque"), DictEntry.mk (PyData.keyHash P (Str.ofString "__spec__")) (Value.str (Str.ofString "__spec__") 169) Value.none, DictEntry.mk (PyData.keyHash P (Str.ofString "__annotations__")) (Value.str (Str.ofString "__annotations__") 170) (Value.ref 6), DictEntry.mk (PyData.keyHash P (Str.ofString "__builtins__")) (Value.str (Str.ofString "__builtins__") 171) (Value.ref 4), DictEntry.mk (PyData.keyHash P (Str.ofString "__file__")) (Value.str (Str.ofString "__file__") 173) (Value.str (Str.ofString "/claim/cut.py") 172), DictEntry.mk (PyData.keyHash P (Str.ofString "__cached__")) (Value.str (Str.ofString "__cached__") 174) Value.none, DictEntry.mk (PyData.keyHash P (Str.ofString "_wall")) (Value.str (Str.ofString "_wall") 193) (Value.ref 21), DictEntry.mk (PyData.keyHash P (Str.ofString "MillError")) (Value.str (Str.ofString "MillError") 224) (Value.ref 38), DictEntry.mk (PyData.keyHash P (Str.ofString "NumberFault")) (Value.str (Str.ofString "NumberFault") 240) (Value.ref 51), DictEntry.mk (PyData.keyHash P (Str.ofString "MatrixFault")) (Value.str (Str.ofString "MatrixFault") 256) (Value.ref 63), DictEntry.mk (PyData.keyHash P (Str.ofString "SizeFault")) (Value.str (Str.ofString "SizeFault") 272) (Value.ref 75), DictEntry.mk (PyData.keyHash P (Str.ofString "ZERO")) (Value.str (Str.ofString "ZERO") 277) (Value.ref 78), DictEntry.mk (PyData.keyHash P (Str.ofString "common_divisor")) (Value.str (Str.ofString "common_divisor") 287) (Value.ref 85), DictEntry.mk (PyData.keyHash P (Str.ofString "fraction")) (Value.str (Str.ofString "fraction") 297) (Value.ref 93), DictEntry.mk (PyData.keyHash P (Str.ofString "plus")) (Value.str (Str.ofString "plus") 305) (Value.ref 100), DictEntry.mk (PyData.keyHash P (Str.ofString "minus")) (Value.str (Str.ofString "minus") 313) (Value.ref 107), DictEntry.mk (PyData.keyHash P (Str.ofString "times")) (Value.str (Str.ofString "times") 321) (Value.ref 114), DictEntry.mk (PyData.keyHash P (Str.ofString "divided")) (Value.str (Str.ofString "divided") 329) (Value.ref 121), DictEntry.mk (PyData.keyHash P (Str.ofString "negated")) (Value.str (Str.ofString "negated") 336) (Value.ref 128), DictEntry.mk (PyData.keyHash P (Str.ofString "sign_of")) (Value.str (Str.ofString "sign_of") 343) (Value.ref 135), DictEntry.mk (PyData.keyHash P (Str.ofString "compare")) (Value.str (Str.ofString "compare") 351) (Value.ref 142), DictEntry.mk (PyData.keyHash P (Str.ofString "floor_of")) (Value.str (Str.ofString "floor_of") 358) (Value.ref 149), DictEntry.mk (PyData.keyHash P (Str.ofString "middle_of")) (Value.str (Str.ofString "middle_of") 368) (Value.ref 156), DictEntry.mk (PyData.keyHash P (Str.ofString "CLEAR")) (Value.str (Str.ofString "CLEAR") 375) (Value.ref 157), DictEntry.mk (PyData.keyHash P (Str.ofString "within")) (Value.str (Str.ofString "within") 384) (Value.ref 164)] 28) #[]
noncomputable def v12_212 : Params → Obj := fun P => Obj.mk Value.none none (Data.fields #[Value.int 1 0, Value.int 0 0, Value.ref 20, Value.int 5 0, Value.int 0 0, Value.ref 27, Value.int 9 0, Value.int 0 0, Value.ref 47, Value.int 11 0, Value.int 0 0, Value.ref 59, Value.int 13 0, Value.int 0 0, Value.ref 71, Value.int 17 0, Value.int 0 0, Value.ref 84, Value.int 22 0, Value.int 0 0, Value.ref 92, Value.int 29 0, Value.int 0 0, Value.ref 99, Value.int 31 0, Value.int 0 0, Value.ref 106, Value.int 33 0, Value.int 0 0, Value.ref 113, Value.int 35 0, Value.int 0 0, Value.ref 120, Value.int 39 0, Value.int 0 0, Value.ref 127, Value.int 41 0, Value.int 0 0, Value.ref 134, Value.int 47 0, Value.int 0 0, Value.ref 141, Value.int 49 0, Value.int 0 0, Value.ref 148, Value.int 52 0, Value.int 0 0, Value.ref 155, Value.int 56 0, Value.int 0 0, Value.ref 163]) #[]
noncomputable def v3_257 : Params → Obj := fun P => Obj.mk (Value.type "dict") none (Data.dict #[DictEntry.mk (PyData.keyHash P (Str.ofString "__name__")) (Value.str (Str.ofString "__name__") 165) (Value.str (Str.ofString "outlinemill.canvas") 449), DictEntry.mk (PyData.keyHash P (Str.ofString "__doc__")) (Value.str (Str.ofString "__doc__") 166) Value.none, DictEntry.mk (PyData.keyHash P (Str.ofString "__package__")) (Value.str (Str.ofString "__package__") 167) Value.none, DictEntry.mk (PyData.keyHash P (Str.ofString "__loader__")) (Value.str (Str.ofString "__loader__") 168) (Value.builtin "__main__.__loader__#opaque"), DictEntry.mk (PyData.keyHash P (Str.ofString "__spec__")) (Value.str (Str.ofString "__spec__") 169) Value.none, DictEntry.mk (PyData.keyHash P (Str.ofString "__annotations__")) (Value.str (Str.ofString "__annotations__") 170) (Value.ref 6), DictEntry.mk (PyData.keyHash P (Str.ofString "__builtins__")) (Value.str (Str.ofString "__builtins__") 171) (Value.ref 4), DictEntry.mk (PyData.keyHash P (Str.ofString "__file__")) (Value.str (Str.ofString "__file__") 173) (Value.str (Str.ofString "/claim/cut.py") 172), DictEntry.mk (PyData.keyHash P (Str.ofString "__cached__")) (Value.str (Str.ofString "__cached__") 174) Value.none, DictEntry.mk (PyData.keyHash P (Str.ofString "_wall")) (Value.str (Str.ofString "_wall") 193) (Value.ref 21), DictEntry.mk (PyData.keyHash P (Str.ofString "MillError")) (Value.str (Str.ofString "MillError") 224) (Value.ref 38), DictEntry.mk (PyData.keyHash P (Str.ofString "NumberFault")) (Value.str (Str.ofString "NumberFault") 240) (Value.ref 51), DictEntry.mk (PyData.keyHash P (Str.ofString "MatrixFault")) (Value.str (Str.ofString "MatrixFault") 256) (Value.ref 63), DictEntry.mk (PyData.keyHash P (Str.ofString "SizeFault")) (Value.str (Str.ofString "SizeFault") 272) (Value.ref 75), DictEntry.mk (PyData.keyHash P (Str.ofString "ZERO")) (Value.str (Str.ofString "ZERO") 277) (Value.ref 78), DictEntry.mk (PyData.keyHash P (Str.ofString "common_divisor")) (Value.str (Str.ofString "common_divisor") 287) (Value.ref 85), DictEntry.mk (PyData.keyHash P (Str.ofString "fraction")) (Value.str (Str.ofString "fraction") 297) (Value.ref 93), DictEntry.mk (PyData.keyHash P (Str.ofString "plus")) (Value.str (Str.ofString "plus") 305) (Value.ref 100), DictEntry.mk (PyData.keyHash P (Str.ofString "minus")) (Value.str (Str.ofString "minus") 313) (Value.ref 107), DictEntry.mk (PyData.keyHash P (Str.ofString "times")) (Value.str (Str.ofString "times") 321) (Value.ref 114), DictEntry.mk (PyData.keyHash P (Str.ofString "divided")) (Value.str (Str.ofString "divided") 329) (Value.ref 121), DictEntry.mk (PyData.keyHash P (Str.ofString "negated")) (Value.str (Str.ofString "negated") 336) (Value.ref 128), DictEntry.mk (PyData.keyHash P (Str.ofString "sign_of")) (Value.str (Str.ofString "sign_of") 343) (Value.ref 135), DictEntry.mk (PyData.keyHash P (Str.ofString "compare")) (Value.str (Str.ofString "compare") 351) (Value.ref 142), DictEntry.mk (PyData.keyHash P (Str.ofString "floor_of")) (Value.str (Str.ofString "floor_of") 358) (Value.ref 149), DictEntry.mk (PyData.keyHash P (Str.ofString "middle_of")) (Value.str (Str.ofString "middle_of") 368) (Value.ref 156), DictEntry.mk (PyData.keyHash P (Str.ofString "CLEAR")) (Value.str (Str.ofString "CLEAR") 375) (Value.ref 157), DictEntry.mk (PyData.keyHash P (Str.ofString "within")) (Value.str (Str.ofString "within") 384) (Value.ref 164), DictEntry.mk (PyData.keyHash P (Str.ofString "Pattern")) (Value.str (Str.ofString "Pattern") 448) (Value.ref 202), DictEntry.mk (PyData.keyHash P (Str.ofString "NOTHING")) (Value.str (Str.ofString "NOTHING") 455) (Value.ref 207)] 30) #[]
noncomputable def v12_257 : Params → Obj := fun P => Obj.mk Value.none none (Data.fields #[Value.int 1 0, Value.int 0 0, Value.ref 20, Value.int 5 0, Value.int 0 0, Value.ref 27, Value.int 9 0, Value.int 0 0, Value.ref 47, Value.int 11 0, Value.int 0 0, Value.ref 59, Value.int 13 0, Value.int 0 0, Value.ref 71, Value.int 17 0, Value.int 0 0, Value.ref 84, Value.int 22 0, Value.int 0 0, Value.ref 92, Value.int 29 0, Value.int 0 0, Value.ref 99, Value.int 31 0, Value.int 0 0, Value.ref 106, Value.int 33 0, Value.int 0 0, Value.ref 113, Value.int 35 0, Value.int 0 0, Value.ref 120, Value.int 39 0, Value.int 0 0, Value.ref 127, Value.int 41 0, Value.int 0 0, Value.ref 134, Value.int 47 0, Value.int 0 0, Value.ref 141, Value.int 49 0, Value.int 0 0, Value.ref 148, Value.int 52 0, Value.int 0 0, Value.ref 155, Value.int 56 0, Value.int 0 0, Value.ref 163, Value.int 59 0, Value.int 0 0, Value.ref 170]) #[]
noncomputable def v3_334 : Params → Obj := fun P => Obj.mk (Value.type "dict") none (Data.dict #[DictEntry.mk (PyData.keyHash P (Str.ofString "__name__")) (Value.str (Str.ofString "__name__") 165) (Value.str (Str.ofString "outlinemill.matrix") 553), DictEntry.mk (PyData.keyHash P (Str.ofString "__doc__")) (Value.str (Str.ofString "__doc__") 166) Value.none, DictEntry.mk (PyData.keyHash P (Str.ofString "__package__")) (Value.str (Str.ofString "__package__") 167) Value.none, DictEntry.mk (PyData.keyHash P (Str.ofString "__loader__")) (Value.str (Str.ofString "__loader__") 168) (Value.builtin "__main__.__loader__#opaque"), DictEntry.mk (PyData.keyHash P (Str.ofString "__spec__")) (Value.str (Str.ofString "__spec__") 169) Value.none, DictEntry.mk (PyData.keyHash P (Str.ofString "__annotations__")) (Value.str (Str.ofString "__annotations__") 170) (Value.ref 6), DictEntry.mk (PyData.keyHash P (Str.ofString "__builtins__")) (Value.str (Str.ofString "__builtins__") 171) (Value.ref 4), DictEntry.mk (PyData.keyHash P (Str.ofString "__file__")) (Value.str (Str.ofString "__file__") 173) (Value.str (Str.ofString "/claim/cut.py") 172), DictEntry.mk (PyData.keyHash P (Str.ofString "__cached__")) (Value.str (Str.ofString "__cached__") 174) Value.none, DictEntry.mk (PyData.keyHash P (Str.ofString "_wall")) (Value.str (Str.ofString "_wall") 193) (Value.ref 21), DictEntry.mk (PyData.keyHash P (Str.ofString "MillError")) (Value.str (Str.ofString "MillError") 224) (Value.ref 38), DictEntry.mk (PyData.keyHash P (Str.ofString "NumberFault")) (Value.str (Str.ofString "NumberFault") 240) (Value.ref 51), DictEntry.mk (PyData.keyHash P (Str.ofString "MatrixFault")) (Value.str (Str.ofString "MatrixFault") 256) (Value.ref 63), DictEntry.mk (PyData.keyHash P (Str.ofString "SizeFault")) (Value.str (Str.ofString "SizeFault") 272) (Value.ref 75), DictEntry.mk (PyData.keyHash P (Str.ofString "ZERO")) (Value.str (Str.ofString "ZERO") 277) (Value.ref 78), DictEntry.mk (PyData.keyHash P (Str.ofString "common_divisor")) (Value.str (Str.ofString "common_divisor") 287) (Value.ref 85), DictEntry.mk (PyData.keyHash P (Str.ofString "fraction")) (Value.str (Str.ofString "fraction") 297) (Value.ref 93), DictEntry.mk (PyData.keyHash P (Str.ofString "plus")) (Value.str (Str.ofString "plus") 305) (Value.ref 100), DictEntry.mk (PyData.keyHash P (Str.ofString "minus")) (Value.str (Str.ofString "minus") 313) (Value.ref 107), DictEntry.mk (PyData.keyHash P (Str.ofString "times")) (Value.str (Str.ofString "times") 321) (Value.ref 114), DictEntry.mk (PyData.keyHash P (Str.ofString "divided")) (Value.str (Str.ofString "divided") 329) (Value.ref 121), DictEntry.mk (PyData.keyHash P (Str.ofString "negated")) (Value.str (Str.ofString "negated") 336) (Value.ref 128), DictEntry.mk (PyData.keyHash P (Str.ofString "sign_of")) (Value.str (Str.ofString "sign_of") 343) (Value.ref 135), DictEntry.mk (PyData.keyHash P (Str.ofString "compare")) (Value.str (Str.ofString "compare") 351) (Value.ref 142), DictEntry.mk (PyData.keyHash P (Str.ofString "floor_of")) (Value.str (Str.ofString "floor_of") 358) (Value.ref 149), DictEntry.mk (PyData.keyHash P (Str.ofString "middle_of")) (Value.str (Str.ofString "middle_of") 368) (Value.ref 156), DictEntry.mk (PyData.keyHash P (Str.ofString "CLEAR")) (Value.str (Str.ofString "CLEAR") 375) (Value.ref 157), DictEntry.mk (PyData.keyHash P (Str.ofString "within")) (Value.str (Str.ofString "within") 384) (Value.ref 164), DictEntry.mk (PyData.keyHash P (Str.ofString "Pattern")) (Value.str (Str.ofString "Pattern") 448) (Value.ref 202), DictEntry.mk (PyData.keyHash P (Str.ofString "NOTHING")) (Value.str (Str.ofString "NOTHING") 455) (Value.ref 207), DictEntry.mk (PyData.keyHash P (Str.ofString "Canvas")) (Value.str (Str.ofString "Canvas") 552) (Value.ref 277)] 31) #[]
noncomputable def v12_334 : Params → Obj := fun P => Obj.mk Value.none none (Data.fields #[Value.int 1 0, Value.int 0 0, Value.ref 20, Value.int 5 0, Value.int 0 0, Value.ref 27, Value.int 9 0, Value.int 0 0, Value.ref 47, Value.int 11 0, Value.int 0 0, Value.ref 59, Value.int 13 0, Value.int 0 0, Value.ref 71, Value.int 17 0, Value.int 0 0, Value.ref 84, Value.int 22 0, Value.int 0 0, Value.ref 92, Value.int 29 0, Value.int 0 0, Value.ref 99, Value.int 31 0, Value.int 0 0, Value.ref 106, Value.int 33 0, Value.int 0 0, Value.ref 113, Value.int 35 0, Value.int 0 0, Value.ref 120, Value.int 39 0, Value.int 0 0, Value.ref 127, Value.int 41 0, Value.int 0 0, Value.ref 134, Value.int 47 0, Value.int 0 0, Value.ref 141, Value.int 49 0, Value.int 0 0, Value.ref 148, Value.int 52 0, Value.int 0 0, Value.ref 155, Value.int 56 0, Value.int 0 0, Value.ref 163, Value.int 59 0, Value.int 0 0, Value.ref 170, Value.int 84 0, Value.int 0 0, Value.ref 213]) #[]
noncomputable def v3_400 : Params → Obj := fun P => Obj.mk (Value.type "dict") none (Data.dict #[DictEntry.mk (PyData.keyHash P (Str.ofString "__name__")) (Value.str (Str.ofString "__name__") 165) (Value.str (Str.ofString "outlinemill.matrix") 553), DictEntry.mk (PyData.keyHash P (Str.ofString "__doc__")) (Value.str (Str.ofString "__doc__") 166) Value.none, DictEntry.mk (PyData.keyHash P (Str.ofString "__package__")) (Value.str (Str.ofString "__package__") 167) Value.none, DictEntry.mk (PyData.keyHash P (Str.ofString "__loader__")) (Value.str (Str.ofString "__loader__") 168) (Value.builtin "__main__.__loader__#opaque"), DictEntry.mk (PyData.keyHash P (Str.ofString "__spec__")) (Value.str (Str.ofString "__spec__") 169) Value.none, DictEntry.mk (PyData.keyHash P (Str.ofString "__annotations__")) (Value.str (Str.ofString "__annotations__") 170) (Value.ref 6), DictEntry.mk (PyData.keyHash P (Str.ofString "__builtins__")) (Value.str (Str.ofString "__builtins__") 171) (Value.ref 4), DictEntry.mk (PyData.keyHash P (Str.ofString "__file__")) (Value.str (Str.ofString "__file__") 173) (Value.str (Str.ofString "/claim/cut.py") 172), DictEntry.mk (PyData.keyHash P (Str.ofString "__cached__")) (Value.str (Str.ofString "__cached__") 174) Value.none, DictEntry.mk (PyData.keyHash P (Str.ofString "_wall")) (Value.str (Str.ofString "_wall") 193) (Value.ref 21), DictEntry.mk (PyData.keyHash P (Str.ofString "MillError")) (Value.str (Str.ofString "MillError") 224) (Value.ref 38), DictEntry.mk (PyData.keyHash P (Str.ofString "NumberFault")) (Value.str (Str.ofString "NumberFault") 240) (Value.ref 51), DictEntry.mk (PyData.keyHash P (Str.ofString "MatrixFault")) (Value.str (Str.ofString "MatrixFault") 256) (Value.ref 63), DictEntry.mk (PyData.keyHash P (Str.ofString "SizeFault")) (Value.str (Str.ofString "SizeFault") 272) (Value.ref 75), DictEntry.mk (PyData.keyHash P (Str.ofString "ZERO")) (Value.str (Str.ofString "ZERO") 277) (Value.ref 78), DictEntry.mk (PyData.keyHash P (Str.ofString "common_divisor")) (Value.str (Str.ofString "common_divisor") 287) (Value.ref 85), DictEntry.mk (PyData.keyHash P (Str.ofString "fraction")) (Value.str (Str.ofString "fraction") 297) (Value.ref 93), DictEntry.mk (PyData.keyHash P (Str.ofString "plus")) (Value.str (Str.ofString "plus") 305) (Value.ref 100), DictEntry.mk (PyData.keyHash P (Str.ofString "minus")) (Value.str (Str.ofString "minus") 313) (Value.ref 107), DictEntry.mk (PyData.keyHash P (Str.ofString "times")) (Value.str (Str.ofString "times") 321) (Value.ref 114), DictEntry.mk (PyData.keyHash P (Str.ofString "divided")) (Value.str (Str.ofString "divided") 329) (Value.ref 121), DictEntry.mk (PyData.keyHash P (Str.ofString "negated")) (Value.str (Str.ofString "negated") 336) (Value.ref 128), DictEntry.mk (PyData.keyHash P (Str.ofString "sign_of")) (Value.str (Str.ofString "sign_of") 343) (Value.ref 135), DictEntry.mk (PyData.keyHash P (Str.ofString "compare")) (Value.str (Str.ofString "compare") 351) (Value.ref 142), DictEntry.mk (PyData.keyHash P (Str.ofString "floor_of")) (Value.str (Str.ofString "floor_of") 358) (Value.ref 149), DictEntry.mk (PyData.keyHash P (Str.ofString "middle_of")) (Value.str (Str.ofString "middle_of") 368) (Value.ref 156), DictEntry.mk (PyData.keyHash P (Str.ofString "CLEAR")) (Value.str (Str.ofString "CLEAR") 375) (Value.ref 157), DictEntry.mk (PyData.keyHash P (Str.ofString "within")) (Value.str (Str.ofString "within") 384) (Value.ref 164), DictEntry.mk (PyData.keyHash P (Str.ofString "Pattern")) (Value.str (Str.ofString "Pattern") 448) (Value.ref 202), DictEntry.mk (PyData.keyHash P (Str.ofString "NOTHING")) (Value.str (Str.ofString "NOTHING") 455) (Value.ref 207), DictEntry.mk (PyData.keyHash P (Str.ofString "Canvas")) (Value.str (Str.ofString "Canvas") 552) (Value.ref 277), DictEntry.mk (PyData.keyHash P (Str.ofString "Matrix")) (Value.str (Str.ofString "Matrix") 646) (Value.ref 340)] 32) #[]
noncomputable def v12_400 : Params → Obj := fun P => Obj.mk Value.none none (Data.fields #[Value.int 1 0, Value.int 0 0, Value.ref 20, Value.int 5 0, Value.int 0 0, Value.ref 27, Value.int 9 0, Value.int 0 0, Value.ref 47, Value.int 11 0, Value.int 0 0, Value.ref 59, Value.int 13 0, Value.int 0 0, Value.ref 71, Value.int 17 0, Value.int 0 0, Value.ref 84, Value.int 22 0, Value.int 0 0, Value.ref 92, Value.int 29 0, Value.int 0 0, Value.ref 99, Value.int 31 0, Value.int 0 0, Value.ref 106, Value.int 33 0, Value.int 0 0, Value.ref 113, Value.int 35 0, Value.int 0 0, Value.ref 120, Value.int 39 0, Value.int 0 0, Value.ref 127, Value.int 41 0, Value.int 0 0, Value.ref 134, Value.int 47 0, Value.int 0 0, Value.ref 141, Value.int 49 0, Value.int 0 0, Value.ref 148, Value.int 52 0, Value.int 0 0, Value.ref 155, Value.int 56 0, Value.int 0 0, Value.ref 163, Value.int 59 0, Value.int 0 0, Value.ref 170, Value.int 84 0, Value.int 0 0, Value.ref 213, Value.int 124 0, Value.int 0 0, Value.ref 287]) #[]
noncomputable def v12_46 : Params → Obj := fun P => Obj.mk Value.none none (Data.fields #[]) #[]
noncomputable def T47 : Params → BT := fun P => (.node (boot_o_0 P) (.node (boot_o_1 P) (.node (boot_o_3 P) (.node (boot_o_7 P) .nil .nil) (.node (ot P 11) .nil .nil)) (.node (boot_o_5 P) (.node (boot_o_9 P) .nil .nil) (.node (ot P 13) .nil .nil))) (.node (boot_o_2 P) (.node (boot_o_4 P) (.node (boot_o_8 P) .nil .nil) (.node (v12_47 P) .nil .nil)) (.node (boot_o_6 P) (.node (boot_o_10 P) .nil .nil) (.node (ot P 14) .nil .nil))))
noncomputable def T108 : Params → BT := fun P => (.node (boot_o_0 P) (.node (boot_o_1 P) (.node (v3_108 P) (.node (boot_o_7 P) (.node (ob P 15) (.node (ob P 31) (.node (ob P 63) .nil .nil) .nil) (.node (ot P 47) .nil .nil)) (.node (ot P 23) (.node (ob P 39) .nil .nil) (.node (ot P 55) .nil .nil))) (.node (ot P 11) (.node (ot P 19) (.node (ob P 35) .nil .nil) (.node (ob P 51) .nil .nil)) (.node (ot P 27) (.node (ot P 43) .nil .nil) (.node (ot P 59) .nil .nil)))) (.node (boot_o_5 P) (.node (boot_o_9 P) (.node (ob P 17) (.node (ot P 33) (.node (ot P 65) .nil .nil) .nil) (.node (ob P 49) .nil .nil)) (.node (ot P 25) (.node (ot P 41) .nil .nil) (.node (ot P 57) .nil .nil))) (.node (ot P 13) (.node (ob P 21) (.node (ob P 37) .nil .nil) (.node (ot P 53) .nil .nil)) (.node (ob P 29) (.node (ot P 45) .nil .nil) (.node (ob P 61) .nil .nil))))) (.node (ob P 2) (.node (boot_o_4 P) (.node (boot_o_8 P) (.node (ot P 16) (.node (ob P 32) (.node (ot P 64) .nil .nil) .nil) (.node (ot P 48) .nil .nil)) (.node (ot P 24) (.node (ot P 40) .nil .nil) (.node (ot P 56) .nil .nil))) (.node (v12_108 P) (.node (ob P 20) (.node (ob P 36) .nil .nil) (.node (ot P 52) .nil .nil)) (.node (ot P 28) (.node (ot P 44) .nil .nil) (.node (ot P 60) .nil .nil)))) (.node (boot_o_6 P) (.node (boot_o_10 P) (.node (ob P 18) (.node (ob P 34) .nil .nil) (.node (ob P 50) .nil .nil)) (.node (ot P 26) (.node (ob P 42) .nil .nil) (.node (ot P 58) .nil .nil))) (.node (ot P 14) (.node (ob P 22) (.node (v38_108 P) .nil .nil) (.node (ob P 54) .nil .nil)) (.node (ot P 30) (.node (ot P 46) .nil .nil) (.node (ob P 62) .nil .nil))))))
noncomputable def T160 : Params → BT := fun P => (.node (boot_o_0 P) (.node (boot_o_1 P) (.node (v3_160 P) (.node (boot_o_7 P) (.node (ob P 15) (.node (ob P 31) (.node (ob P 63) .nil .nil) (.node (ot P 95) .nil .nil)) (.node (ot P 47) (.node (ob P 79) .nil .nil) (.node (ob P 111) .nil .nil))) (.node (ot P 23) (.node (ob P 39) (.node (ot P 71) .nil .nil) (.node (ob P 103) .nil .nil)) (.node (ot P 55) (.node (ob P 87) .nil .nil) .nil))) (.node (ot P 11) (.node (ot P 19) (.node (ob P 35) (.node (ot P 67) .nil .nil) (.node (ob P 99) .nil .nil)) (.node (ob P 51) (.node (ot P 83) .nil .nil) .nil)) (.node (ot P 27) (.node (ot P 43) (.node (ob P 75) .nil .nil) (.node (ob P 107) .nil .nil)) (.node (ot P 59) (.node (ot P 91) .nil .nil) .nil)))) (.node (boot_o_5 P) (.node (boot_o_9 P) (.node (ob P 17) (.node (ot P 33) (.node (ot P 65) .nil .nil) (.node (ob P 97) .nil .nil)) (.node (ob P 49) (.node (ob P 81) .nil .nil) (.node (ob P 113) .nil .nil))) (.node (ot P 25) (.node (ot P 41) (.node (ob P 73) .nil .nil) (.node (ot P 105) .nil .nil)) (.node (ot P 57) (.node (ob P 89) .nil .nil) .nil))) (.node (ot P 13) (.node (ob P 21) (.node (ob P 37) (.node (ot P 69) .nil .nil) (.node (ob P 101) .nil .nil)) (.node (ot P 53) (.node (ob P 85) .nil .nil) .nil)) (.node (ob P 29) (.node (ot P 45) (.node (ot P 77) .nil .nil) (.node (ot P 109) .nil .nil)) (.node (ob P 61) (.node (ob P 93) .nil .nil) .nil))))) (.node (ob P 2) (.node (boot_o_4 P) (.node (boot_o_8 P) (.node (ot P 16) (.node (ob P 32) (.node (ot P 64) .nil .nil) (.node (ob P 96) .nil .nil)) (.node (ot P 48) (.node (ot P 80) .nil .nil) (.node (ot P 112) .nil .nil))) (.node (ot P 24) (.node (ot P 40) (.node (ot P 72) .nil .nil) (.node (ob P 104) .nil .nil)) (.node (ot P 56) (.node (ot P 88) .nil .nil) .nil))) (.node (v12_160 P) (.node (ob P 20) (.node (ob P 36) (.node (ot P 68) .nil .nil) (.node (ob P 100) .nil .nil)) (.node (ot P 52) (.node (ob P 84) .nil .nil) .nil)) (.node (ot P 28) (.node (ot P 44) (.node (ot P 76) .nil .nil) (.node (ob P 108) .nil .nil)) (.node (ot P 60) (.node (ob P 92) .nil .nil) .nil)))) (.node (boot_o_6 P) (.node (boot_o_10 P) (.node (ob P 18) (.node (ob P 34) (.node (ob P 66) .nil .nil) (.node (ot P 98) .nil .nil)) (.node (ob P 50) (.node (ob P 82) .nil .nil) (.node (ob P 114) .nil .nil))) (.node (ot P 26) (.node (ob P 42) (.node (ob P 74) .nil .nil) (.node (ob P 106) .nil .nil)) (.node (ot P 58) (.node (ob P 90) .nil .nil) .nil))) (.node (ot P 14) (.node (ob P 22) (.node (ob P 38) (.node (ot P 70) .nil .nil) (.node (ot P 102) .nil .nil)) (.node (ob P 54) (.node (ob P 86) .nil .nil) .nil)) (.node (ot P 30) (.node (ot P 46) (.node (ob P 78) .nil .nil) (.node (ob P 110) .nil .nil)) (.node (ob P 62) (.node (ob P 94) .nil .nil) .nil))))))
noncomputable def T212 : Params → BT := fun P => (.node (boot_o_0 P) (.node (boot_o_1 P) (.node (v3_212 P) (.node (boot_o_7 P) (.node (ob P 15) (.node (ob P 31) (.node (ob P 63) (.node (ob P 127) .nil .nil) .nil) (.node (ot P 95) (.node (ot P 159) .nil .nil) .nil)) (.node (ot P 47) (.node (ob P 79) (.node (ob P 143) .nil .nil) .nil) (.node (ob P 111) .nil .nil))) (.node (ot P 23) (.node (ob P 39) (.node (ot P 71) (.node (ob P 135) .nil .nil) .nil) (.node (ob P 103) .nil .nil)) (.node (ot P 55) (.node (ob P 87) (.node (ot P 151) .nil .nil) .nil) (.node (ot P 119) .nil .nil)))) (.node (ot P 11) (.node (ot P 19) (.node (ob P 35) (.node (ot P 67) (.node (ob P 131) .nil .nil) .nil) (.node (ob P 99) (.node (ob P 163) .nil .nil) .nil)) (.node (ob P 51) (.node (ot P 83) (.node (ot P 147) .nil .nil) .nil) (.node (ob P 115) .nil .nil))) (.node (ot P 27) (.node (ot P 43) (.node (ob P 75) (.node (ob P 139) .nil .nil) .nil) (.node (ob P 107) .nil .nil)) (.node (ot P 59) (.node (ot P 91) (.node (ob P 155) .nil .nil) .nil) (.node (ot P 123) .nil .nil))))) (.node (boot_o_5 P) (.node (boot_o_9 P) (.node (ob P 17) (.node (ot P 33) (.node (ot P 65) (.node (ob P 129) .nil .nil) .nil) (.node (ob P 97) (.node (ob P 161) .nil .nil) .nil)) (.node (ob P 49) (.node (ob P 81) (.node (ob P 145) .nil .nil) .nil) (.node (ob P 113) .nil .nil))) (.node (ot P 25) (.node (ot P 41) (.node (ob P 73) (.node (ot P 137) .nil .nil) .nil) (.node (ot P 105) .nil .nil)) (.node (ot P 57) (.node (ob P 89) (.node (ob P 153) .nil .nil) .nil) (.node (ob P 121) .nil .nil)))) (.node (ot P 13) (.node (ob P 21) (.node (ob P 37) (.node (ot P 69) (.node (ot P 133) .nil .nil) .nil) (.node (ob P 101) .nil .nil)) (.node (ot P 53) (.node (ob P 85) (.node (ob P 149) .nil .nil) .nil) (.node (ob P 117) .nil .nil))) (.node (ob P 29) (.node (ot P 45) (.node (ot P 77) (.node (ob P 141) .nil .nil) .nil) (.node (ot P 109) .nil .nil)) (.node (ob P 61) (.node (ob P 93) (.node (ob P 157) .nil .nil) .nil) (.node (ob P 125) .nil .nil)))))) (.node (ob P 2) (.node (boot_o_4 P) (.node (boot_o_8 P) (.node (ot P 16) (.node (ob P 32) (.node (ot P 64) (.node (ob P 128) .nil .nil) .nil) (.node (ob P 96) (.node (ob P 160) .nil .nil) .nil)) (.node (ot P 48) (.node (ot P 80) (.node (ot P 144) .nil .nil) .nil) (.node (ot P 112) .nil .nil))) (.node (ot P 24) (.node (ot P 40) (.node (ot P 72) (.node (ob P 136) .nil .nil) .nil) (.node (ob P 104) .nil .nil)) (.node (ot P 56) (.node (ot P 88) (.node (ob P 152) .nil .nil) .nil) (.node (ob P 120) .nil .nil)))) (.node (v12_212 P) (.node (ob P 20) (.node (ob P 36) (.node (ot P 68) (.node (ob P 132) .nil .nil) .nil) (.node (ob P 100) (.node (ob P 164) .nil .nil) .nil)) (.node (ot P 52) (.node (ob P 84) (.node (ob P 148) .nil .nil) .nil) (.node (ot P 116) .nil .nil))) (.node (ot P 28) (.node (ot P 44) (.node (ot P 76) (.node (ot P 140) .nil .nil) .nil) (.node (ob P 108) .nil .nil)) (.node (ot P 60) (.node (ob P 92) (.node (ob P 156) .nil .nil) .nil) (.node (ob P 124) .nil .nil))))) (.node (boot_o_6 P) (.node (boot_o_10 P) (.node (ob P 18) (.node (ob P 34) (.node (ob P 66) (.node (ot P 130) .nil .nil) .nil) (.node (ot P 98) (.node (ot P 162) .nil .nil) .nil)) (.node (ob P 50) (.node (ob P 82) (.node (ob P 146) .nil .nil) .nil) (.node (ob P 114) .nil .nil))) (.node (ot P 26) (.node (ob P 42) (.node (ob P 74) (.node (ob P 138) .nil .nil) .nil) (.node (ob P 106) .nil .nil)) (.node (ot P 58) (.node (ob P 90) (.node (ot P 154) .nil .nil) .nil) (.node (ob P 122) .nil .nil)))) (.node (ot P 14) (.node (ob P 22) (.node (ob P 38) (.node (ot P 70) (.node (ob P 134) .nil .nil) .nil) (.node (ot P 102) .nil .nil)) (.node (ob P 54) (.node (ob P 86) (.node (ob P 150) .nil .nil) .nil) (.node (ob P 118) .nil .nil))) (.node (ot P 30) (.node (ot P 46) (.node (ob P 78) (.node (ob P 142) .nil .nil) .nil) (.node (ob P 110) .nil .nil)) (.node (ob P 62) (.node (ob P 94) (.node (ob P 158) .nil .nil) .nil) (.node (ot P 126) .nil .nil)))))))
noncomputable def T257 : Params → BT := fun P => (.node (boot_o_0 P) (.node (boot_o_1 P) (.node (v3_257 P) (.node (boot_o_7 P) (.node (ob P 15) (.node (ob P 31) (.node (ob P 63) (.node (ob P 127) .nil .nil) (.node (ob P 191) .nil .nil)) (.node (ot P 95) (.node (ot P 159) .nil .nil) .nil)) (.node (ot P 47) (.node (ob P 79) (.node (ob P 143) .nil .nil) (.node (ob P 207) .nil .nil)) (.node (ob P 111) (.node (ob P 175) .nil .nil) .nil))) (.node (ot P 23) (.node (ob P 39) (.node (ot P 71) (.node (ob P 135) .nil .nil) (.node (ob P 199) .nil .nil)) (.node (ob P 103) (.node (ot P 167) .nil .nil) .nil)) (.node (ot P 55) (.node (ob P 87) (.node (ot P 151) .nil .nil) .nil) (.node (ot P 119) (.node (ot P 183) .nil .nil) .nil)))) (.node (ot P 11) (.node (ot P 19) (.node (ob P 35) (.node (ot P 67) (.node (ob P 131) .nil .nil) (.node (ob P 195) .nil .nil)) (.node (ob P 99) (.node (ob P 163) .nil .nil) .nil)) (.node (ob P 51) (.node (ot P 83) (.node (ot P 147) .nil .nil) .nil) (.node (ob P 115) (.node (ob P 179) .nil .nil) .nil))) (.node (ot P 27) (.node (ot P 43) (.node (ob P 75) (.node (ob P 139) .nil .nil) (.node (ob P 203) .nil .nil)) (.node (ob P 107) (.node (ot P 171) .nil .nil) .nil)) (.node (ot P 59) (.node (ot P 91) (.node (ob P 155) .nil .nil) .nil) (.node (ot P 123) (.node (ot P 187) .nil .nil) .nil))))) (.node (boot_o_5 P) (.node (boot_o_9 P) (.node (ob P 17) (.node (ot P 33) (.node (ot P 65) (.node (ob P 129) .nil .nil) (.node (ob P 193) .nil .nil)) (.node (ob P 97) (.node (ob P 161) .nil .nil) .nil)) (.node (ob P 49) (.node (ob P 81) (.node (ob P 145) .nil .nil) .nil) (.node (ob P 113) (.node (ob P 177) .nil .nil) .nil))) (.node (ot P 25) (.node (ot P 41) (.node (ob P 73) (.node (ot P 137) .nil .nil) (.node (ob P 201) .nil .nil)) (.node (ot P 105) (.node (ot P 169) .nil .nil) .nil)) (.node (ot P 57) (.node (ob P 89) (.node (ob P 153) .nil .nil) .nil) (.node (ob P 121) (.node (ob P 185) .nil .nil) .nil)))) (.node (ot P 13) (.node (ob P 21) (.node (ob P 37) (.node (ot P 69) (.node (ot P 133) .nil .nil) (.node (ot P 197) .nil .nil)) (.node (ob P 101) (.node (ot P 165) .nil .nil) .nil)) (.node (ot P 53) (.node (ob P 85) (.node (ob P 149) .nil .nil) .nil) (.node (ob P 117) (.node (ob P 181) .nil .nil) .nil))) (.node (ob P 29) (.node (ot P 45) (.node (ot P 77) (.node (ob P 141) .nil .nil) (.node (ot P 205) .nil .nil)) (.node (ot P 109) (.node (ot P 173) .nil .nil) .nil)) (.node (ob P 61) (.node (ob P 93) (.node (ob P 157) .nil .nil) .nil) (.node (ob P 125) (.node (ob P 189) .nil .nil) .nil)))))) (.node (ob P 2) (.node (boot_o_4 P) (.node (boot_o_8 P) (.node (ot P 16) (.node (ob P 32) (.node (ot P 64) (.node (ob P 128) .nil .nil) (.node (ob P 192) .nil .nil)) (.node (ob P 96) (.node (ob P 160) .nil .nil) .nil)) (.node (ot P 48) (.node (ot P 80) (.node (ot P 144) .nil .nil) .nil) (.node (ot P 112) (.node (ot P 176) .nil .nil) .nil))) (.node (ot P 24) (.node (ot P 40) (.node (ot P 72) (.node (ob P 136) .nil .nil) (.node (ob P 200) .nil .nil)) (.node (ob P 104) (.node (ot P 168) .nil .nil) .nil)) (.node (ot P 56) (.node (ot P 88) (.node (ob P 152) .nil .nil) .nil) (.node (ob P 120) (.node (ob P 184) .nil .nil) .nil)))) (.node (v12_257 P) (.node (ob P 20) (.node (ob P 36) (.node (ot P 68) (.node (ob P 132) .nil .nil) (.node (ob P 196) .nil .nil)) (.node (ob P 100) (.node (ob P 164) .nil .nil) .nil)) (.node (ot P 52) (.node (ob P 84) (.node (ob P 148) .nil .nil) .nil) (.node (ot P 116) (.node (ot P 180) .nil .nil) .nil))) (.node (ot P 28) (.node (ot P 44) (.node (ot P 76) (.node (ot P 140) .nil .nil) (.node (ob P 204) .nil .nil)) (.node (ob P 108) (.node (ob P 172) .nil .nil) .nil)) (.node (ot P 60) (.node (ob P 92) (.node (ob P 156) .nil .nil) .nil) (.node (ob P 124) (.node (ob P 188) .nil .nil) .nil))))) (.node (boot_o_6 P) (.node (boot_o_10 P) (.node (ob P 18) (.node (ob P 34) (.node (ob P 66) (.node (ot P 130) .nil .nil) (.node (ot P 194) .nil .nil)) (.node (ot P 98) (.node (ot P 162) .nil .nil) .nil)) (.node (ob P 50) (.node (ob P 82) (.node (ob P 146) .nil .nil) .nil) (.node (ob P 114) (.node (ob P 178) .nil .nil) .nil))) (.node (ot P 26) (.node (ob P 42) (.node (ob P 74) (.node (ob P 138) .nil .nil) (.node (ob P 202) .nil .nil)) (.node (ob P 106) (.node (ot P 170) .nil .nil) .nil)) (.node (ot P 58) (.node (ob P 90) (.node (ot P 154) .nil .nil) .nil) (.node (ob P 122) (.node (ob P 186) .nil .nil) .nil)))) (.node (ot P 14) (.node (ob P 22) (.node (ob P 38) (.node (ot P 70) (.node (ob P 134) .nil .nil) (.node (ob P 198) .nil .nil)) (.node (ot P 102) (.node (ot P 166) .nil .nil) .nil)) (.node (ob P 54) (.node (ob P 86) (.node (ob P 150) .nil .nil) .nil) (.node (ob P 118) (.node (ob P 182) .nil .nil) .nil))) (.node (ot P 30) (.node (ot P 46) (.node (ob P 78) (.node (ob P 142) .nil .nil) (.node (ot P 206) .nil .nil)) (.node (ob P 110) (.node (ob P 174) .nil .nil) .nil)) (.node (ob P 62) (.node (ob P 94) (.node (ob P 158) .nil .nil) .nil) (.node (ot P 126) (.node (ot P 190) .nil .nil) .nil)))))))
noncomputable def T334 : Params → BT := fun P => (.node (boot_o_0 P) (.node (boot_o_1 P) (.node (v3_334 P) (.node (boot_o_7 P) (.node (ob P 15) (.node (ob P 31) (.node (ob P 63) (.node (ob P 127) (.node (ob P 255) .nil .nil) .nil) (.node (ob P 191) .nil .nil)) (.node (ot P 95) (.node (ot P 159) .nil .nil) (.node (ob P 223) .nil .nil))) (.node (ot P 47) (.node (ob P 79) (.node (ob P 143) (.node (ob P 271) .nil .nil) .nil) (.node (ob P 207) .nil .nil)) (.node (ob P 111) (.node (ob P 175) .nil .nil) (.node (ot P 239) .nil .nil)))) (.node (ot P 23) (.node (ob P 39) (.node (ot P 71) (.node (ob P 135) (.node (ob P 263) .nil .nil) .nil) (.node (ob P 199) .nil .nil)) (.node (ob P 103) (.node (ot P 167) .nil .nil) (.node (ob P 231) .nil .nil))) (.node (ot P 55) (.node (ob P 87) (.node (ot P 151) (.node (ob P 279) .nil .nil) .nil) (.node (ob P 215) .nil .nil)) (.node (ot P 119) (.node (ot P 183) .nil .nil) (.node (ob P 247) .nil .nil))))) (.node (ot P 11) (.node (ot P 19) (.node (ob P 35) (.node (ot P 67) (.node (ob P 131) (.node (ob P 259) .nil .nil) .nil) (.node (ob P 195) .nil .nil)) (.node (ob P 99) (.node (ob P 163) .nil .nil) (.node (ob P 227) .nil .nil))) (.node (ob P 51) (.node (ot P 83) (.node (ot P 147) (.node (ob P 275) .nil .nil) .nil) (.node (ot P 211) .nil .nil)) (.node (ob P 115) (.node (ob P 179) .nil .nil) (.node (ot P 243) .nil .nil)))) (.node (ot P 27) (.node (ot P 43) (.node (ob P 75) (.node (ob P 139) (.node (ob P 267) .nil .nil) .nil) (.node (ob P 203) .nil .nil)) (.node (ob P 107) (.node (ot P 171) .nil .nil) (.node (ob P 235) .nil .nil))) (.node (ot P 59) (.node (ot P 91) (.node (ob P 155) .nil .nil) (.node (ob P 219) .nil .nil)) (.node (ot P 123) (.node (ot P 187) .nil .nil) (.node (ob P 251) .nil .nil)))))) (.node (boot_o_5 P) (.node (boot_o_9 P) (.node (ob P 17) (.node (ot P 33) (.node (ot P 65) (.node (ob P 129) (.node (ot P 257) .nil .nil) .nil) (.node (ob P 193) .nil .nil)) (.node (ob P 97) (.node (ob P 161) .nil .nil) (.node (ot P 225) .nil .nil))) (.node (ob P 49) (.node (ob P 81) (.node (ob P 145) (.node (ob P 273) .nil .nil) .nil) (.node (ot P 209) .nil .nil)) (.node (ob P 113) (.node (ob P 177) .nil .nil) (.node (ob P 241) .nil .nil)))) (.node (ot P 25) (.node (ot P 41) (.node (ob P 73) (.node (ot P 137) (.node (ot P 265) .nil .nil) .nil) (.node (ob P 201) .nil .nil)) (.node (ot P 105) (.node (ot P 169) .nil .nil) (.node (ob P 233) .nil .nil))) (.node (ot P 57) (.node (ob P 89) (.node (ob P 153) (.node (ot P 281) .nil .nil) .nil) (.node (ot P 217) .nil .nil)) (.node (ob P 121) (.node (ob P 185) .nil .nil) (.node (ob P 249) .nil .nil))))) (.node (ot P 13) (.node (ob P 21) (.node (ob P 37) (.node (ot P 69) (.node (ot P 133) (.node (ob P 261) .nil .nil) .nil) (.node (ot P 197) .nil .nil)) (.node (ob P 101) (.node (ot P 165) .nil .nil) (.node (ot P 229) .nil .nil))) (.node (ot P 53) (.node (ob P 85) (.node (ob P 149) (.node (ob P 277) .nil .nil) .nil) (.node (ot P 213) .nil .nil)) (.node (ob P 117) (.node (ob P 181) .nil .nil) (.node (ob P 245) .nil .nil)))) (.node (ob P 29) (.node (ot P 45) (.node (ot P 77) (.node (ob P 141) (.node (ot P 269) .nil .nil) .nil) (.node (ot P 205) .nil .nil)) (.node (ot P 109) (.node (ot P 173) .nil .nil) (.node (ob P 237) .nil .nil))) (.node (ob P 61) (.node (ob P 93) (.node (ob P 157) .nil .nil) (.node (ob P 221) .nil .nil)) (.node (ob P 125) (.node (ob P 189) .nil .nil) (.node (ot P 253) .nil .nil))))))) (.node (ob P 2) (.node (boot_o_4 P) (.node (boot_o_8 P) (.node (ot P 16) (.node (ob P 32) (.node (ot P 64) (.node (ob P 128) (.node (ob P 256) .nil .nil) .nil) (.node (ob P 192) .nil .nil)) (.node (ob P 96) (.node (ob P 160) .nil .nil) (.node (ob P 224) .nil .nil))) (.node (ot P 48) (.node (ot P 80) (.node (ot P 144) (.node (ot P 272) .nil .nil) .nil) (.node (ot P 208) .nil .nil)) (.node (ot P 112) (.node (ot P 176) .nil .nil) (.node (ob P 240) .nil .nil)))) (.node (ot P 24) (.node (ot P 40) (.node (ot P 72) (.node (ob P 136) (.node (ob P 264) .nil .nil) .nil) (.node (ob P 200) .nil .nil)) (.node (ob P 104) (.node (ot P 168) .nil .nil) (.node (ot P 232) .nil .nil))) (.node (ot P 56) (.node (ot P 88) (.node (ob P 152) (.node (ot P 280) .nil .nil) .nil) (.node (ob P 216) .nil .nil)) (.node (ob P 120) (.node (ob P 184) .nil .nil) (.node (ob P 248) .nil .nil))))) (.node (v12_334 P) (.node (ob P 20) (.node (ob P 36) (.node (ot P 68) (.node (ob P 132) (.node (ob P 260) .nil .nil) .nil) (.node (ob P 196) .nil .nil)) (.node (ob P 100) (.node (ob P 164) .nil .nil) (.node (ob P 228) .nil .nil))) (.node (ot P 52) (.node (ob P 84) (.node (ob P 148) (.node (ob P 276) .nil .nil) .nil) (.node (ot P 212) .nil .nil)) (.node (ot P 116) (.node (ot P 180) .nil .nil) (.node (ob P 244) .nil .nil)))) (.node (ot P 28) (.node (ot P 44) (.node (ot P 76) (.node (ot P 140) (.node (ob P 268) .nil .nil) .nil) (.node (ob P 204) .nil .nil)) (.node (ob P 108) (.node (ob P 172) .nil .nil) (.node (ot P 236) .nil .nil))) (.node (ot P 60) (.node (ob P 92) (.node (ob P 156) .nil .nil) (.node (ob P 220) .nil .nil)) (.node (ob P 124) (.node (ob P 188) .nil .nil) (.node (ob P 252) .nil .nil)))))) (.node (boot_o_6 P) (.node (boot_o_10 P) (.node (ob P 18) (.node (ob P 34) (.node (ob P 66) (.node (ot P 130) (.node (ot P 258) .nil .nil) .nil) (.node (ot P 194) .nil .nil)) (.node (ot P 98) (.node (ot P 162) .nil .nil) (.node (ob P 226) .nil .nil))) (.node (ob P 50) (.node (ob P 82) (.node (ob P 146) (.node (ob P 274) .nil .nil) .nil) (.node (ot P 210) .nil .nil)) (.node (ob P 114) (.node (ob P 178) .nil .nil) (.node (ob P 242) .nil .nil)))) (.node (ot P 26) (.node (ob P 42) (.node (ob P 74) (.node (ob P 138) (.node (ob P 266) .nil .nil) .nil) (.node (ob P 202) .nil .nil)) (.node (ob P 106) (.node (ot P 170) .nil .nil) (.node (ob P 234) .nil .nil))) (.node (ot P 58) (.node (ob P 90) (.node (ot P 154) .nil .nil) (.node (ot P 218) .nil .nil)) (.node (ob P 122) (.node (ob P 186) .nil .nil) (.node (ot P 250) .nil .nil))))) (.node (ot P 14) (.node (ob P 22) (.node (ob P 38) (.node (ot P 70) (.node (ob P 134) (.node (ot P 262) .nil .nil) .nil) (.node (ob P 198) .nil .nil)) (.node (ot P 102) (.node (ot P 166) .nil .nil) (.node (ob P 230) .nil .nil))) (.node (ob P 54) (.node (ob P 86) (.node (ob P 150) (.node (ob P 278) .nil .nil) .nil) (.node (ot P 214) .nil .nil)) (.node (ob P 118) (.node (ob P 182) .nil .nil) (.node (ot P 246) .nil .nil)))) (.node (ot P 30) (.node (ot P 46) (.node (ob P 78) (.node (ob P 142) (.node (ob P 270) .nil .nil) .nil) (.node (ot P 206) .nil .nil)) (.node (ob P 110) (.node (ob P 174) .nil .nil) (.node (ob P 238) .nil .nil))) (.node (ob P 62) (.node (ob P 94) (.node (ob P 158) .nil .nil) (.node (ot P 222) .nil .nil)) (.node (ot P 126) (.node (ot P 190) .nil .nil) (.node (ob P 254) .nil .nil))))))))
noncomputable def T400 : Params → BT := fun P => (.node (boot_o_0 P) (.node (boot_o_1 P) (.node (v3_400 P) (.node (boot_o_7 P) (.node (ob P 15) (.node (ob P 31) (.node (ob P 63) (.node (ob P 127) (.node (ob P 255) .nil .nil) .nil) (.node (ob P 191) (.node (ob P 319) .nil .nil) .nil)) (.node (ot P 95) (.node (ot P 159) (.node (ot P 287) .nil .nil) .nil) (.node (ob P 223) .nil .nil))) (.node (ot P 47) (.node (ob P 79) (.node (ob P 143) (.node (ob P 271) .nil .nil) .nil) (.node (ob P 207) (.node (ot P 335) .nil .nil) .nil)) (.node (ob P 111) (.node (ob P 175) (.node (ob P 303) .nil .nil) .nil) (.node (ot P 239) .nil .nil)))) (.node (ot P 23) (.node (ob P 39) (.node (ot P 71) (.node (ob P 135) (.node (ob P 263) .nil .nil) .nil) (.node (ob P 199) (.node (ob P 327) .nil .nil) .nil)) (.node (ob P 103) (.node (ot P 167) (.node (ob P 295) .nil .nil) .nil) (.node (ob P 231) .nil .nil))) (.node (ot P 55) (.node (ob P 87) (.node (ot P 151) (.node (ob P 279) .nil .nil) .nil) (.node (ob P 215) (.node (ot P 343) .nil .nil) .nil)) (.node (ot P 119) (.node (ot P 183) (.node (ot P 311) .nil .nil) .nil) (.node (ob P 247) .nil .nil))))) (.node (ot P 11) (.node (ot P 19) (.node (ob P 35) (.node (ot P 67) (.node (ob P 131) (.node (ob P 259) .nil .nil) .nil) (.node (ob P 195) (.node (ob P 323) .nil .nil) .nil)) (.node (ob P 99) (.node (ob P 163) (.node (ob P 291) .nil .nil) .nil) (.node (ob P 227) .nil .nil))) (.node (ob P 51) (.node (ot P 83) (.node (ot P 147) (.node (ob P 275) .nil .nil) .nil) (.node (ot P 211) (.node (ob P 339) .nil .nil) .nil)) (.node (ob P 115) (.node (ob P 179) (.node (ot P 307) .nil .nil) .nil) (.node (ot P 243) .nil .nil)))) (.node (ot P 27) (.node (ot P 43) (.node (ob P 75) (.node (ob P 139) (.node (ob P 267) .nil .nil) .nil) (.node (ob P 203) (.node (ob P 331) .nil .nil) .nil)) (.node (ob P 107) (.node (ot P 171) (.node (ob P 299) .nil .nil) .nil) (.node (ob P 235) .nil .nil))) (.node (ot P 59) (.node (ot P 91) (.node (ob P 155) (.node (ot P 283) .nil .nil) .nil) (.node (ob P 219) .nil .nil)) (.node (ot P 123) (.node (ot P 187) (.node (ob P 315) .nil .nil) .nil) (.node (ob P 251) .nil .nil)))))) (.node (boot_o_5 P) (.node (boot_o_9 P) (.node (ob P 17) (.node (ot P 33) (.node (ot P 65) (.node (ob P 129) (.node (ot P 257) .nil .nil) .nil) (.node (ob P 193) (.node (ot P 321) .nil .nil) .nil)) (.node (ob P 97) (.node (ob P 161) (.node (ob P 289) .nil .nil) .nil) (.node (ot P 225) .nil .nil))) (.node (ob P 49) (.node (ob P 81) (.node (ob P 145) (.node (ob P 273) .nil .nil) .nil) (.node (ot P 209) (.node (ob P 337) .nil .nil) .nil)) (.node (ob P 113) (.node (ob P 177) (.node (ob P 305) .nil .nil) .nil) (.node (ob P 241) .nil .nil)))) (.node (ot P 25) (.node (ot P 41) (.node (ob P 73) (.node (ot P 137) (.node (ot P 265) .nil .nil) .nil) (.node (ob P 201) (.node (ob P 329) .nil .nil) .nil)) (.node (ot P 105) (.node (ot P 169) (.node (ot P 297) .nil .nil) .nil) (.node (ob P 233) .nil .nil))) (.node (ot P 57) (.node (ob P 89) (.node (ob P 153) (.node (ot P 281) .nil .nil) .nil) (.node (ot P 217) .nil .nil)) (.node (ob P 121) (.node (ob P 185) (.node (ob P 313) .nil .nil) .nil) (.node (ob P 249) .nil .nil))))) (.node (ot P 13) (.node (ob P 21) (.node (ob P 37) (.node (ot P 69) (.node (ot P 133) (.node (ob P 261) .nil .nil) .nil) (.node (ot P 197) (.node (ot P 325) .nil .nil) .nil)) (.node (ob P 101) (.node (ot P 165) (.node (ot P 293) .nil .nil) .nil) (.node (ot P 229) .nil .nil))) (.node (ot P 53) (.node (ob P 85) (.node (ob P 149) (.node (ob P 277) .nil .nil) .nil) (.node (ot P 213) (.node (ob P 341) .nil .nil) .nil)) (.node (ob P 117) (.node (ob P 181) (.node (ob P 309) .nil .nil) .nil) (.node (ob P 245) .nil .nil)))) (.node (ob P 29) (.node (ot P 45) (.node (ot P 77) (.node (ob P 141) (.node (ot P 269) .nil .nil) .nil) (.node (ot P 205) (.node (ob P 333) .nil .nil) .nil)) (.node (ot P 109) (.node (ot P 173) (.node (ob P 301) .nil .nil) .nil) (.node (ob P 237) .nil .nil))) (.node (ob P 61) (.node (ob P 93) (.node (ob P 157) (.node (ot P 285) .nil .nil) .nil) (.node (ob P 221) .nil .nil)) (.node (ob P 125) (.node (ob P 189) (.node (ob P 317) .nil .nil) .nil) (.node (ot P 253) .nil .nil))))))) (.node (ob P 2) (.node (boot_o_4 P) (.node (boot_o_8 P) (.node (ot P 16) (.node (ob P 32) (.node (ot P 64) (.node (ob P 128) (.node (ob P 256) .nil .nil) .nil) (.node (ob P 192) (.node (ob P 320) .nil .nil) .nil)) (.node (ob P 96) (.node (ob P 160) (.node (ot P 288) .nil .nil) .nil) (.node (ob P 224) .nil .nil))) (.node (ot P 48) (.node (ot P 80) (.node (ot P 144) (.node (ot P 272) .nil .nil) .nil) (.node (ot P 208) (.node (ob P 336) .nil .nil) .nil)) (.node (ot P 112) (.node (ot P 176) (.node (ot P 304) .nil .nil) .nil) (.node (ob P 240) .nil .nil)))) (.node (ot P 24) (.node (ot P 40) (.node (ot P 72) (.node (ob P 136) (.node (ob P 264) .nil .nil) .nil) (.node (ob P 200) (.node (ot P 328) .nil .nil) .nil)) (.node (ob P 104) (.node (ot P 168) (.node (ob P 296) .nil .nil) .nil) (.node (ot P 232) .nil .nil))) (.node (ot P 56) (.node (ot P 88) (.node (ob P 152) (.node (ot P 280) .nil .nil) .nil) (.node (ob P 216) (.node (ot P 344) .nil .nil) .nil)) (.node (ob P 120) (.node (ob P 184) (.node (ob P 312) .nil .nil) .nil) (.node (ob P 248) .nil .nil))))) (.node (v12_400 P) (.node (ob P 20) (.node (ob P 36) (.node (ot P 68) (.node (ob P 132) (.node (ob P 260) .nil .nil) .nil) (.node (ob P 196) (.node (ob P 324) .nil .nil) .nil)) (.node (ob P 100) (.node (ob P 164) (.node (ob P 292) .nil .nil) .nil) (.node (ob P 228) .nil .nil))) (.node (ot P 52) (.node (ob P 84) (.node (ob P 148) (.node (ob P 276) .nil .nil) .nil) (.node (ot P 212) (.node (ob P 340) .nil .nil) .nil)) (.node (ot P 116) (.node (ot P 180) (.node (ob P 308) .nil .nil) .nil) (.node (ob P 244) .nil .nil)))) (.node (ot P 28) (.node (ot P 44) (.node (ot P 76) (.node (ot P 140) (.node (ob P 268) .nil .nil) .nil) (.node (ob P 204) (.node (ot P 332) .nil .nil) .nil)) (.node (ob P 108) (.node (ob P 172) (.node (ot P 300) .nil .nil) .nil) (.node (ot P 236) .nil .nil))) (.node (ot P 60) (.node (ob P 92) (.node (ob P 156) (.node (ot P 284) .nil .nil) .nil) (.node (ob P 220) .nil .nil)) (.node (ob P 124) (.node (ob P 188) (.node (ob P 316) .nil .nil) .nil) (.node (ob P 252) .nil .nil)))))) (.node (boot_o_6 P) (.node (boot_o_10 P) (.node (ob P 18) (.node (ob P 34) (.node (ob P 66) (.node (ot P 130) (.node (ot P 258) .nil .nil) .nil) (.node (ot P 194) (.node (ob P 322) .nil .nil) .nil)) (.node (ot P 98) (.node (ot P 162) (.node (ot P 290) .nil .nil) .nil) (.node (ob P 226) .nil .nil))) (.node (ob P 50) (.node (ob P 82) (.node (ob P 146) (.node (ob P 274) .nil .nil) .nil) (.node (ot P 210) (.node (ob P 338) .nil .nil) .nil)) (.node (ob P 114) (.node (ob P 178) (.node (ob P 306) .nil .nil) .nil) (.node (ob P 242) .nil .nil)))) (.node (ot P 26) (.node (ob P 42) (.node (ob P 74) (.node (ob P 138) (.node (ob P 266) .nil .nil) .nil) (.node (ob P 202) (.node (ob P 330) .nil .nil) .nil)) (.node (ob P 106) (.node (ot P 170) (.node (ob P 298) .nil .nil) .nil) (.node (ob P 234) .nil .nil))) (.node (ot P 58) (.node (ob P 90) (.node (ot P 154) (.node (ot P 282) .nil .nil) .nil) (.node (ot P 218) .nil .nil)) (.node (ob P 122) (.node (ob P 186) (.node (ot P 314) .nil .nil) .nil) (.node (ot P 250) .nil .nil))))) (.node (ot P 14) (.node (ob P 22) (.node (ob P 38) (.node (ot P 70) (.node (ob P 134) (.node (ot P 262) .nil .nil) .nil) (.node (ob P 198) (.node (ob P 326) .nil .nil) .nil)) (.node (ot P 102) (.node (ot P 166) (.node (ob P 294) .nil .nil) .nil) (.node (ob P 230) .nil .nil))) (.node (ob P 54) (.node (ob P 86) (.node (ob P 150) (.node (ob P 278) .nil .nil) .nil) (.node (ot P 214) (.node (ob P 342) .nil .nil) .nil)) (.node (ob P 118) (.node (ob P 182) (.node (ob P 310) .nil .nil) .nil) (.node (ot P 246) .nil .nil)))) (.node (ot P 30) (.node (ot P 46) (.node (ob P 78) (.node (ob P 142) (.node (ob P 270) .nil .nil) .nil) (.node (ot P 206) (.node (ob P 334) .nil .nil) .nil)) (.node (ob P 110) (.node (ob P 174) (.node (ob P 302) .nil .nil) .nil) (.node (ob P 238) .nil .nil))) (.node (ob P 62) (.node (ob P 94) (.node (ob P 158) (.node (ot P 286) .nil .nil) .nil) (.node (ot P 222) .nil .nil)) (.node (ot P 126) (.node (ot P 190) (.node (ot P 318) .nil .nil) .nil) (.node (ob P 254) .nil .nil))))))))
noncomputable def T475 : Params → BT := fun P => (.node (boot_o_0 P) (.node (boot_o_1 P) (.node (ob P 3) (.node (boot_o_7 P) (.node (ob P 15) (.node (ob P 31) (.node (ob P 63) (.node (ob P 127) (.node (ob P 255) .nil .nil) (.node (ob P 383) .nil .nil)) (.node (ob P 191) (.node (ob P 319) .nil .nil) .nil)) (.node (ot P 95) (.node (ot P 159) (.node (ot P 287) .nil .nil) (.node (ot P 415) .nil .nil)) (.node (ob P 223) (.node (ob P 351) .nil .nil) .nil))) (.node (ot P 47) (.node (ob P 79) (.node (ob P 143) (.node (ob P 271) .nil .nil) (.node (ob P 399) .nil .nil)) (.node (ob P 207) (.node (ot P 335) .nil .nil) .nil)) (.node (ob P 111) (.node (ob P 175) (.node (ob P 303) .nil .nil) .nil) (.node (ot P 239) (.node (ot P 367) .nil .nil) .nil)))) (.node (ot P 23) (.node (ob P 39) (.node (ot P 71) (.node (ob P 135) (.node (ob P 263) .nil .nil) (.node (ot P 391) .nil .nil)) (.node (ob P 199) (.node (ob P 327) .nil .nil) .nil)) (.node (ob P 103) (.node (ot P 167) (.node (ob P 295) .nil .nil) .nil) (.node (ob P 231) (.node (ob P 359) .nil .nil) .nil))) (.node (ot P 55) (.node (ob P 87) (.node (ot P 151) (.node (ob P 279) .nil .nil) (.node (ob P 407) .nil .nil)) (.node (ob P 215) (.node (ot P 343) .nil .nil) .nil)) (.node (ot P 119) (.node (ot P 183) (.node (ot P 311) .nil .nil) .nil) (.node (ob P 247) (.node (ob P 375) .nil .nil) .nil))))) (.node (ot P 11) (.node (ot P 19) (.node (ob P 35) (.node (ot P 67) (.node (ob P 131) (.node (ob P 259) .nil .nil) (.node (ob P 387) .nil .nil)) (.node (ob P 195) (.node (ob P 323) .nil .nil) .nil)) (.node (ob P 99) (.node (ob P 163) (.node (ob P 291) .nil .nil) .nil) (.node (ob P 227) (.node (ob P 355) .nil .nil) .nil))) (.node (ob P 51) (.node (ot P 83) (.node (ot P 147) (.node (ob P 275) .nil .nil) (.node (ob P 403) .nil .nil)) (.node (ot P 211) (.node (ob P 339) .nil .nil) .nil)) (.node (ob P 115) (.node (ob P 179) (.node (ot P 307) .nil .nil) .nil) (.node (ot P 243) (.node (ob P 371) .nil .nil) .nil)))) (.node (ot P 27) (.node (ot P 43) (.node (ob P 75) (.node (ob P 139) (.node (ob P 267) .nil .nil) (.node (ot P 395) .nil .nil)) (.node (ob P 203) (.node (ob P 331) .nil .nil) .nil)) (.node (ob P 107) (.node (ot P 171) (.node (ob P 299) .nil .nil) .nil) (.node (ob P 235) (.node (ot P 363) .nil .nil) .nil))) (.node (ot P 59) (.node (ot P 91) (.node (ob P 155) (.node (ot P 283) .nil .nil) (.node (ob P 411) .nil .nil)) (.node (ob P 219) (.node (ob P 347) .nil .nil) .nil)) (.node (ot P 123) (.node (ot P 187) (.node (ob P 315) .nil .nil) .nil) (.node (ob P 251) (.node (ob P 379) .nil .nil) .nil)))))) (.node (boot_o_5 P) (.node (boot_o_9 P) (.node (ob P 17) (.node (ot P 33) (.node (ot P 65) (.node (ob P 129) (.node (ot P 257) .nil .nil) (.node (ob P 385) .nil .nil)) (.node (ob P 193) (.node (ot P 321) .nil .nil) .nil)) (.node (ob P 97) (.node (ob P 161) (.node (ob P 289) .nil .nil) (.node (ob P 417) .nil .nil)) (.node (ot P 225) (.node (ot P 353) .nil .nil) .nil))) (.node (ob P 49) (.node (ob P 81) (.node (ob P 145) (.node (ob P 273) .nil .nil) (.node (ob P 401) .nil .nil)) (.node (ot P 209) (.node (ob P 337) .nil .nil) .nil)) (.node (ob P 113) (.node (ob P 177) (.node (ob P 305) .nil .nil) .nil) (.node (ob P 241) (.node (ob P 369) .nil .nil) .nil)))) (.node (ot P 25) (.node (ot P 41) (.node (ob P 73) (.node (ot P 137) (.node (ot P 265) .nil .nil) (.node (ob P 393) .nil .nil)) (.node (ob P 201) (.node (ob P 329) .nil .nil) .nil)) (.node (ot P 105) (.node (ot P 169) (.node (ot P 297) .nil .nil) .nil) (.node (ob P 233) (.node (ob P 361) .nil .nil) .nil))) (.node (ot P 57) (.node (ob P 89) (.node (ob P 153) (.node (ot P 281) .nil .nil) (.node (ot P 409) .nil .nil)) (.node (ot P 217) (.node (ob P 345) .nil .nil) .nil)) (.node (ob P 121) (.node (ob P 185) (.node (ob P 313) .nil .nil) .nil) (.node (ob P 249) (.node (ot P 377) .nil .nil) .nil))))) (.node (ot P 13) (.node (ob P 21) (.node (ob P 37) (.node (ot P 69) (.node (ot P 133) (.node (ob P 261) .nil .nil) (.node (ob P 389) .nil .nil)) (.node (ot P 197) (.node (ot P 325) .nil .nil) .nil)) (.node (ob P 101) (.node (ot P 165) (.node (ot P 293) .nil .nil) .nil) (.node (ot P 229) (.node (ob P 357) .nil .nil) .nil))) (.node (ot P 53) (.node (ob P 85) (.node (ob P 149) (.node (ob P 277) .nil .nil) (.node (ot P 405) .nil .nil)) (.node (ot P 213) (.node (ob P 341) .nil .nil) .nil)) (.node (ob P 117) (.node (ob P 181) (.node (ob P 309) .nil .nil) .nil) (.node (ob P 245) (.node (ob P 373) .nil .nil) .nil)))) (.node (ob P 29) (.node (ot P 45) (.node (ot P 77) (.node (ob P 141) (.node (ot P 269) .nil .nil) (.node (ob P 397) .nil .nil)) (.node (ot P 205) (.node (ob P 333) .nil .nil) .nil)) (.node (ot P 109) (.node (ot P 173) (.node (ob P 301) .nil .nil) .nil) (.node (ob P 237) (.node (ob P 365) .nil .nil) .nil))) (.node (ob P 61) (.node (ob P 93) (.node (ob P 157) (.node (ot P 285) .nil .nil) (.node (ob P 413) .nil .nil)) (.node (ob P 221) (.node (ot P 349) .nil .nil) .nil)) (.node (ob P 125) (.node (ob P 189) (.node (ob P 317) .nil .nil) .nil) (.node (ot P 253) (.node (ot P 381) .nil .nil) .nil))))))) (.node (ob P 2) (.node (boot_o_4 P) (.node (boot_o_8 P) (.node (ot P 16) (.node (ob P 32) (.node (ot P 64) (.node (ob P 128) (.node (ob P 256) .nil .nil) (.node (ot P 384) .nil .nil)) (.node (ob P 192) (.node (ob P 320) .nil .nil) .nil)) (.node (ob P 96) (.node (ob P 160) (.node (ot P 288) .nil .nil) (.node (ob P 416) .nil .nil)) (.node (ob P 224) (.node (ob P 352) .nil .nil) .nil))) (.node (ot P 48) (.node (ot P 80) (.node (ot P 144) (.node (ot P 272) .nil .nil) (.node (ob P 400) .nil .nil)) (.node (ot P 208) (.node (ob P 336) .nil .nil) .nil)) (.node (ot P 112) (.node (ot P 176) (.node (ot P 304) .nil .nil) .nil) (.node (ob P 240) (.node (ob P 368) .nil .nil) .nil)))) (.node (ot P 24) (.node (ot P 40) (.node (ot P 72) (.node (ob P 136) (.node (ob P 264) .nil .nil) (.node (ob P 392) .nil .nil)) (.node (ob P 200) (.node (ot P 328) .nil .nil) .nil)) (.node (ob P 104) (.node (ot P 168) (.node (ob P 296) .nil .nil) .nil) (.node (ot P 232) (.node (ot P 360) .nil .nil) .nil))) (.node (ot P 56) (.node (ot P 88) (.node (ob P 152) (.node (ot P 280) .nil .nil) (.node (ob P 408) .nil .nil)) (.node (ob P 216) (.node (ot P 344) .nil .nil) .nil)) (.node (ob P 120) (.node (ob P 184) (.node (ob P 312) .nil .nil) .nil) (.node (ob P 248) (.node (ob P 376) .nil .nil) .nil))))) (.node (ot P 12) (.node (ob P 20) (.node (ob P 36) (.node (ot P 68) (.node (ob P 132) (.node (ob P 260) .nil .nil) (.node (ot P 388) .nil .nil)) (.node (ob P 196) (.node (ob P 324) .nil .nil) .nil)) (.node (ob P 100) (.node (ob P 164) (.node (ob P 292) .nil .nil) .nil) (.node (ob P 228) (.node (ot P 356) .nil .nil) .nil))) (.node (ot P 52) (.node (ob P 84) (.node (ob P 148) (.node (ob P 276) .nil .nil) (.node (ob P 404) .nil .nil)) (.node (ot P 212) (.node (ob P 340) .nil .nil) .nil)) (.node (ot P 116) (.node (ot P 180) (.node (ob P 308) .nil .nil) .nil) (.node (ob P 244) (.node (ob P 372) .nil .nil) .nil)))) (.node (ot P 28) (.node (ot P 44) (.node (ot P 76) (.node (ot P 140) (.node (ob P 268) .nil .nil) (.node (ob P 396) .nil .nil)) (.node (ob P 204) (.node (ot P 332) .nil .nil) .nil)) (.node (ob P 108) (.node (ob P 172) (.node (ot P 300) .nil .nil) .nil) (.node (ot P 236) (.node (ob P 364) .nil .nil) .nil))) (.node (ot P 60) (.node (ob P 92) (.node (ob P 156) (.node (ot P 284) .nil .nil) (.node (ob P 412) .nil .nil)) (.node (ob P 220) (.node (ob P 348) .nil .nil) .nil)) (.node (ob P 124) (.node (ob P 188) (.node (ob P 316) .nil .nil) .nil) (.node (ob P 252) (.node (ob P 380) .nil .nil) .nil)))))) (.node (boot_o_6 P) (.node (boot_o_10 P) (.node (ob P 18) (.node (ob P 34) (.node (ob P 66) (.node (ot P 130) (.node (ot P 258) .nil .nil) (.node (ob P 386) .nil .nil)) (.node (ot P 194) (.node (ob P 322) .nil .nil) .nil)) (.node (ot P 98) (.node (ot P 162) (.node (ot P 290) .nil .nil) .nil) (.node (ob P 226) (.node (ob P 354) .nil .nil) .nil))) (.node (ob P 50) (.node (ob P 82) (.node (ob P 146) (.node (ob P 274) .nil .nil) (.node (ot P 402) .nil .nil)) (.node (ot P 210) (.node (ob P 338) .nil .nil) .nil)) (.node (ob P 114) (.node (ob P 178) (.node (ob P 306) .nil .nil) .nil) (.node (ob P 242) (.node (ot P 370) .nil .nil) .nil)))) (.node (ot P 26) (.node (ob P 42) (.node (ob P 74) (.node (ob P 138) (.node (ob P 266) .nil .nil) (.node (ob P 394) .nil .nil)) (.node (ob P 202) (.node (ob P 330) .nil .nil) .nil)) (.node (ob P 106) (.node (ot P 170) (.node (ob P 298) .nil .nil) .nil) (.node (ob P 234) (.node (ob P 362) .nil .nil) .nil))) (.node (ot P 58) (.node (ob P 90) (.node (ot P 154) (.node (ot P 282) .nil .nil) (.node (ot P 410) .nil .nil)) (.node (ot P 218) (.node (ot P 346) .nil .nil) .nil)) (.node (ob P 122) (.node (ob P 186) (.node (ot P 314) .nil .nil) .nil) (.node (ot P 250) (.node (ob P 378) .nil .nil) .nil))))) (.node (ot P 14) (.node (ob P 22) (.node (ob P 38) (.node (ot P 70) (.node (ob P 134) (.node (ot P 262) .nil .nil) (.node (ob P 390) .nil .nil)) (.node (ob P 198) (.node (ob P 326) .nil .nil) .nil)) (.node (ot P 102) (.node (ot P 166) (.node (ob P 294) .nil .nil) .nil) (.node (ob P 230) (.node (ob P 358) .nil .nil) .nil))) (.node (ob P 54) (.node (ob P 86) (.node (ob P 150) (.node (ob P 278) .nil .nil) (.node (ob P 406) .nil .nil)) (.node (ot P 214) (.node (ob P 342) .nil .nil) .nil)) (.node (ob P 118) (.node (ob P 182) (.node (ob P 310) .nil .nil) .nil) (.node (ot P 246) (.node (ot P 374) .nil .nil) .nil)))) (.node (ot P 30) (.node (ot P 46) (.node (ob P 78) (.node (ob P 142) (.node (ob P 270) .nil .nil) (.node (ot P 398) .nil .nil)) (.node (ot P 206) (.node (ob P 334) .nil .nil) .nil)) (.node (ob P 110) (.node (ob P 174) (.node (ob P 302) .nil .nil) .nil) (.node (ob P 238) (.node (ob P 366) .nil .nil) .nil))) (.node (ob P 62) (.node (ob P 94) (.node (ob P 158) (.node (ot P 286) .nil .nil) (.node (ot P 414) .nil .nil)) (.node (ot P 222) (.node (ob P 350) .nil .nil) .nil)) (.node (ot P 126) (.node (ot P 190) (.node (ot P 318) .nil .nil) .nil) (.node (ob P 254) (.node (ob P 382) .nil .nil) .nil))))))))
noncomputable def H46 : Params → Heap := fun P => Heap.mk (Array.mk [(boot_o_0 P), (boot_o_1 P), (boot_o_2 P), (boot_o_3 P), (boot_o_4 P), (boot_o_5 P), (boot_o_6 P), (boot_o_7 P), (boot_o_8 P), (boot_o_9 P), (boot_o_10 P), (ot P 11), (v12_46 P), (ot P 13), (ot P 14)]) {}
noncomputable def HF : Params → Heap := fun P => Heap.mk (Array.mk ((boot_o_0 P)::(boot_o_1 P)::(ob P 2)::(ob P 3)::(boot_o_4 P)::(boot_o_5 P)::(boot_o_6 P)::(boot_o_7 P)::(boot_o_8 P)::(boot_o_9 P)::(boot_o_10 P)::(ot P 11)::(ot P 12)::(ot P 13)::(ot P 14)::(ob P 15)::(ot P 16)::(ob P 17)::(ob P 18)::(ot P 19)::(ob P 20)::(ob P 21)::(ob P 22)::(ot P 23)::(ot P 24)::(ot P 25)::(ot P 26)::(ot P 27)::(ot P 28)::(ob P 29)::(ot P 30)::(ob P 31)::(ob P 32)::(ot P 33)::(ob P 34)::(ob P 35)::(ob P 36)::(ob P 37)::(ob P 38)::(ob P 39)::(ot P 40)::(ot P 41)::(ob P 42)::(ot P 43)::(ot P 44)::(ot P 45)::(ot P 46)::(ot P 47)::(ot P 48)::(ob P 49)::(ob P 50)::(ob P 51)::(ot P 52)::(ot P 53)::(ob P 54)::(ot P 55)::(ot P 56)::(ot P 57)::(ot P 58)::(ot P 59)::(ot P 60)::(ob P 61)::(ob P 62)::(ob P 63)::(ot P 64)::(ot P 65)::(ob P 66)::(ot P 67)::(ot P 68)::(ot P 69)::(ot P 70)::(ot P 71)::(ot P 72)::(ob P 73)::(ob P 74)::(ob P 75)::(ot P 76)::(ot P 77)::(ob P 78)::(ob P 79)::(ot P 80)::(ob P 81)::(ob P 82)::(ot P 83)::(ob P 84)::(ob P 85)::(ob P 86)::(ob P 87)::(ot P 88)::(ob P 89)::(ob P 90)::(ot P 91)::(ob P 92)::(ob P 93)::(ob P 94)::(ot P 95)::(ob P 96)::(ob P 97)::(ot P 98)::(ob P 99)::(ob P 100)::(ob P 101)::(ot P 102)::(ob P 103)::(ob P 104)::(ot P 105)::(ob P 106)::(ob P 107)::(ob P 108)::(ot P 109)::(ob P 110)::(ob P 111)::(ot P 112)::(ob P 113)::(ob P 114)::(ob P 115)::(ot P 116)::(ob P 117)::(ob P 118)::(ot P 119)::(ob P 120)::(ob P 121)::(ob P 122)::(ot P 123)::(ob P 124)::(ob P 125)::(ot P 126)::(ob P 127)::(ob P 128)::(ob P 129)::(ot P 130)::(ob P 131)::(ob P 132)::(ot P 133)::(ob P 134)::(ob P 135)::(ob P 136)::(ot P 137)::(ob P 138)::(ob P 139)::(ot P 140)::(ob P 141)::(ob P 142)::(ob P 143)::(ot P 144)::(ob P 145)::(ob P 146)::(ot P 147)::(ob P 148)::(ob P 149)::(ob P 150)::(ot P 151)::(ob P 152)::(ob P 153)::(ot P 154)::(ob P 155)::(ob P 156)::(ob P 157)::(ob P 158)::(ot P 159)::(ob P 160)::(ob P 161)::(ot P 162)::(ob P 163)::(ob P 164)::(ot P 165)::(ot P 166)::(ot P 167)::(ot P 168)::(ot P 169)::(ot P 170)::(ot P 171)::(ob P 172)::(ot P 173)::(ob P 174)::(ob P 175)::(ot P 176)::(ob P 177)::(ob P 178)::(ob P 179)::(ot P 180)::(ob P 181)::(ob P 182)::(ot P 183)::(ob P 184)::(ob P 185)::(ob P 186)::(ot P 187)::(ob P 188)::(ob P 189)::(ot P 190)::(ob P 191)::(ob P 192)::(ob P 193)::(ot P 194)::(ob P 195)::(ob P 196)::(ot P 197)::(ob P 198)::(ob P 199)::(ob P 200)::(ob P 201)::(ob P 202)::(ob P 203)::(ob P 204)::(ot P 205)::(ot P 206)::(ob P 207)::(ot P 208)::(ot P 209)::(ot P 210)::(ot P 211)::(ot P 212)::(ot P 213)::(ot P 214)::(ob P 215)::(ob P 216)::(ot P 217)::(ot P 218)::(ob P 219)::(ob P 220)::(ob P 221)::(ot P 222)::(ob P 223)::(ob P 224)::(ot P 225)::(ob P 226)::(ob P 227)::(ob P 228)::(ot P 229)::(ob P 230)::(ob P 231)::(ot P 232)::(ob P 233)::(ob P 234)::(ob P 235)::(ot P 236)::(ob P 237)::(ob P 238)::(ot P 239)::(ob P 240)::(ob P 241)::(ob P 242)::(ot P 243)::(ob P 244)::(ob P 245)::(ot P 246)::(ob P 247)::(ob P 248)::(ob P 249)::(ot P 250)::(ob P 251)::(ob P 252)::(ot P 253)::(ob P 254)::(ob P 255)::(ob P 256)::(ot P 257)::(ot P 258)::(ob P 259)::(ob P 260)::(ob P 261)::(ot P 262)::(ob P 263)::(ob P 264)::(ot P 265)::(ob P 266)::(ob P 267)::(ob P 268)::(ot P 269)::(ob P 270)::(ob P 271)::(ot P 272)::(ob P 273)::(ob P 274)::(ob P 275)::(ob P 276)::(ob P 277)::(ob P 278)::(ob P 279)::(ot P 280)::(ot P 281)::(ot P 282)::(ot P 283)::(ot P 284)::(ot P 285)::(ot P 286)::(ot P 287)::(ot P 288)::(ob P 289)::(ot P 290)::(ob P 291)::(ob P 292)::(ot P 293)::(ob P 294)::(ob P 295)::(ob P 296)::(ot P 297)::(ob P 298)::(ob P 299)::(ot P 300)::(ob P 301)::(ob P 302)::(ob P 303)::(ot P 304)::(ob P 305)::(ob P 306)::(ot P 307)::(ob P 308)::(ob P 309)::(ob P 310)::(ot P 311)::(ob P 312)::(ob P 313)::(ot P 314)::(ob P 315)::(ob P 316)::(ob P 317)::(ot P 318)::(ob P 319)::(ob P 320)::(ot P 321)::(ob P 322)::(ob P 323)::(ob P 324)::(ot P 325)::(ob P 326)::(ob P 327)::(ot P 328)::(ob P 329)::(ob P 330)::(ob P 331)::(ot P 332)::(ob P 333)::(ob P 334)::(ot P 335)::(ob P 336)::(ob P 337)::(ob P 338)::(ob P 339)::(ob P 340)::(ob P 341)::(ob P 342)::(ot P 343)::(ot P 344)::(ob P 345)::(ot P 346)::(ob P 347)::(ob P 348)::(ot P 349)::(ob P 350)::(ob P 351)::(ob P 352)::(ot P 353)::(ob P 354)::(ob P 355)::(ot P 356)::(ob P 357)::(ob P 358)::(ob P 359)::(ot P 360)::(ob P 361)::(ob P 362)::(ot P 363)::(ob P 364)::(ob P 365)::(ob P 366)::(ot P 367)::(ob P 368)::(ob P 369)::(ot P 370)::(ob P 371)::(ob P 372)::(ob P 373)::(ot P 374)::(ob P 375)::(ob P 376)::(ot P 377)::(ob P 378)::(ob P 379)::(ob P 380)::(ot P 381)::(ob P 382)::(ob P 383)::(ot P 384)::(ob P 385)::(ob P 386)::(ob P 387)::(ot P 388)::(ob P 389)::(ob P 390)::(ot P 391)::(ob P 392)::(ob P 393)::(ob P 394)::(ot P 395)::(ob P 396)::(ob P 397)::(ot P 398)::(ob P 399)::(ob P 400)::(ob P 401)::(ot P 402)::(ob P 403)::(ob P 404)::(ot P 405)::(ob P 406)::(ob P 407)::(ob P 408)::(ot P 409)::(ot P 410)::(ob P 411)::(ob P 412)::(ob P 413)::(ot P 414)::(ot P 415)::(ob P 416)::(ob P 417)::[])) {}

noncomputable def as : List Nat := nat_lit 2::nat_lit 3::nat_lit 15::nat_lit 17::nat_lit 18::nat_lit 20::nat_lit 21::nat_lit 22::nat_lit 29::nat_lit 31::nat_lit 32::nat_lit 34::nat_lit 35::nat_lit 36::nat_lit 37::nat_lit 38::nat_lit 39::nat_lit 42::nat_lit 49::nat_lit 50::nat_lit 51::nat_lit 54::nat_lit 61::nat_lit 62::nat_lit 63::nat_lit 66::nat_lit 73::nat_lit 74::nat_lit 75::nat_lit 78::nat_lit 79::nat_lit 81::nat_lit 82::nat_lit 84::nat_lit 85::nat_lit 86::nat_lit 87::nat_lit 89::nat_lit 90::nat_lit 92::nat_lit 93::nat_lit 94::nat_lit 96::nat_lit 97::nat_lit 99::nat_lit 100::nat_lit 101::nat_lit 103::nat_lit 104::nat_lit 106::nat_lit 107::nat_lit 108::nat_lit 110::nat_lit 111::nat_lit 113::nat_lit 114::nat_lit 115::nat_lit 117::nat_lit 118::nat_lit 120::nat_lit 121::nat_lit 122::nat_lit 124::nat_lit 125::nat_lit 127::nat_lit 128::nat_lit 129::nat_lit 131::nat_lit 132::nat_lit 134::nat_lit 135::nat_lit 136::nat_lit 138::nat_lit 139::nat_lit 141::nat_lit 142::nat_lit 143::nat_lit 145::nat_lit 146::nat_lit 148::nat_lit 149::nat_lit 150::nat_lit 152::nat_lit 153::nat_lit 155::nat_lit 156::nat_lit 157::nat_lit 158::nat_lit 160::nat_lit 161::nat_lit 163::nat_lit 164::nat_lit 172::nat_lit 174::nat_lit 175::nat_lit 177::nat_lit 178::nat_lit 179::nat_lit 181::nat_lit 182::nat_lit 184::nat_lit 185::nat_lit 186::nat_lit 188::nat_lit 189::nat_lit 191::nat_lit 192::nat_lit 193::nat_lit 195::nat_lit 196::nat_lit 198::nat_lit 199::nat_lit 200::nat_lit 201::nat_lit 202::nat_lit 203::nat_lit 204::nat_lit 207::nat_lit 215::nat_lit 216::nat_lit 219::nat_lit 220::nat_lit 221::nat_lit 223::nat_lit 224::nat_lit 226::nat_lit 227::nat_lit 228::nat_lit 230::nat_lit 231::nat_lit 233::nat_lit 234::nat_lit 235::nat_lit 237::nat_lit 238::nat_lit 240::nat_lit 241::nat_lit 242::nat_lit 244::nat_lit 245::nat_lit 247::nat_lit 248::nat_lit 249::nat_lit 251::nat_lit 252::nat_lit 254::nat_lit 255::nat_lit 256::nat_lit 259::nat_lit 260::nat_lit 261::nat_lit 263::nat_lit 264::nat_lit 266::nat_lit 267::nat_lit 268::nat_lit 270::nat_lit 271::nat_lit 273::nat_lit 274::nat_lit 275::nat_lit 276::nat_lit 277::nat_lit 278::nat_lit 279::nat_lit 289::nat_lit 291::nat_lit 292::nat_lit 294::nat_lit 295::nat_lit 296::nat_lit 298::nat_lit 299::nat_lit 301::nat_lit 302::nat_lit 303::nat_lit 305::nat_lit 306::nat_lit 308::nat_lit 309::nat_lit 310::nat_lit 312::nat_lit 313::nat_lit 315::nat_lit 316::nat_lit 317::nat_lit 319::nat_lit 320::nat_lit 322::nat_lit 323::nat_lit 324::nat_lit 326::nat_lit 327::nat_lit 329::nat_lit 330::nat_lit 331::nat_lit 333::nat_lit 334::nat_lit 336::nat_lit 337::nat_lit 338::nat_lit 339::nat_lit 340::nat_lit 341::nat_lit 342::nat_lit 345::nat_lit 347::nat_lit 348::nat_lit 350::nat_lit 351::nat_lit 352::nat_lit 354::nat_lit 355::nat_lit 357::nat_lit 358::nat_lit 359::nat_lit 361::nat_lit 362::nat_lit 364::nat_lit 365::nat_lit 366::nat_lit 368::nat_lit 369::nat_lit 371::nat_lit 372::nat_lit 373::nat_lit 375::nat_lit 376::nat_lit 378::nat_lit 379::nat_lit 380::nat_lit 382::nat_lit 383::nat_lit 385::nat_lit 386::nat_lit 387::nat_lit 389::nat_lit 390::nat_lit 392::nat_lit 393::nat_lit 394::nat_lit 396::nat_lit 397::nat_lit 399::nat_lit 400::nat_lit 401::nat_lit 403::nat_lit 404::nat_lit 406::nat_lit 407::nat_lit 408::nat_lit 411::nat_lit 412::nat_lit 413::nat_lit 416::nat_lit 417::[]
noncomputable abbrev pE : Program := PySem.Challenge.rw_pf0192_01.row.toRowW.prog
noncomputable def q : Program := view PySem.Challenge.pw_pf0192_01 [0, 2, 3, 4, 5, 7, 8, 10, 11, 12, 13, 14, 15, 16, 17, 19, 21, 22, 23, 25, 26, 28, 30, 31, 32, 33, 34, 35, 36, 37, 38, 39, 40]
noncomputable def env : Env := { scope := pE.main.scope, locals := mainNs, globals := mainNs, cells := [], code := .ref 13, frame := some 14 }
noncomputable abbrev cE : Code := Code.body (behindTheImports pE) env
noncomputable abbrev p0 : Pos := Pos.mk 0 0 0 0
noncomputable def sts (i n : Nat) : List Stmt := ((behindTheImports pE).drop i).take n
set_option maxRecDepth 100000 in
set_option maxHeartbeats 8000000 in
theorem t_pre : ∀ w : World, (fun os : OsState => topGo treeTable pE w 11 (some (Value.ref 6)) 12 ⟨boot_heap w.params, Array.mk [], boot_drawn, boot_toks, os⟩ (topStub pE)) = fun os => some (⟨H46 w.params, Array.mk [], {}, 187, os⟩, ⟨denote treeTable cE, cE, p0, [topFrame p0]⟩) := by
  intro w
  kernel_rfl
set_option maxRecDepth 100000 in
set_option maxHeartbeats 8000000 in
theorem t_block : ∀ w : World, (fun os : OsState => segRun treeTable pE w 11 (some (Value.ref 6)) 1 1 ⟨H46 w.params, Array.mk [], {}, 187, os⟩ (blockOf (behindTheImports pE) env cE p0 [topFrame p0])) = fun os => some (Flow.next, SharedT.abs ⟨T47 w.params, 15, {}, Array.mk [], {}, 187, os⟩, cE, p0) := by
  rw [PySem.W.Fast.te14374325043358763698, PySem.W.Fast.te14364793385576792824]
  intro w
  kernel_rfl
set_option maxRecDepth 100000 in
set_option maxHeartbeats 8000000 in
theorem t1 : ∀ w : World, (fun os : OsState => segRunT treeTable pE w 11 (some (Value.ref 6)) 1 693 ⟨T47 w.params, 15, {}, Array.mk [], {}, 187, os⟩ (piecesOf (sts 0 5) env cE (Pos.mk 0 0 0 0) [topFrame p0])) = fun os => some (Flow.next, ⟨T108 w.params, 66, {}, Array.mk [], {}, 257, os⟩, cE, Pos.mk 11 0 12 8) := by
  rw [PySem.W.Fast.te10110043849684766642, PySem.W.Fast.te14364793385576792824]
  intro w
  kernel_rfl
set_option maxRecDepth 100000 in
set_option maxHeartbeats 8000000 in
theorem t2 : ∀ w : World, (fun os : OsState => segRunT treeTable pE w 11 (some (Value.ref 6)) 1 390 ⟨T108 w.params, 66, {}, Array.mk [], {}, 257, os⟩ (piecesOf (sts 5 8) env cE (Pos.mk 11 0 12 8) [topFrame p0])) = fun os => some (Flow.next, ⟨T160 w.params, 115, {}, Array.mk [], {}, 322, os⟩, cE, Pos.mk 33 0 34 45) := by
  rw [PySem.W.Fast.te10110043849684766642, PySem.W.Fast.te14364793385576792824]
  intro w
  kernel_rfl
set_option maxRecDepth 100000 in
set_option maxHeartbeats 8000000 in
theorem t3 : ∀ w : World, (fun os : OsState => segRunT treeTable pE w 11 (some (Value.ref 6)) 1 241 ⟨T160 w.params, 115, {}, Array.mk [], {}, 322, os⟩ (piecesOf (sts 13 10) env cE (Pos.mk 33 0 34 45) [topFrame p0])) = fun os => some (Flow.next, ⟨T212 w.params, 165, {}, Array.mk [], {}, 385, os⟩, cE, Pos.mk 56 0 58 52) := by
  rw [PySem.W.Fast.te10110043849684766642, PySem.W.Fast.te14364793385576792824]
  intro w
  kernel_rfl
set_option maxRecDepth 100000 in
set_option maxHeartbeats 8000000 in
theorem t4 : ∀ w : World, (fun os : OsState => segRunT treeTable pE w 11 (some (Value.ref 6)) 1 353 ⟨T212 w.params, 165, {}, Array.mk [], {}, 385, os⟩ (piecesOf (sts 23 3) env cE (Pos.mk 56 0 58 52) [topFrame p0])) = fun os => some (Flow.next, ⟨T257 w.params, 208, {}, Array.mk [], {}, 456, os⟩, cE, Pos.mk 83 0 83 7) := by
  rw [PySem.W.Fast.te10110043849684766642, PySem.W.Fast.te14364793385576792824]
  intro w
  kernel_rfl
set_option maxRecDepth 100000 in
set_option maxHeartbeats 8000000 in
theorem t5 : ∀ w : World, (fun os : OsState => segRunT treeTable pE w 11 (some (Value.ref 6)) 1 489 ⟨T257 w.params, 208, {}, Array.mk [], {}, 456, os⟩ (piecesOf (sts 26 2) env cE (Pos.mk 83 0 83 7) [topFrame p0])) = fun os => some (Flow.next, ⟨T334 w.params, 282, {}, Array.mk [], {}, 555, os⟩, cE, Pos.mk 123 0 123 8) := by
  rw [PySem.W.Fast.te10110043849684766642, PySem.W.Fast.te14364793385576792824]
  intro w
  kernel_rfl
set_option maxRecDepth 100000 in
set_option maxHeartbeats 8000000 in
theorem t6 : ∀ w : World, (fun os : OsState => segRunT treeTable pE w 11 (some (Value.ref 6)) 1 430 ⟨T334 w.params, 282, {}, Array.mk [], {}, 555, os⟩ (piecesOf (sts 28 1) env cE (Pos.mk 123 0 123 8) [topFrame p0])) = fun os => some (Flow.next, ⟨T400 w.params, 345, {}, Array.mk [], {}, 647, os⟩, cE, Pos.mk 124 0 157 85) := by
  rw [PySem.W.Fast.te10110043849684766642, PySem.W.Fast.te14364793385576792824]
  intro w
  kernel_rfl
set_option maxRecDepth 100000 in
set_option maxHeartbeats 8000000 in
theorem t7 : ∀ w : World, (fun os : OsState => segRunT treeTable pE w 11 (some (Value.ref 6)) 1 365 ⟨T400 w.params, 345, {}, Array.mk [], {}, 647, os⟩ (piecesOf (sts 29 12) env cE (Pos.mk 124 0 157 85) [topFrame p0])) = fun os => some (Flow.next, ⟨T475 w.params, 418, {}, Array.mk [], {}, 766, os⟩, cE, Pos.mk 207 0 225 15) := by
  rw [PySem.W.Fast.te10110043849684766642, PySem.W.Fast.te14364793385576792824]
  intro w
  kernel_rfl
set_option maxRecDepth 100000 in
set_option maxHeartbeats 8000000 in
theorem t_fin : ∀ w : World, (fun os : OsState => topRun treeTable pE w 11 (some (Value.ref 6)) 2 (SharedT.abs ⟨T475 w.params, 418, {}, Array.mk [], {}, 766, os⟩) ⟨doneF Flow.next, cE, Pos.mk 207 0 225 15, [topFrame p0]⟩) = fun os => some ⟨HF w.params, Array.mk [], {}, 766, os⟩ := by
  rw [PySem.W.Fast.te14082659384304107361, PySem.W.Fast.te14364793385576792824]
  intro w
  kernel_rfl
set_option maxRecDepth 100000 in
set_option maxHeartbeats 8000000 in
theorem body_eq : sts 0 5 ++ (sts 5 8 ++ (sts 13 10 ++ (sts 23 3 ++ (sts 26 2 ++ (sts 28 1 ++ (sts 29 12 ++ [])))))) = behindTheImports pE := by kernel_rfl
theorem block_join {tb : String → Option Builtin} {p : Program} {w : World} {n₀ : Nat} {ann : Option Value} {env : Env} {pq : Pos} {N : Nat} {s r : Shared} {l b : List Stmt} {c : Code} {p' : Pos} (e : l = b)
    (k : topRun tb p w n₀ ann N s (restOf l env c p' [topFrame pq]) = some r) : topRun tb p w n₀ ann N s (restOf b env c p' [topFrame pq]) = some r := e ▸ k
set_option maxRecDepth 100000 in
set_option maxHeartbeats 8000000 in
theorem run0 (w : World) (os : OsState) : topRun treeTable pE w 11 (some (Value.ref 6)) (12 + (1 + (693 + (390 + (241 + (353 + (489 + (430 + (365 + 2))))))))) ⟨boot_heap w.params, Array.mk [], boot_drawn, boot_toks, os⟩ (topStub pE) = some ⟨HF w.params, Array.mk [], {}, 766, os⟩ :=
  go_top (congrFun (t_pre w) os) (piece_block (congrFun (t_block w) os) (block_join body_eq (piece_app (segRun_of (congrFun (t1 w) os)) (piece_app (segRun_of (congrFun (t2 w) os)) (piece_app (segRun_of (congrFun (t3 w) os)) (piece_app (segRun_of (congrFun (t4 w) os)) (piece_app (segRun_of (congrFun (t5 w) os)) (piece_app (segRun_of (congrFun (t6 w) os)) (piece_app (segRun_of (congrFun (t7 w) os)) (piece_nil (congrFun (t_fin w) os)))))))))))
noncomputable abbrev Xt0 : Shared → Bool := fun s => xlAt q [] s && recOk PySem.Challenge.rw_pf0192_01.row.records s
theorem as_eq : ∀ P, as = (K P).map (·.1) := fun _ => by kernel_rfl
set_option maxRecDepth 100000 in
set_option maxHeartbeats 8000000 in
theorem l1 : ∀ (w : World), (fun os : OsState => (staticsOk (importedModules pE.main.body) (boot_heap w.params) (HF w.params) && namesBound pE (HF w.params) && gensDone ⟨HF w.params, Array.mk [], {}, 766, os⟩ && laidKept (boot_heap w.params) (HF w.params))) = fun _ => true := by
  rw [PySem.W.Fast.te5923862056798008813]
  intro w
  kernel_rfl
set_option maxRecDepth 100000 in
set_option maxHeartbeats 8000000 in
theorem l2 : ∀ (w : World), (fun os : OsState => openSeen q [Str.ofString "fraction"] (importedModules pE.main.body) Xt0 true ⟨HF w.params, Array.mk [], {}, 766, os⟩) = fun _ => openGood q [Str.ofString "fraction"] := by
  rw [PySem.W.Fast.te4187177175401517315, PySem.W.Fast.te5923862056798008813]
  intro w
  kernel_rfl
set_option maxRecDepth 100000 in
set_option maxHeartbeats 8000000 in
theorem l3 : ∀ (w : World), (fun os : OsState => (kHook K as as_eq).obs ⟨HF w.params, Array.mk [], {}, 766, os⟩) = fun _ => (kHook K as as_eq).val w := by
  intro w
  kernel_rfl
set_option maxRecDepth 100000 in
set_option maxHeartbeats 8000000 in
theorem left0 : LeftO pE q [Str.ofString "fraction"] Xt0 (kHook K as as_eq).obs (kHook K as as_eq).val 6034 :=
  LeftO.of_pieces (H₀ := boot_heap) (H₁ := HF) (gs₀ := Array.mk []) (gs₁ := Array.mk []) (d₀ := boot_drawn) (d₁ := {}) (k₀ := boot_toks) (k₁ := 766) (m₀ := 11) (ann := some (Value.ref 6)) (M := 12 + (1 + (693 + (390 + (241 + (353 + (489 + (430 + (365 + 2)))))))))
    (boot_open (by kernel_rfl) (by decide) (fun s => by kernel_rfl)) (fun w => by kernel_rfl) run0 (by decide)
    (fun w => funext fun os => looks_pair (congrFun (l1 w) os) (looks_pair (congrFun (l2 w) os) (congrFun (l3 w) os)))
set_option maxRecDepth 100000 in
set_option maxHeartbeats 8000000 in
theorem said0 : PySem.Challenge.rw_pf0192_01.wellSaid = true := by
  rw [PySem.W.Fast.te9446332074065402090]
  kernel_rfl
noncomputable def dL : DefRec := DefRec.mk (Str.ofString "law") a51 b51 c51 (Pos.mk 207 0 225 15)
theorem hdef : defOf q PySem.Challenge.rw_pf0192_01.row.name = some (dL, []) := by kernel_rfl
theorem hp0 : PySem.Challenge.rw_pf0192_01.row.prog.theDef PySem.Challenge.rw_pf0192_01.row.name = some (dL.params, dL.body, dL.scope) := by kernel_rfl
theorem hk0 : kwWritten? dL.params.kwonlyargs dL.params.kw_defaults = some [] := by kernel_rfl
theorem ok0 : (chainsOk q && opensWell PySem.Challenge.rw_pf0192_01.row.prog && (frees PySem.Challenge.rw_pf0192_01.row.toRowW && PySem.Challenge.rw_pf0192_01.row.within.isEmpty)) = true := by kernel_rfl
theorem bare0 : PySem.Challenge.rw_pf0192_01.row.prog.bare := ⟨rfl, rfl, rfl, rfl, rfl, by decide +kernel⟩
theorem prom0 : PySem.Challenge.rw_pf0192_01.row.toRowW.promised := by w_witness2
set_option maxRecDepth 100000 in
set_option maxHeartbeats 8000000 in
theorem hd (h : WalkO q [Str.ofString "fraction"] (XL q []) (kHook K as as_eq).says PySem.Challenge.rw_pf0192_01.row.toRowW (DefRec.mk (Str.ofString "law") a51 b51 c51 (Pos.mk 207 0 225 15)) [] fun f vs => PySem.call f vs) : PySem.Challenge.rw_pf0192_01.Holds := by
  refine holds_law said0 fun said => ?_
  exact holds_open (r := PySem.Challenge.rw_pf0192_01.row) (q := q) (loose := [Str.ofString "fraction"]) (Xt := Xt0) (XP := XL q []) (Yf := (kHook K as as_eq).obs) (Ya := (kHook K as as_eq).val) (YP := (kHook K as as_eq).says) (N := 6034) (d := dL) (kwd := [])
    left0 (Hook.of _) (Hook.keeps _) (fun s e => xl_of s (Bool.and_eq_true_iff.mp e).1) XL.keeps hdef hp0 hk0 (fun s e => recFacts_of (Bool.and_eq_true_iff.mp e).2) rfl said ok0 bare0 prom0 h
end Hx
theorem fill0 : (fun (_ : OpenLaw) (_ : Params → Frag) => True) PySem.Challenge.rw_pf0192_01 Hx.K := by
  k_fill
  trivial
def Stop (P : Prop) : Prop := P
theorem Stop.mk {P : Prop} (h : P) : Stop P := h
theorem stop {P : Prop} (h : Stop P) : P := h
theorem map2 {a b : Str} {va vb va' vb' : Option Value} {M : Str → Option Value} :
    (fun y => if y = a then va else if y = b then vb else if y = a then va' else if y = b then vb' else M y) = fun y => if y = a then va else if y = b then vb else M y := by
  funext y
  by_cases h1 : y = a
  · simp [h1]
  · by_cases h2 : y = b
    · simp [h2]
    · simp [h1, h2]
theorem nSub {h₀ h : Heap} {L : Addr} {n n' : List (Addr × Obj)} (N : News h₀ L h n) (hs : ∀ p ∈ n', p ∈ n) : News h₀ L h n' := fun p hp => N p (hs p hp)
theorem nTail {h₀ h : Heap} {L : Addr} {n : List (Addr × Obj)} {q : Addr × Obj} (N : News h₀ L h (q :: n)) : News h₀ L h n := fun p hp => N p (.tail _ hp)
theorem fmE {x y : Int} (h : 0 < y) : Int.fmod x y = x % y := Int.fmod_eq_emod_of_nonneg x (Int.le_of_lt h)
theorem fdE {x y : Int} (h : 0 < y) : Int.fdiv x y = x / y := Int.fdiv_eq_ediv_of_nonneg x (Int.le_of_lt h)
theorem gcd_step {f g : Int} (hf : 0 ≤ f) (hg : 0 < g) : Int.gcd g (Int.fmod f g) = Int.gcd f g := by
  rw [fmE hg, Int.gcd_comm f g]
  have h1 : Int.gcd g (f % g) = Nat.gcd g.natAbs (f % g).natAbs := rfl
  have h2 : Int.gcd g f = Nat.gcd g.natAbs f.natAbs := rfl
  rw [h1, h2]
  have e : (f % g).natAbs = f.natAbs % g.natAbs := by
    obtain ⟨a, rfl⟩ := Int.eq_ofNat_of_zero_le hf
    obtain ⟨b, rfl⟩ := Int.eq_ofNat_of_zero_le (Int.le_of_lt hg)
    rfl
  rw [e, Nat.gcd_comm g.natAbs (f.natAbs % g.natAbs), ← Nat.gcd_rec]
theorem gcd_abs (x y : Int) : Int.gcd (if x < 0 then -x else x) y = Int.gcd x y := by
  split
  · exact Int.neg_gcd
  · rfl
/-- the state at a call: what stands below, the frame, the written part, the ledger, room -/
structure Cx (w : World) (mean : ExcName → Option Value) (mg mb : Str → Option Value) (dp un k : Nat) (cs : Scope) (outer : List Env) (A₀ : Around) (base h₀ : Heap) (L : Addr) (m : Str → Option Value) (h : Heap) (news : List (Addr × Obj)) : Prop where
  B : Below A₀ base outer h₀
  F : Fr h₀ L h m
  X : (Hx.K w.params).In h₀
  N : News h₀ L h news
  T : Top Hx.q (looseW Hx.q [Str.ofString "fraction"]) mean mg mb h₀
  hk : cs.kind = .function
  hdp : dp + k < recursionLimit
  hun : un + 8 * k < cLine
abbrev tup (vs : List Value) : Obj := { cls := .type "tuple", data := .seq vs.toArray }
abbrev lsto (vs : List Value) : Obj := { cls := .type "list", data := .seq vs.toArray }
/-- a fraction as the text holds it -/
abbrev rt (q : Rat) (t u : Tok) : Obj := tup [.int q.num t, .int (q.den : Int) u]
/-- num and den are small -/
def Bd (q : Rat) (n d : Nat) : Prop := q.num.natAbs ≤ n ∧ q.den ≤ d
/-- small enough for every step of the text -/
def Sm (q : Rat) : Prop := (-1000000000 ≤ q.num ∧ q.num ≤ 1000000000) ∧ ((q.den : Int) ≤ 30000 ∧ 0 < (q.den : Int))
theorem di1 (x : Int) : Rat.divInt x 1 = (x : Rat) := Rat.num_divInt_den (x : Rat)
theorem den_pos (q : Rat) : 0 < (q.den : Int) := Int.ofNat_lt.mpr q.den_pos
theorem divInt_num {t b : Int} (hb : 0 < b) : (Rat.divInt t b).num = t / ((Int.gcd t b : Nat) : Int) := by
  obtain ⟨n, rfl⟩ := Int.eq_ofNat_of_zero_le (Int.le_of_lt hb)
  have hn : n ≠ 0 := by omega
  rw [Rat.divInt_ofNat, Rat.num_mkRat, if_neg hn]
  have : (n.gcd t.natAbs) = Int.gcd t n := by rw [Nat.gcd_comm]; rfl
  rw [this]
theorem divInt_den {t b : Int} (hb : 0 < b) : (((Rat.divInt t b).den : Nat) : Int) = b / ((Int.gcd t b : Nat) : Int) := by
  obtain ⟨n, rfl⟩ := Int.eq_ofNat_of_zero_le (Int.le_of_lt hb)
  have hn : n ≠ 0 := by omega
  rw [Rat.divInt_ofNat, Rat.den_mkRat, if_neg hn]
  have : (n.gcd t.natAbs) = Int.gcd t n := by rw [Nat.gcd_comm]; rfl
  rw [this]
  exact Int.natCast_ediv _ _
theorem gcd_pos {t b : Int} (hb : 0 < b) : 0 < ((Int.gcd t b : Nat) : Int) := by
  have : 0 < Int.gcd t b := Int.gcd_pos_of_ne_zero_right _ (by omega)
  omega
theorem gcd_le {t b : Int} (hb : 0 < b) : ((Int.gcd t b : Nat) : Int) ≤ b := by
  have := Int.le_of_dvd hb (Int.gcd_dvd_right (a := t) (b := b))
  exact this
theorem rt_of {x y g : Int} {t u : Tok} (hy : 0 < y) (e : g = ((Int.gcd x y : Nat) : Int)) (hg : 0 < g) : ({ cls := .type "tuple", data := .seq [.int (x.fdiv g) t, .int (y.fdiv g) u].toArray } : Obj) = rt (Rat.divInt x y) t u := by
  rw [fdE hg, fdE hg, e, ← divInt_num hy, ← divInt_den hy]
theorem Bd.sm {q : Rat} {n d : Nat} (h : Bd q n d) (hn : n ≤ 1000000000) (hd : d ≤ 30000) : Sm q := by
  have := q.den_pos
  unfold Bd at h
  unfold Sm
  omega
theorem Bd.of {t b : Int} {n d : Nat} (hb : 0 < b) (ht : t.natAbs ≤ n) (hd : b ≤ d) : Bd (Rat.divInt t b) n d := by
  have h1 := divInt_num (t := t) hb
  have h2 := divInt_den (t := t) hb
  have h3 := gcd_pos (t := t) hb
  generalize ((Int.gcd t b : Nat) : Int) = g at h1 h2 h3
  constructor
  · rw [h1]
    refine Nat.le_trans ?_ ht
    exact Int.natAbs_ediv_le_natAbs t g
  · have h4 : b / g ≤ b := Int.ediv_le_self g (Int.le_of_lt hb)
    omega
theorem add_di (a b : Rat) : a + b = Rat.divInt (a.num * (b.den : Int) + b.num * (a.den : Int)) ((a.den : Int) * (b.den : Int)) := by
  rw [Rat.add_def', ← Int.natCast_mul, Rat.divInt_ofNat]
theorem sub_di (a b : Rat) : a - b = Rat.divInt (a.num * (b.den : Int) - b.num * (a.den : Int)) ((a.den : Int) * (b.den : Int)) := by
  rw [Rat.sub_def', ← Int.natCast_mul, Rat.divInt_ofNat]
theorem mul_di (a b : Rat) : a * b = Rat.divInt (a.num * b.num) ((a.den : Int) * (b.den : Int)) := by
  rw [Rat.mul_def', ← Int.natCast_mul, Rat.divInt_ofNat]
theorem div_di (a b : Rat) : a / b = Rat.divInt (a.num * (b.den : Int)) ((a.den : Int) * b.num) := by
  rw [Rat.div_def, Rat.inv_def]
  conv => lhs; lhs; rw [← Rat.num_divInt_den a]
  rw [Rat.divInt_mul_divInt]
theorem natAbs_mul_le {x y : Int} {n m : Nat} (h : x.natAbs ≤ n) (k : y.natAbs ≤ m) : (x * y).natAbs ≤ n * m := by
  rw [Int.natAbs_mul]; exact Nat.mul_le_mul h k
theorem den_mul_le {a b : Rat} {d e : Nat} (h : a.den ≤ d) (k : b.den ≤ e) : ((a.den : Int) * (b.den : Int)) ≤ ((d * e : Nat) : Int) := by
  rw [← Int.natCast_mul]; exact Int.ofNat_le.mpr (Nat.mul_le_mul h k)
theorem den_mul_pos (a b : Rat) : 0 < (a.den : Int) * (b.den : Int) := Int.mul_pos (den_pos a) (den_pos b)
theorem Bd.add {a b : Rat} {n m d e : Nat} (h : Bd a n d) (k : Bd b m e) : Bd (a + b) (n * e + m * d) (d * e) := by
  rw [add_di]
  refine Bd.of (den_mul_pos a b) (Nat.le_trans (Int.natAbs_add_le _ _) (Nat.add_le_add (natAbs_mul_le h.1 ?_) (natAbs_mul_le k.1 ?_))) (den_mul_le h.2 k.2)
  · rw [Int.natAbs_natCast]; exact k.2
  · rw [Int.natAbs_natCast]; exact h.2
theorem Bd.sub {a b : Rat} {n m d e : Nat} (h : Bd a n d) (k : Bd b m e) : Bd (a - b) (n * e + m * d) (d * e) := by
  rw [sub_di]
  refine Bd.of (den_mul_pos a b) (Nat.le_trans (Int.natAbs_sub_le _ _) (Nat.add_le_add (natAbs_mul_le h.1 ?_) (natAbs_mul_le k.1 ?_))) (den_mul_le h.2 k.2)
  · rw [Int.natAbs_natCast]; exact k.2
  · rw [Int.natAbs_natCast]; exact h.2
theorem Bd.mul {a b : Rat} {n m d e : Nat} (h : Bd a n d) (k : Bd b m e) : Bd (a * b) (n * m) (d * e) := by
  rw [mul_di]
  exact Bd.of (den_mul_pos a b) (natAbs_mul_le h.1 k.1) (den_mul_le h.2 k.2)
theorem Bd.div {a b : Rat} {n m d e : Nat} (h : Bd a n d) (k : Bd b m e) (hp : 0 < b.num) : Bd (a / b) (n * e) (d * m) := by
  rw [div_di]
  refine Bd.of (Int.mul_pos (den_pos a) hp) (natAbs_mul_le h.1 (by rw [Int.natAbs_natCast]; exact k.2)) ?_
  have : (((a.den : Int) * b.num).natAbs) ≤ d * m := natAbs_mul_le (by rw [Int.natAbs_natCast]; exact h.2) k.1
  have h2 := Int.mul_pos (den_pos a) hp
  omega
theorem Bd.floor {a : Rat} {n d : Nat} (h : Bd a n d) : Bd (a.floor : Rat) n 1 := by
  refine ⟨?_, Nat.le_refl _⟩
  show a.floor.natAbs ≤ n
  rw [Rat.floor_def]
  exact Nat.le_trans (Int.natAbs_ediv_le_natAbs _ _) h.1
theorem Bd.int {x : Int} {n : Nat} (h : x.natAbs ≤ n) : Bd (x : Rat) n 1 := ⟨h, Nat.le_refl _⟩
theorem den_lim {a b : Rat} (ha : Sm a) (hb : Sm b) : (a.den : Int) * (b.den : Int) < 1000000000 := by
  have := Int.mul_le_mul ha.2.1 hb.2.1 (Int.le_of_lt (den_pos b)) (by decide)
  omega
/-- (2 x + 1) / 2 -/
def mid (x : Int) : Rat := ⟨2 * x + 1, 2, by decide, by
  unfold Nat.Coprime
  have h : (2 * x + 1).natAbs % 2 = 1 := by omega
  rw [Nat.gcd_comm, Nat.gcd_rec, h]; decide⟩
theorem Bd.mid {x : Int} {n : Nat} (h : (2 * x + 1).natAbs ≤ n) : Bd (mid x) n 2 := ⟨h, Nat.le_refl _⟩
theorem divlim {a b : Rat} (ha : Sm a) (hb : b.num ≤ 30000) (hp : 0 < b.num) : (a.den : Int) * b.num < 1000000000 := by
  have := Int.mul_le_mul ha.2.1 hb (Int.le_of_lt hp) (by decide)
  omega
theorem nDrop {h₀ h : Heap} {L : Addr} {n : List (Addr × Obj)} {q r : Addr × Obj} (N : News h₀ L h (q :: r :: n)) : News h₀ L h (q :: n) := fun p hp => by
  rcases List.mem_cons.mp hp with rfl | hp
  · exact N _ (.head _)
  · exact N _ (.tail _ (.tail _ hp))
theorem lTail {n : List (Addr × Obj)} {q : Addr × Obj} {r : Addr} (l : ∀ p ∈ q :: n, p.1 < r) : ∀ p ∈ n, p.1 < r := fun p hp => l p (.tail _ hp)
theorem ltNe {n : List (Addr × Obj)} {r : Addr} (l : ∀ p ∈ n, p.1 < r) : ∀ p ∈ n, p.1 ≠ r := fun p hp => Nat.ne_of_lt (l p hp)
theorem nPick {h₀ h : Heap} {L : Addr} {l n : List (Addr × Obj)} {q : Addr × Obj} (N : News h₀ L h l) (hm : q ∈ l) (N' : News h₀ L h n) : News h₀ L h (q :: n) := fun p hp => by
  rcases List.mem_cons.mp hp with rfl | hp
  · exact N _ hm
  · exact N' _ hp
abbrev ent (w : World) (n : String) (t : Tok) (v : Value) : DictEntry := ⟨PyData.keyHash w.params (Str.ofString n), .str (Str.ofString n) t, v⟩
/-- a matrix of the text's, its six fractions -/
def MatIn (w : World) (news : List (Addr × Obj)) (x : Addr) (a b c d e f : Rat) : Prop :=
  ∃ dx ra rb rc rd re rf t1 t2 t3 t4 t5 t6 ta ua tb ub tc uc td ud te ue tf uf,
    (x, instObj 340 dx) ∈ news ∧ (dx, dictOf [ent w "a" t1 (.ref ra), ent w "b" t2 (.ref rb), ent w "c" t3 (.ref rc), ent w "d" t4 (.ref rd), ent w "e" t5 (.ref re), ent w "f" t6 (.ref rf)] 6) ∈ news ∧
    (ra, rt a ta ua) ∈ news ∧ (rb, rt b tb ub) ∈ news ∧ (rc, rt c tc uc) ∈ news ∧ (rd, rt d td ud) ∈ news ∧ (re, rt e te ue) ∈ news ∧ (rf, rt f tf uf) ∈ news
theorem MatIn.mono {w : World} {n n' : List (Addr × Obj)} {x : Addr} {a b c d e f : Rat} (M : MatIn w n x a b c d e f) (s : ∀ p ∈ n, p ∈ n') : MatIn w n' x a b c d e f := by
  obtain ⟨dx, ra, rb, rc, rd, re, rf, o1, o2, o3, o4, o5, o6, ta, ua, tb, ub, tc, uc, td, ud, te, ue, tf, uf, hx, hdx, ha, hb, hc, hd, he, hf⟩ := M
  exact ⟨dx, ra, rb, rc, rd, re, rf, o1, o2, o3, o4, o5, o6, ta, ua, tb, ub, tc, uc, td, ud, te, ue, tf, uf, s _ hx, s _ hdx, s _ ha, s _ hb, s _ hc, s _ hd, s _ he, s _ hf⟩
/-- a pattern of the text's -/
def PatIn (w : World) (news : List (Addr × Obj)) (x cv mt : Addr) (W H : Rat) : Prop :=
  ∃ dx rw rh t1 t2 t3 t4 tw uw th uh,
    (x, instObj 202 dx) ∈ news ∧ (dx, dictOf [ent w "canvas" t1 (.ref cv), ent w "inverse" t2 (.ref mt), ent w "width" t3 (.ref rw), ent w "height" t4 (.ref rh)] 4) ∈ news ∧ (rw, rt W tw uw) ∈ news ∧ (rh, rt H th uh) ∈ news
abbrev lstn (vs : List Value) (n : Nat) : Obj := { cls := .type "list", data := .seq vs.toArray n }
/-- what stands in the cell of number k, once the cells below n are painted -/
def CellIs (news : List (Addr × Obj)) (n k : Nat) (v : Value) : Prop :=
  (k < n → ∃ p t1 t2 t3 t4, v = .ref p ∧ (p, tup [.int ((k : Int) + 1) t1, .int 0 t2, .int 0 t3, .int 255 t4]) ∈ news) ∧ (¬ k < n → v = .ref 207)
/-- the rows of a canvas -/
def RowsIn (news : List (Addr × Obj)) (Wd n : Nat) (rows : List Addr) : Prop :=
  ∀ j r, rows[j]? = some r → ∃ (cols : List Value) (k : Nat), (r, lstn cols k) ∈ news ∧ cols.length = Wd ∧ ∀ i v, cols[i]? = some v → CellIs news n (j * Wd + i) v
/-- a canvas of the text's, its cells below n painted -/
def CanIn (w : World) (news : List (Addr × Obj)) (c : Addr) (Wd Ht : Nat) (left top : Int) (n : Nat) : Prop :=
  ∃ dc l rows k t1 t2 t3 t4 t5 i1 i2 i3 i4,
    (c, instObj 277 dc) ∈ news ∧ (dc, dictOf [ent w "width" t1 (.int (Wd : Int) i1), ent w "height" t2 (.int (Ht : Int) i2), ent w "left" t3 (.int left i3), ent w "top" t4 (.int top i4), ent w "cells" t5 (.ref l)] 5) ∈ news ∧
    (l, lstn (rows.map Value.ref) k) ∈ news ∧ rows.length = Ht ∧ (l :: rows).Nodup ∧ RowsIn news Wd n rows
theorem RowsIn.mono {n n' : List (Addr × Obj)} {Wd k : Nat} {rows : List Addr} (R : RowsIn n Wd k rows) (s : ∀ p ∈ n, p ∈ n') : RowsIn n' Wd k rows := by
  intro j r hj
  obtain ⟨cols, k', h1, h2, h3⟩ := R j r hj
  refine ⟨cols, k', s _ h1, h2, fun i v hi => ?_⟩
  obtain ⟨c1, c2⟩ := h3 i v hi
  refine ⟨fun hk => ?_, c2⟩
  obtain ⟨p, t1, t2, t3, t4, e, hp⟩ := c1 hk
  exact ⟨p, t1, t2, t3, t4, e, s _ hp⟩
theorem CanIn.mono {w : World} {n n' : List (Addr × Obj)} {c : Addr} {Wd Ht : Nat} {left top : Int} {k : Nat} (C : CanIn w n c Wd Ht left top k) (s : ∀ p ∈ n, p ∈ n') : CanIn w n' c Wd Ht left top k := by
  obtain ⟨dc, l, rows, k', t1, t2, t3, t4, t5, i1, i2, i3, i4, h1, h2, h3, h4, h5, h6⟩ := C
  exact ⟨dc, l, rows, k', t1, t2, t3, t4, t5, i1, i2, i3, i4, s _ h1, s _ h2, s _ h3, h4, h5, h6.mono s⟩
theorem PatIn.mono {w : World} {n n' : List (Addr × Obj)} {x cv mt : Addr} {W H : Rat} (P : PatIn w n x cv mt W H) (s : ∀ p ∈ n, p ∈ n') : PatIn w n' x cv mt W H := by
  obtain ⟨dx, rw, rh, t1, t2, t3, t4, tw, uw, th, uh, h1, h2, h3, h4⟩ := P
  exact ⟨dx, rw, rh, t1, t2, t3, t4, tw, uw, th, uh, s _ h1, s _ h2, s _ h3, s _ h4⟩
theorem item_list {prog : Program} {w : World} {A : Around} {E : Value → Shared → Prop} {s : Shared} {value slice : PySem.Expr} {l : Addr} {vs : List Value} {n : Nat} {k : Int} {u : Tok} {v : Value} {Q : Value → Shared → Prop} {h₀ : Heap} {L : Addr} {news : List (Addr × Obj)}
    (N : News h₀ L s.heap news) (hm : (l, lstn vs n) ∈ news) (h0 : 0 ≤ k) (hhi : k < 2 ^ 63) (hx : vs[k.toNat]? = some v) (h : Q v s)
    (hs : subscripted slice false (.ref l) (.int k u) = operate [.ref l, .int k u] (getItem (.ref l) (.int k u)) := by with_unfolding_all rfl) :
    wpAny (model prog w) A (subscriptTail value slice (.ref l) (.int k u)) Q E s :=
  item_litK ⟨_, (N _ hm).1, rfl, n, rfl⟩ h0 hhi hx h hs
theorem addsub {l : Int} {i : Nat} : l + (i : Int) - l = (i : Int) := by omega
theorem Bd.mono {q : Rat} {n d n' d' : Nat} (h : Bd q n d) (hn : n ≤ n') (hd : d ≤ d') : Bd q n' d' := ⟨Nat.le_trans h.1 hn, Nat.le_trans h.2 hd⟩
/-- the place of a dot, cut -/
def cutR (a b : Rat) (many : Int) : Int := ((a - ((a / b).floor : Rat) * b) * (many : Rat) / b).floor
theorem floor_quo (X : Int) {Y : Int} (hY : 0 < Y) : ((X : Rat) / (Y : Rat)).floor = X / Y := by
  have hY' : (0 : Rat) < (Y : Rat) := Rat.intCast_pos.mpr hY
  have key : ∀ x : Int, ((X : Rat) / (Y : Rat)).floor < x ↔ X / Y < x := fun x => by
    rw [Rat.floor_lt_iff, Rat.div_lt_iff hY', ← Rat.intCast_mul, Rat.intCast_lt_intCast, Int.ediv_lt_iff_lt_mul hY]
  have h1 := key (X / Y)
  have h2 := key ((X : Rat) / (Y : Rat)).floor
  omega
theorem quo_eq (n p q k : Int) (hk : (k : Rat) ≠ 0) (hp : (p : Rat) ≠ 0) (hq : (q : Rat) ≠ 0) : ((n : Rat) / (k : Rat)) / ((p : Rat) / (q : Rat)) = ((n * q : Int) : Rat) / ((k * p : Int) : Rat) := by
  rw [Rat.intCast_mul, Rat.intCast_mul]
  grind
theorem cut_alg (a b F m : Rat) (hb : b ≠ 0) : (a - F * b) * m / b = (a / b - F) * m := by
  grind
theorem ne0 {x : Int} (h : 0 < x) : (x : Rat) ≠ 0 := fun e => by
  have := Rat.intCast_inj.mp (e.trans (by rfl : (0 : Rat) = ((0 : Int) : Rat)))
  omega
theorem quo_ne {p q : Int} (hp : 0 < p) (hq : 0 < q) : (p : Rat) / (q : Rat) ≠ 0 := by
  have h1 := ne0 hp
  have h2 := ne0 hq
  intro e
  exact h1 (by grind)
theorem rest_quo (X Y m : Int) (hY : 0 < Y) : ((X : Rat) / (Y : Rat) - ((X / Y : Int) : Rat)) * (m : Rat) = ((X % Y * m : Int) : Rat) / (Y : Rat) := by
  have h := ne0 hY
  have e : (X : Rat) = (Y : Rat) * ((X / Y : Int) : Rat) + ((X % Y : Int) : Rat) := by
    rw [← Rat.intCast_mul, ← Rat.intCast_add, Int.mul_ediv_add_emod]
  rw [Rat.intCast_mul]
  generalize ((X / Y : Int) : Rat) = F at e ⊢
  generalize ((X % Y : Int) : Rat) = R at e ⊢
  grind
theorem cut_eq {o p q many : Int} (hp : 0 < p) (hq : 0 < q) : cutR (Rat.divInt o 4) (Rat.divInt p q) many = o * q % (4 * p) * many / (4 * p) := by
  have h4 : (0 : Int) < 4 * p := by omega
  unfold cutR
  rw [Rat.divInt_eq_div, Rat.divInt_eq_div, cut_alg _ _ _ _ (quo_ne hp hq), quo_eq o p q 4 (ne0 (by decide)) (ne0 hp) (ne0 hq), floor_quo _ h4, rest_quo _ _ _ h4, floor_quo _ h4]
theorem mid_div (x : Int) : mid x = Rat.divInt (2 * x + 1) 2 := by
  unfold mid
  rw [Rat.mk_eq_divInt]
  rfl
theorem place_eq (A C F x y : Int) : Rat.divInt A 2 * mid x + Rat.divInt C 2 * mid y + Rat.divInt F 2 = Rat.divInt (A * (2 * x + 1) + C * (2 * y + 1) + 2 * F) 4 := by
  rw [mid_div, mid_div]
  simp only [Rat.divInt_eq_div, Rat.intCast_add, Rat.intCast_mul]
  have e2 : ((2 : Int) : Rat) = 2 := rfl
  have e4 : ((4 : Int) : Rat) = 4 := rfl
  have e1 : ((1 : Int) : Rat) = 1 := rfl
  rw [e2, e4, e1]
  grind
theorem num_pos {p q : Int} (hp : 0 < p) (hq : 0 < q) : 0 < (Rat.divInt p q).num := by
  rw [divInt_num hq]
  have h1 : ((Int.gcd p q : Nat) : Int) ≤ p := Int.le_of_dvd hp (Int.gcd_dvd_left ..)
  exact Int.ediv_pos_of_pos_of_dvd hp (Int.le_of_lt (gcd_pos hq)) (Int.gcd_dvd_left ..)
theorem num_npos {p q : Int} (hp : p ≤ 0) (hq : 0 < q) : (Rat.divInt p q).num ≤ 0 := by
  rw [divInt_num hq]
  have := Int.ediv_le_ediv (gcd_pos (t := p) hq) hp
  rwa [Int.zero_ediv] at this
theorem side_bd {p q : Int} (h1 : 0 < q) (h2 : q ≤ 7) (h3 : -11 ≤ p) (h4 : p ≤ 11) : Bd (Rat.divInt p q) 11 7 := Bd.of h1 (by omega) (by omega)
theorem cut_range {X Y many : Int} (hY : 0 < Y) (hm : 0 < many) : ∃ i : Nat, X % Y * many / Y = (i : Int) ∧ (i : Int) < many := by
  have h1 := Int.emod_nonneg X (Int.ne_of_gt hY)
  have h2 := Int.emod_lt_of_pos X hY
  have h3 : 0 ≤ X % Y * many / Y := Int.ediv_nonneg (Int.mul_nonneg h1 (Int.le_of_lt hm)) (Int.le_of_lt hY)
  have h4 : X % Y * many / Y < many := by
    refine Int.ediv_lt_of_lt_mul hY ?_
    rw [Int.mul_comm many Y]
    exact Int.mul_lt_mul_of_pos_right h2 hm
  obtain ⟨i, hi⟩ := Int.eq_ofNat_of_zero_le h3
  exact ⟨i, hi, by omega⟩
theorem within_eq {t b p q : Int} (hb : 0 < b) (hp : 0 < p) (hq : 0 < q) : Rat.divInt t b - ((Rat.divInt t b / Rat.divInt p q).floor : Rat) * Rat.divInt p q = Rat.divInt (t * q % (b * p)) (q * b) := by
  have hY : 0 < b * p := Int.mul_pos hb hp
  simp only [Rat.divInt_eq_div]
  rw [quo_eq t p q b (ne0 hb) (ne0 hp) (ne0 hq), floor_quo _ hY]
  have e : ((t * q : Int) : Rat) = ((b * p : Int) : Rat) * ((t * q / (b * p) : Int) : Rat) + ((t * q % (b * p) : Int) : Rat) := by
    rw [← Rat.intCast_mul, ← Rat.intCast_add, Int.mul_ediv_add_emod]
  generalize ((t * q / (b * p) : Int) : Rat) = F at e ⊢
  generalize ((t * q % (b * p) : Int) : Rat) = R at e ⊢
  rw [Rat.intCast_mul, Rat.intCast_mul] at e
  rw [Rat.intCast_mul]
  have h1 := ne0 hb
  have h2 := ne0 hp
  have h3 := ne0 hq
  grind
section
variable {w : World} {mean : ExcName → Option Value} {mg mb : Str → Option Value} {dp un : Nat} {gd : Option (List Code)} {cn : Str} {cs : Scope} {ca : Addr} {ccd : Value} {cl : List (Str × Addr)} {outer : List Env} {A₀ : Around} {base h₀ : Heap} {L : Addr} {m : Str → Option Value} {news : List (Addr × Obj)} {s : Shared} {Q E : Value → Shared → Prop}
local macro_rules | `(tactic| walk_at "mine enter") => `(tactic| ((case kA => exact rfl); (case kF => exact rfl); (case kK => assumption); (case k1 => k_asm); (case k2 => k_asm); (case k3 => k_asm); (case k4 => k_asm); (case k5 => k_asm); (case k6 => k_is); (case k7 => k_is); (case k8 => exact Nat.lt_of_le_of_lt (Nat.le_add_right _ _) (by assumption)); (case k9 => exact BindsTo.of_eq rfl); (case c5 => decide); (case kB => exact locs rfl); (case c2 => exact rfl); (case c3 => exact rfl); (case c4 => exact rfl); k_whole; intro g' L' h' FG' F' N' B' X' T'; (try dsimp only); (try k_fold)))
local macro_rules | `(tactic| walk_at "exec While Compare cons nil") => `(tactic| refine stop ?_)
local macro_rules | `(tactic| walk_at "WhileStep2") => `(tactic| refine stop ?_)
theorem cd_ok {x y : Int} {tx ty : Tok} (C : Cx w mean mg mb dp un 1 cs outer A₀ base h₀ L m s.heap news)
  (hy : 0 < y) (hy2 : y < 1000000000)
  (ret : ∀ (g : Int) t h' tk', g = ((Int.gcd x y : Nat) : Int) → 0 < g → g ≤ y → Fr h₀ L h' m → News h₀ L h' news → Q (.int g t) { s with heap := h', toks := tk' }) :
  wpAny (model PySem.Challenge.pw_pf0192_01 w) (ktrTop dp un gd cn cs L ca ccd cl outer) (call (.ref 85) [.int x tx, .int y ty]) Q E s := by
  obtain ⟨B, F, X, N, T, hk, hdp, hun⟩ := C
  refine wpAny_call ?_
  k_dflt (refine' code_def (binds := [(Str.ofString "one", Value.int x tx), (Str.ofString "other", Value.int y ty)]) ?k1 ?k2 ?k3 ?k4 ?k5 ?kA ?kF ?kK ?k6 ?k7 ?k8 ?k9 ?kB ?_ ?c2 ?c3 ?c4 ?c5; walk_at "mine enter")
  k_steps
  refine Stop.mk ?_
  rename_i F' N'
  refine While_inv2 (fun n m nx => ∃ (f g : Int) (tf tg : Tok), nx = news ∧ g.toNat = n ∧ (0 ≤ f ∧ 0 ≤ g ∧ g < 1000000000 ∧ Int.gcd f g = Int.gcd x y) ∧ m = fun z => if z = Str.ofString "first" then some (.int f tf) else if z = Str.ofString "second" then some (.int g tg) else [(Str.ofString "one", Value.int x tx), (Str.ofString "other", Value.int y ty)].reverse.lookup z) F' (nTail N') ⟨_, _, _, _, rfl, rfl, ⟨by split <;> omega, by omega, by omega, gcd_abs x y⟩, rfl⟩ ?_ (by passes_own)
  rintro n m₁ nx h₁ tk₁ F₁ N₁ ⟨f, g, tf, tg, rfl, rfl, ⟨hf, hg, hg2, hgcd⟩, rfl⟩
  k_steps
  · refine Stop.mk ?_
    rename_i F' N'
    refine ⟨_, _, _, _, _, rfl, F', nTail N', ?_, _, _, _, _, rfl, rfl, ⟨?_, ?_, ?_, (gcd_step hf (by assumption)).trans hgcd⟩, map2⟩
    all_goals (have h7 := fmE (x := f) (by assumption : 0 < g); have h5 := Int.emod_lt_of_pos f (by assumption : 0 < g); have h6 := Int.emod_nonneg f (by omega : g ≠ 0); omega)
  · have e : g = 0 := by omega
    subst e
    have e2 : f = ((Int.gcd x y : Nat) : Int) := by rw [← hgcd, Int.gcd_zero_right]; omega
    exact ret _ _ _ _ e2 (e2 ▸ gcd_pos hy) (e2 ▸ gcd_le hy) (by assumption) (by assumption)
end
section
local macro_rules | `(tactic| walk_at "mine enter") => `(tactic| ((case kA => exact rfl); (case kF => exact rfl); (case kK => assumption); (case k1 => k_asm); (case k2 => k_asm); (case k3 => k_asm); (case k4 => k_asm); (case k5 => k_asm); (case k6 => k_is); (case k7 => k_is); (case k8 => first | exact Nat.lt_of_le_of_lt (Nat.le_add_right _ _) (by assumption) | (refine Nat.lt_of_le_of_lt ?_ (by assumption); (try simp only [depth_under_make, depth_deeper, depth_in1]); (try dsimp only [ktrTop]); omega)); (case k9 => first | exact BindsTo.of_eq rfl | exact binds_K (by k_in) rfl (by k_is) rfl rfl rfl); (case c5 => decide); (case kB => exact locs rfl); (case c2 => exact rfl); (case c3 => exact rfl); (case c4 => exact rfl); k_whole; intro g' L' h' FG' F' N' B' X' T'; (try dsimp only); (try k_fold)))
local macro_rules | `(tactic| walk_at "mine enterC") => `(tactic| ((case kA => exact rfl); (case kF => exact rfl); (case kK => assumption); (case k1 => k_asm); (case k2 => k_asm); (case k3 => k_asm); (case k4 => k_asm); (case k5 => k_asm); (case k6 => k_is); (case k7 => k_is); (case k8 => first | exact Nat.lt_of_le_of_lt (Nat.le_add_right _ _) (by assumption) | (refine Nat.lt_of_le_of_lt ?_ (by assumption); (try simp only [depth_under_make, depth_deeper, depth_in1]); (try dsimp only [ktrTop]); omega)); (case k9 => first | exact BindsTo.of_eq rfl | exact binds_K (by k_in) rfl (by k_is) rfl rfl rfl); (case kB => exact rfl); (case kD => decide +kernel); (case c2 => exact rfl); (case c3 => exact rfl); (case c4 => exact rfl); k_whole; intro g' L' h' tk' cells' FG' F' N' Y' B' X' T' l1; (try k_lt l1); k_cells Y'; (try simp only [List.cons_append, List.nil_append] at N'); (try dsimp only); (try k_fold)))
local macro_rules | `(tactic| walk_at "mine cx") => `(tactic| (refine' Cx.mk ?B ?F ?X ?N ?T ?hk ?hdp ?hun; (case B => k_asm); (case F => k_asm); (case X => k_asm); (case N => k_asm); (case T => k_asm); (case hk => first | exact rfl | assumption); (case hdp => first | (refine Nat.lt_of_le_of_lt ?_ (by assumption); (try simp only [depth_deeper]); (try dsimp only [ktrTop]); omega) | ((try simp only [depth_deeper]); decide)); (case hun => first | (refine Nat.lt_of_le_of_lt ?_ (by assumption); (try simp only [units_deeper]); (try dsimp only [ktrTop]); omega) | ((try simp only [units_deeper]); decide))))
local macro_rules | `(tactic| walk_at "mine ar") => `(tactic| first | with_reducible assumption | omega)
local macro_rules | `(tactic| walk_at "mine sub") => `(tactic| (intro p9 q9; (simp only [List.mem_cons] at q9 ⊢); (rcases q9 with q9 | q9) <;> simp only [q9, true_or, or_true]))
local macro_rules | `(tactic| k_all) => `(tactic| first | with_reducible assumption | exact ltNe (by with_reducible assumption))
local macro_rules | `(tactic| k_mem) => `(tactic| first | exact List.mem_cons_self | ktr_member | (refine List.mem_cons_of_mem _ ?_; k_mem))
local macro_rules | `(tactic| walk_at "mine up") => `(tactic| (intro p9 q9; simp only [List.mem_cons, q9, or_true]))
local macro_rules | `(tactic| walk_at "mine in") => `(tactic| first | with_reducible assumption | exact MatIn.mono (by with_reducible assumption) (by walk_at "mine up") | exact CanIn.mono (by with_reducible assumption) (by walk_at "mine up") | exact PatIn.mono (by with_reducible assumption) (by walk_at "mine up"))
local macro_rules | `(tactic| walk_at "mine as") => `(tactic| exact addsub)
local macro_rules | `(tactic| walk_at "mine mem") => `(tactic| k_mem)
local macro_rules | `(tactic| walk_at "subscriptTail Name Constant ref int") => `(tactic| (k_here; k_dflt (refine' item_list ?N ?m ?a ?b ?c ?_ ?d; (case N => k_asm); (case m => k_mem); (case c => rfl); (case a => decide); (case b => decide); (case d => with_unfolding_all rfl); k_whole)))
local macro_rules | `(tactic| walk_at "subscriptTail Name Constant ref int") => `(tactic| (k_here; k_dflt (refine' topTup_K ?F ?X ?l ?a ?b ?c ?d ?_; (case F => k_asm); (case X => k_asm); (case l => k_is); (case a => decide); (case b => decide); (case c => rfl); (case d => rfl); k_whole)))
local macro_rules | `(tactic| walk_at "subscriptTail Name Constant ref int") => `(tactic| (k_here; k_dflt (refine' item_tupleT ?t ?a ?b ?c ?d ?_; (case t => exact News.isTup (by k_asm) (by k_mem)); (case a => decide); (case b => decide); (case c => rfl); (case d => rfl); k_whole)))
local macro_rules | `(tactic| walk_at "subscriptTail") => `(tactic| (k_here; k_dflt (refine' item_list ?N ?m ?a ?b ?c ?_ ?d; (case N => k_asm); (case m => k_mem); (case c => first | with_reducible assumption | rfl); (case a => omega); (case b => omega); (case d => with_unfolding_all rfl); k_whole)))
local macro_rules | `(tactic| walk_at "exec Raise some none") => `(tactic| (exfalso; omega))
section
variable {w : World} {mean : ExcName → Option Value} {mg mb : Str → Option Value} {dp un : Nat} {gd : Option (List Code)} {cn : Str} {cs : Scope} {ca : Addr} {ccd : Value} {cl : List (Str × Addr)} {outer : List Env} {A₀ : Around} {base h₀ : Heap} {L : Addr} {m : Str → Option Value} {news : List (Addr × Obj)} {s : Shared} {Q E : Value → Shared → Prop}
local macro_rules | `(tactic| walk_at "call ref cons nil") => `(tactic| (k_here; k_dflt (refine' cd_ok ?C ?p0 ?p1 ?_; (case C => walk_at "mine cx"); (case p0 => walk_at "mine ar"); (case p1 => walk_at "mine ar"); intro g9 t9 h9 tk9 e9 p9 q9 F9 N9; (try dsimp only); (try k_fold))))
local macro_rules | `(tactic| walk_at "call ref") => `(tactic| (k_here; k_dflt (refine' cd_ok ?C ?p0 ?p1 ?_; (case C => walk_at "mine cx"); (case p0 => walk_at "mine ar"); (case p1 => walk_at "mine ar"); intro g9 t9 h9 tk9 e9 p9 q9 F9 N9; (try dsimp only); (try k_fold))))
theorem frac_ok {x y : Int} {tx ty : Tok} (C : Cx w mean mg mb dp un 2 cs outer A₀ base h₀ L m s.heap news)
  (hy : 0 < y) (hy2 : y < 1000000000)
  (ret : ∀ r t u h' tk', Fr h₀ L h' m → News h₀ L h' ((r, rt (Rat.divInt x y) t u) :: news) → (∀ p ∈ news, p.1 < r) → Q (.ref r) { s with heap := h', toks := tk' }) :
  wpAny (model PySem.Challenge.pw_pf0192_01 w) (ktrTop dp un gd cn cs L ca ccd cl outer) (call (.ref 93) [.int x tx, .int y ty]) Q E s := by
  obtain ⟨B, F, X, N, T, hk, hdp, hun⟩ := C
  refine wpAny_call ?_
  k_dflt (refine' code_def (binds := [(Str.ofString "top", Value.int x tx), (Str.ofString "bottom", Value.int y ty)]) ?k1 ?k2 ?k3 ?k4 ?k5 ?kA ?kF ?kK ?k6 ?k7 ?k8 ?k9 ?kB ?_ ?c2 ?c3 ?c4 ?c5; walk_at "mine enter")
  k_steps
  (rename News _ _ _ _ => N9); (rename _ = ((Int.gcd _ _ : Nat) : Int) => e9); (rename (0 : Int) < _ => p9)
  rw [rt_of hy e9 p9] at N9
  exact ret _ _ _ _ _ (by assumption) N9 (by assumption)
theorem frac1_ok {x : Int} {tx : Tok} (C : Cx w mean mg mb dp un 2 cs outer A₀ base h₀ L m s.heap news)
  (ret : ∀ r t u h' tk', Fr h₀ L h' m → News h₀ L h' ((r, rt (x : Rat) t u) :: news) → (∀ p ∈ news, p.1 < r) → Q (.ref r) { s with heap := h', toks := tk' }) :
  wpAny (model PySem.Challenge.pw_pf0192_01 w) (ktrTop dp un gd cn cs L ca ccd cl outer) (call (.ref 93) [.int x tx]) Q E s := by
  obtain ⟨B, F, X, N, T, hk, hdp, hun⟩ := C
  refine wpAny_call ?_
  k_dflt (refine' code_def (binds := [(Str.ofString "top", Value.int x tx), (Str.ofString "bottom", Value.int 1 288)]) ?k1 ?k2 ?k3 ?k4 ?k5 ?kA ?kF ?kK ?k6 ?k7 ?k8 ?k9 ?kB ?_ ?c2 ?c3 ?c4 ?c5; walk_at "mine enter")
  k_steps
  (rename News _ _ _ _ => N9); (rename _ = ((Int.gcd _ _ : Nat) : Int) => e9); (rename (0 : Int) < _ => p9)
  rw [rt_of (by decide) e9 p9, di1] at N9
  exact ret _ _ _ _ _ (by assumption) N9 (by assumption)
end
section
variable {w : World} {mean : ExcName → Option Value} {mg mb : Str → Option Value} {dp un : Nat} {gd : Option (List Code)} {cn : Str} {cs : Scope} {ca : Addr} {ccd : Value} {cl : List (Str × Addr)} {outer : List Env} {A₀ : Around} {base h₀ : Heap} {L : Addr} {m : Str → Option Value} {news : List (Addr × Obj)} {s : Shared} {Q E : Value → Shared → Prop}
local macro_rules | `(tactic| walk_at "call ref cons nil") => `(tactic| (k_here; k_dflt (refine' frac_ok ?C ?p0 ?p1 ?_; (case C => walk_at "mine cx"); (case p0 => walk_at "mine ar"); (case p1 => walk_at "mine ar"); intro r9 t9 u9 h9 tk9 F9 N9 l9; (try dsimp only); (try k_fold))))
local macro_rules | `(tactic| walk_at "call ref") => `(tactic| (k_here; k_dflt (refine' frac_ok ?C ?p0 ?p1 ?_; (case C => walk_at "mine cx"); (case p0 => walk_at "mine ar"); (case p1 => walk_at "mine ar"); intro r9 t9 u9 h9 tk9 F9 N9 l9; (try dsimp only); (try k_fold))))
theorem plus_ok {a b : Rat} {x y : Addr} {ta ua tb ub : Tok} (C : Cx w mean mg mb dp un 3 cs outer A₀ base h₀ L m s.heap news) (ha : (x, rt a ta ua) ∈ news) (hb : (y, rt b tb ub) ∈ news) (sa : Sm a) (sb : Sm b)
  (ret : ∀ r t u h' tk', Fr h₀ L h' m → News h₀ L h' ((r, rt (a + b) t u) :: news) → (∀ p ∈ news, p.1 < r) → Q (.ref r) { s with heap := h', toks := tk' }) :
  wpAny (model PySem.Challenge.pw_pf0192_01 w) (ktrTop dp un gd cn cs L ca ccd cl outer) (call (.ref 100) [.ref x, .ref y]) Q E s := by
  have hp := den_mul_pos a b
  have hl := den_lim sa sb
  obtain ⟨⟨a1, a2⟩, a3, a4⟩ := sa
  obtain ⟨⟨b1, b2⟩, b3, b4⟩ := sb
  obtain ⟨B, F, X, N, T, hk, hdp, hun⟩ := C
  refine wpAny_call ?_
  k_dflt (refine' code_def (binds := [(Str.ofString "a", Value.ref x), (Str.ofString "b", Value.ref y)]) ?k1 ?k2 ?k3 ?k4 ?k5 ?kA ?kF ?kK ?k6 ?k7 ?k8 ?k9 ?kB ?_ ?c2 ?c3 ?c4 ?c5; walk_at "mine enter")
  k_steps
  (rename News _ _ _ _ => N9)
  rw [← add_di] at N9
  exact ret _ _ _ _ _ (by assumption) N9 (by assumption)
theorem minus_ok {a b : Rat} {x y : Addr} {ta ua tb ub : Tok} (C : Cx w mean mg mb dp un 3 cs outer A₀ base h₀ L m s.heap news) (ha : (x, rt a ta ua) ∈ news) (hb : (y, rt b tb ub) ∈ news) (sa : Sm a) (sb : Sm b)
  (ret : ∀ r t u h' tk', Fr h₀ L h' m → News h₀ L h' ((r, rt (a - b) t u) :: news) → (∀ p ∈ news, p.1 < r) → Q (.ref r) { s with heap := h', toks := tk' }) :
  wpAny (model PySem.Challenge.pw_pf0192_01 w) (ktrTop dp un gd cn cs L ca ccd cl outer) (call (.ref 107) [.ref x, .ref y]) Q E s := by
  have hp := den_mul_pos a b
  have hl := den_lim sa sb
  obtain ⟨⟨a1, a2⟩, a3, a4⟩ := sa
  obtain ⟨⟨b1, b2⟩, b3, b4⟩ := sb
  obtain ⟨B, F, X, N, T, hk, hdp, hun⟩ := C
  refine wpAny_call ?_
  k_dflt (refine' code_def (binds := [(Str.ofString "a", Value.ref x), (Str.ofString "b", Value.ref y)]) ?k1 ?k2 ?k3 ?k4 ?k5 ?kA ?kF ?kK ?k6 ?k7 ?k8 ?k9 ?kB ?_ ?c2 ?c3 ?c4 ?c5; walk_at "mine enter")
  k_steps
  (rename News _ _ _ _ => N9)
  rw [← sub_di] at N9
  exact ret _ _ _ _ _ (by assumption) N9 (by assumption)
theorem times_ok {a b : Rat} {x y : Addr} {ta ua tb ub : Tok} (C : Cx w mean mg mb dp un 3 cs outer A₀ base h₀ L m s.heap news) (ha : (x, rt a ta ua) ∈ news) (hb : (y, rt b tb ub) ∈ news) (sa : Sm a) (sb : Sm b)
  (ret : ∀ r t u h' tk', Fr h₀ L h' m → News h₀ L h' ((r, rt (a * b) t u) :: news) → (∀ p ∈ news, p.1 < r) → Q (.ref r) { s with heap := h', toks := tk' }) :
  wpAny (model PySem.Challenge.pw_pf0192_01 w) (ktrTop dp un gd cn cs L ca ccd cl outer) (call (.ref 114) [.ref x, .ref y]) Q E s := by
  have hp := den_mul_pos a b
  have hl := den_lim sa sb
  obtain ⟨⟨a1, a2⟩, a3, a4⟩ := sa
  obtain ⟨⟨b1, b2⟩, b3, b4⟩ := sb
  obtain ⟨B, F, X, N, T, hk, hdp, hun⟩ := C
  refine wpAny_call ?_
  k_dflt (refine' code_def (binds := [(Str.ofString "a", Value.ref x), (Str.ofString "b", Value.ref y)]) ?k1 ?k2 ?k3 ?k4 ?k5 ?kA ?kF ?kK ?k6 ?k7 ?k8 ?k9 ?kB ?_ ?c2 ?c3 ?c4 ?c5; walk_at "mine enter")
  k_steps
  (rename News _ _ _ _ => N9)
  rw [← mul_di] at N9
  exact ret _ _ _ _ _ (by assumption) N9 (by assumption)
theorem divided_ok {a b : Rat} {x y : Addr} {ta ua tb ub : Tok} (C : Cx w mean mg mb dp un 3 cs outer A₀ base h₀ L m s.heap news) (ha : (x, rt a ta ua) ∈ news) (hb : (y, rt b tb ub) ∈ news) (sa : Sm a) (sb : Sm b) (hn : 0 < b.num) (hn2 : b.num ≤ 30000)
  (ret : ∀ r t u h' tk', Fr h₀ L h' m → News h₀ L h' ((r, rt (a / b) t u) :: news) → (∀ p ∈ news, p.1 < r) → Q (.ref r) { s with heap := h', toks := tk' }) :
  wpAny (model PySem.Challenge.pw_pf0192_01 w) (ktrTop dp un gd cn cs L ca ccd cl outer) (call (.ref 121) [.ref x, .ref y]) Q E s := by
  have hp := Int.mul_pos (den_pos a) hn
  have hl := divlim sa hn2 hn
  obtain ⟨⟨a1, a2⟩, a3, a4⟩ := sa
  obtain ⟨⟨b1, b2⟩, b3, b4⟩ := sb
  obtain ⟨B, F, X, N, T, hk, hdp, hun⟩ := C
  refine wpAny_call ?_
  k_dflt (refine' code_def (binds := [(Str.ofString "a", Value.ref x), (Str.ofString "b", Value.ref y)]) ?k1 ?k2 ?k3 ?k4 ?k5 ?kA ?kF ?kK ?k6 ?k7 ?k8 ?k9 ?kB ?_ ?c2 ?c3 ?c4 ?c5; walk_at "mine enter")
  k_steps
  (rename News _ _ _ _ => N9)
  rw [← div_di] at N9
  exact ret _ _ _ _ _ (by assumption) N9 (by assumption)

theorem floor_ok {a : Rat} {x : Addr} {ta ua : Tok} (C : Cx w mean mg mb dp un 1 cs outer A₀ base h₀ L m s.heap news) (ha : (x, rt a ta ua) ∈ news) (sa : Sm a)
  (ret : ∀ t h' tk', Fr h₀ L h' m → News h₀ L h' news → Q (.int a.floor t) { s with heap := h', toks := tk' }) :
  wpAny (model PySem.Challenge.pw_pf0192_01 w) (ktrTop dp un gd cn cs L ca ccd cl outer) (call (.ref 149) [.ref x]) Q E s := by
  obtain ⟨⟨a1, a2⟩, a3, a4⟩ := sa
  have e : a.num.fdiv (a.den : Int) = a.floor := by rw [fdE a4, Rat.floor_def]
  obtain ⟨B, F, X, N, T, hk, hdp, hun⟩ := C
  refine wpAny_call ?_
  k_dflt (refine' code_def (binds := [(Str.ofString "a", Value.ref x)]) ?k1 ?k2 ?k3 ?k4 ?k5 ?kA ?kF ?kK ?k6 ?k7 ?k8 ?k9 ?kB ?_ ?c2 ?c3 ?c4 ?c5; walk_at "mine enter")
  k_steps
  rw [e]
  exact ret _ _ _ (by assumption) (by assumption)
theorem mid_ok {x y : Int} {tx ty : Tok} (C : Cx w mean mg mb dp un 1 cs outer A₀ base h₀ L m s.heap news)
  (ret : ∀ r r1 r2 t1 u1 t2 u2 h' tk', Fr h₀ L h' m → News h₀ L h' ((r, tup [.ref r1, .ref r2]) :: (r2, rt (mid y) t2 u2) :: (r1, rt (mid x) t1 u1) :: news) → Q (.ref r) { s with heap := h', toks := tk' }) :
  wpAny (model PySem.Challenge.pw_pf0192_01 w) (ktrTop dp un gd cn cs L ca ccd cl outer) (call (.ref 156) [.int x tx, .int y ty]) Q E s := by
  obtain ⟨B, F, X, N, T, hk, hdp, hun⟩ := C
  refine wpAny_call ?_
  k_dflt (refine' code_def (binds := [(Str.ofString "x", Value.int x tx), (Str.ofString "y", Value.int y ty)]) ?k1 ?k2 ?k3 ?k4 ?k5 ?kA ?kF ?kK ?k6 ?k7 ?k8 ?k9 ?kB ?_ ?c2 ?c3 ?c4 ?c5; walk_at "mine enter")
  k_steps
  exact ret _ _ _ _ _ _ _ _ _ (by assumption) (by assumption)
theorem sign_ok {x : Int} {a : Addr} {tx ty : Tok} (C : Cx w mean mg mb dp un 1 cs outer A₀ base h₀ L m s.heap news) (ha : (a, tup [.int x tx, .int 1 ty]) ∈ news)
  (ret : ∀ v t h' tk', (v ≤ 0 ↔ x ≤ 0) → Fr h₀ L h' m → News h₀ L h' news → Q (.int v t) { s with heap := h', toks := tk' }) :
  wpAny (model PySem.Challenge.pw_pf0192_01 w) (ktrTop dp un gd cn cs L ca ccd cl outer) (call (.ref 135) [.ref a]) Q E s := by
  obtain ⟨B, F, X, N, T, hk, hdp, hun⟩ := C
  refine wpAny_call ?_
  k_dflt (refine' code_def (binds := [(Str.ofString "a", Value.ref a)]) ?k1 ?k2 ?k3 ?k4 ?k5 ?kA ?kF ?kK ?k6 ?k7 ?k8 ?k9 ?kB ?_ ?c2 ?c3 ?c4 ?c5; walk_at "mine enter")
  k_steps
  all_goals exact ret _ _ _ _ (by omega) (by assumption) (by assumption)
local macro_rules | `(tactic| walk_at "call ref cons nil") => `(tactic| (k_here; k_dflt (refine' sign_ok ?C ?p0 ?_; (case C => walk_at "mine cx"); (case p0 => walk_at "mine mem"); intro v9 t9 h9 tk9 e9 F9 N9; (try dsimp only); (try k_fold))))
local macro_rules | `(tactic| walk_at "call ref") => `(tactic| (k_here; k_dflt (refine' sign_ok ?C ?p0 ?_; (case C => walk_at "mine cx"); (case p0 => walk_at "mine mem"); intro v9 t9 h9 tk9 e9 F9 N9; (try dsimp only); (try k_fold))))
theorem cmp0_ok {a : Rat} {x : Addr} {ta ua : Tok} (C : Cx w mean mg mb dp un 2 cs outer A₀ base h₀ L m s.heap news) (ha : (x, rt a ta ua) ∈ news) (sa : Sm a)
  (ret : ∀ v t h' tk', (v ≤ 0 ↔ a.num ≤ 0) → Fr h₀ L h' m → News h₀ L h' news → Q (.int v t) { s with heap := h', toks := tk' }) :
  wpAny (model PySem.Challenge.pw_pf0192_01 w) (ktrTop dp un gd cn cs L ca ccd cl outer) (call (.ref 142) [.ref x, .ref 78]) Q E s := by
  obtain ⟨⟨a1, a2⟩, a3, a4⟩ := sa
  obtain ⟨B, F, X, N, T, hk, hdp, hun⟩ := C
  refine wpAny_call ?_
  k_dflt (refine' code_def (binds := [(Str.ofString "a", Value.ref x), (Str.ofString "b", Value.ref 78)]) ?k1 ?k2 ?k3 ?k4 ?k5 ?kA ?kF ?kK ?k6 ?k7 ?k8 ?k9 ?kB ?_ ?c2 ?c3 ?c4 ?c5; walk_at "mine enter")
  k_steps
  (rename News _ _ _ _ => N9)
  exact ret _ _ _ _ (by omega) (by assumption) (nTail N9)
end
section
variable {w : World} {mean : ExcName → Option Value} {mg mb : Str → Option Value} {dp un : Nat} {gd : Option (List Code)} {cn : Str} {cs : Scope} {ca : Addr} {ccd : Value} {cl : List (Str × Addr)} {outer : List Env} {A₀ : Around} {base h₀ : Heap} {L : Addr} {m : Str → Option Value} {news : List (Addr × Obj)} {s : Shared} {Q E : Value → Shared → Prop}
local macro_rules | `(tactic| walk_at "call ref cons nil") => `(tactic| (k_here; k_dflt (refine' frac1_ok ?C  ?_; (case C => walk_at "mine cx");  intro r9 t9 u9 h9 tk9 F9 N9 l9; (try dsimp only); (try k_fold))))
local macro_rules | `(tactic| walk_at "call ref") => `(tactic| (k_here; k_dflt (refine' frac1_ok ?C  ?_; (case C => walk_at "mine cx");  intro r9 t9 u9 h9 tk9 F9 N9 l9; (try dsimp only); (try k_fold))))
local macro_rules | `(tactic| walk_at "call ref cons nil") => `(tactic| (k_here; k_dflt (refine' plus_ok ?C ?p0 ?p1 ?p2 ?p3 ?_; (case C => walk_at "mine cx"); (case p0 => walk_at "mine mem"); (case p1 => walk_at "mine mem"); (case p2 => walk_at "mine ar"); (case p3 => walk_at "mine ar"); intro r9 t9 u9 h9 tk9 F9 N9 l9; (try dsimp only); (try k_fold))))
local macro_rules | `(tactic| walk_at "call ref") => `(tactic| (k_here; k_dflt (refine' plus_ok ?C ?p0 ?p1 ?p2 ?p3 ?_; (case C => walk_at "mine cx"); (case p0 => walk_at "mine mem"); (case p1 => walk_at "mine mem"); (case p2 => walk_at "mine ar"); (case p3 => walk_at "mine ar"); intro r9 t9 u9 h9 tk9 F9 N9 l9; (try dsimp only); (try k_fold))))
local macro_rules | `(tactic| walk_at "call ref cons nil") => `(tactic| (k_here; k_dflt (refine' minus_ok ?C ?p0 ?p1 ?p2 ?p3 ?_; (case C => walk_at "mine cx"); (case p0 => walk_at "mine mem"); (case p1 => walk_at "mine mem"); (case p2 => walk_at "mine ar"); (case p3 => walk_at "mine ar"); intro r9 t9 u9 h9 tk9 F9 N9 l9; (try dsimp only); (try k_fold))))
local macro_rules | `(tactic| walk_at "call ref") => `(tactic| (k_here; k_dflt (refine' minus_ok ?C ?p0 ?p1 ?p2 ?p3 ?_; (case C => walk_at "mine cx"); (case p0 => walk_at "mine mem"); (case p1 => walk_at "mine mem"); (case p2 => walk_at "mine ar"); (case p3 => walk_at "mine ar"); intro r9 t9 u9 h9 tk9 F9 N9 l9; (try dsimp only); (try k_fold))))
local macro_rules | `(tactic| walk_at "call ref cons nil") => `(tactic| (k_here; k_dflt (refine' times_ok ?C ?p0 ?p1 ?p2 ?p3 ?_; (case C => walk_at "mine cx"); (case p0 => walk_at "mine mem"); (case p1 => walk_at "mine mem"); (case p2 => walk_at "mine ar"); (case p3 => walk_at "mine ar"); intro r9 t9 u9 h9 tk9 F9 N9 l9; (try dsimp only); (try k_fold))))
local macro_rules | `(tactic| walk_at "call ref") => `(tactic| (k_here; k_dflt (refine' times_ok ?C ?p0 ?p1 ?p2 ?p3 ?_; (case C => walk_at "mine cx"); (case p0 => walk_at "mine mem"); (case p1 => walk_at "mine mem"); (case p2 => walk_at "mine ar"); (case p3 => walk_at "mine ar"); intro r9 t9 u9 h9 tk9 F9 N9 l9; (try dsimp only); (try k_fold))))
local macro_rules | `(tactic| walk_at "call ref cons nil") => `(tactic| (k_here; k_dflt (refine' divided_ok ?C ?p0 ?p1 ?p2 ?p3 ?p4 ?p5 ?_; (case C => walk_at "mine cx"); (case p0 => walk_at "mine mem"); (case p1 => walk_at "mine mem"); (case p2 => walk_at "mine ar"); (case p3 => walk_at "mine ar"); (case p4 => walk_at "mine ar"); (case p5 => walk_at "mine ar"); intro r9 t9 u9 h9 tk9 F9 N9 l9; (try dsimp only); (try k_fold))))
local macro_rules | `(tactic| walk_at "call ref") => `(tactic| (k_here; k_dflt (refine' divided_ok ?C ?p0 ?p1 ?p2 ?p3 ?p4 ?p5 ?_; (case C => walk_at "mine cx"); (case p0 => walk_at "mine mem"); (case p1 => walk_at "mine mem"); (case p2 => walk_at "mine ar"); (case p3 => walk_at "mine ar"); (case p4 => walk_at "mine ar"); (case p5 => walk_at "mine ar"); intro r9 t9 u9 h9 tk9 F9 N9 l9; (try dsimp only); (try k_fold))))
local macro_rules | `(tactic| walk_at "call ref cons nil") => `(tactic| (k_here; k_dflt (refine' floor_ok ?C ?p0 ?p1 ?_; (case C => walk_at "mine cx"); (case p0 => walk_at "mine mem"); (case p1 => walk_at "mine ar"); intro t9 h9 tk9 F9 N9; (try dsimp only); (try k_fold))))
local macro_rules | `(tactic| walk_at "call ref") => `(tactic| (k_here; k_dflt (refine' floor_ok ?C ?p0 ?p1 ?_; (case C => walk_at "mine cx"); (case p0 => walk_at "mine mem"); (case p1 => walk_at "mine ar"); intro t9 h9 tk9 F9 N9; (try dsimp only); (try k_fold))))
theorem within_ok {a b : Rat} {x y : Addr} {ta ua tb ub : Tok} (C : Cx w mean mg mb dp un 4 cs outer A₀ base h₀ L m s.heap news) (ha : (x, rt a ta ua) ∈ news) (hb : (y, rt b tb ub) ∈ news) (sa : Bd a 1408 32) (sb : Bd b 11 7) (hp : 0 < b.num)
  (ret : ∀ r t u h' tk', Fr h₀ L h' m → News h₀ L h' ((r, rt (a - ((a / b).floor : Rat) * b) t u) :: news) → (∀ p ∈ news, p.1 < r) → Q (.ref r) { s with heap := h', toks := tk' }) :
  wpAny (model PySem.Challenge.pw_pf0192_01 w) (ktrTop dp un gd cn cs L ca ccd cl outer) (call (.ref 164) [.ref x, .ref y]) Q E s := by
  have b1 := Bd.div sa sb hp
  have b2 := Bd.floor b1
  have b3 := Bd.mul b2 sb
  have s1 := sa.sm (by decide) (by decide)
  have s2 := sb.sm (by decide) (by decide)
  have s3 := b1.sm (by decide) (by decide)
  have s4 := b2.sm (by decide) (by decide)
  have s5 := b3.sm (by decide) (by decide)
  have hn : b.num ≤ 30000 := by have := sb.1; omega
  obtain ⟨B, F, X, N, T, hk, hdp, hun⟩ := C
  refine wpAny_call ?_
  k_dflt (refine' code_def (binds := [(Str.ofString "place", Value.ref x), (Str.ofString "size", Value.ref y)]) ?k1 ?k2 ?k3 ?k4 ?k5 ?kA ?kF ?kK ?k6 ?k7 ?k8 ?k9 ?kB ?_ ?c2 ?c3 ?c4 ?c5; walk_at "mine enter")
  k_steps
  (rename News _ _ _ _ => N9)
  (rename ∀ p ∈ _, Prod.fst p < _ => l9)
  exact ret _ _ _ _ _ (by assumption) (nDrop (nDrop (nDrop N9))) (lTail (lTail (lTail l9)))
end
section
variable {w : World} {mean : ExcName → Option Value} {mg mb : Str → Option Value} {dp un : Nat} {gd : Option (List Code)} {cn : Str} {cs : Scope} {ca : Addr} {ccd : Value} {cl : List (Str × Addr)} {outer : List Env} {A₀ : Around} {base h₀ : Heap} {L : Addr} {m : Str → Option Value} {news : List (Addr × Obj)} {s : Shared} {Q E : Value → Shared → Prop}
local macro_rules | `(tactic| walk_at "call ref cons nil") => `(tactic| (k_here; k_dflt (refine' plus_ok ?C ?p0 ?p1 ?p2 ?p3 ?_; (case C => walk_at "mine cx"); (case p0 => walk_at "mine mem"); (case p1 => walk_at "mine mem"); (case p2 => walk_at "mine ar"); (case p3 => walk_at "mine ar"); intro r9 t9 u9 h9 tk9 F9 N9 l9; (try dsimp only); (try k_fold))))
local macro_rules | `(tactic| walk_at "call ref") => `(tactic| (k_here; k_dflt (refine' plus_ok ?C ?p0 ?p1 ?p2 ?p3 ?_; (case C => walk_at "mine cx"); (case p0 => walk_at "mine mem"); (case p1 => walk_at "mine mem"); (case p2 => walk_at "mine ar"); (case p3 => walk_at "mine ar"); intro r9 t9 u9 h9 tk9 F9 N9 l9; (try dsimp only); (try k_fold))))
local macro_rules | `(tactic| walk_at "call ref cons nil") => `(tactic| (k_here; k_dflt (refine' times_ok ?C ?p0 ?p1 ?p2 ?p3 ?_; (case C => walk_at "mine cx"); (case p0 => walk_at "mine mem"); (case p1 => walk_at "mine mem"); (case p2 => walk_at "mine ar"); (case p3 => walk_at "mine ar"); intro r9 t9 u9 h9 tk9 F9 N9 l9; (try dsimp only); (try k_fold))))
local macro_rules | `(tactic| walk_at "call ref") => `(tactic| (k_here; k_dflt (refine' times_ok ?C ?p0 ?p1 ?p2 ?p3 ?_; (case C => walk_at "mine cx"); (case p0 => walk_at "mine mem"); (case p1 => walk_at "mine mem"); (case p2 => walk_at "mine ar"); (case p3 => walk_at "mine ar"); intro r9 t9 u9 h9 tk9 F9 N9 l9; (try dsimp only); (try k_fold))))
theorem matrix_new {a b c d e f : Rat} {ra rb rc rd re rf : Addr} {ta ua tb ub tc uc td ud te ue tf uf : Tok} (C : Cx w mean mg mb dp un 3 cs outer A₀ base h₀ L m s.heap news)
  (ha : (ra, rt a ta ua) ∈ news) (hb : (rb, rt b tb ub) ∈ news) (hc : (rc, rt c tc uc) ∈ news) (hd : (rd, rt d td ud) ∈ news) (he : (re, rt e te ue) ∈ news) (hf : (rf, rt f tf uf) ∈ news)
  (ret : ∀ r news' h' tk', Fr h₀ L h' m → News h₀ L h' news' → (∀ p ∈ news, p ∈ news') → MatIn w news' r a b c d e f → Q (.ref r) { s with heap := h', toks := tk' }) :
  wpAny (model PySem.Challenge.pw_pf0192_01 w) (ktrTop dp un gd cn cs L ca ccd cl outer) (call (.ref 340) [.ref ra, .ref rb, .ref rc, .ref rd, .ref re, .ref rf]) Q E s := by
  obtain ⟨B, F, X, N, T, hk, hdp, hun⟩ := C
  k_dflt (refine' call_cls ?k1 ?k2 ?k3 ?k4 ?k5 ?k6 ?_; (case k1 => k_asm); (case k2 => k_asm); (case k3 => k_asm); (case k4 => k_is); (case k5 => k_is); (case k6 => k_is); k_whole)
  intro x1 d1 h1 F1 N1 l1 l2
  k_lt2 l2
  k_dflt (refine' code_def (binds := [(Str.ofString "self", Value.ref x1), (Str.ofString "a", Value.ref ra), (Str.ofString "b", Value.ref rb), (Str.ofString "c", Value.ref rc), (Str.ofString "d", Value.ref rd), (Str.ofString "e", Value.ref re), (Str.ofString "f", Value.ref rf)]) ?k1 ?k2 ?k3 ?k4 ?k5 ?kA ?kF ?kK ?k6 ?k7 ?k8 ?k9 ?kB ?_ ?c2 ?c3 ?c4 ?c5; walk_at "mine enter")
  k_steps
  exact ret _ _ _ _ (by assumption) (by assumption) (fun p hp => .tail _ (.tail _ hp)) ⟨_, _, _, _, _, _, _, _, _, _, _, _, _, _, _, _, _, _, _, _, _, _, _, _, _, .head _, .tail _ (.head _), .tail _ (.tail _ ha), .tail _ (.tail _ hb), .tail _ (.tail _ hc), .tail _ (.tail _ hd), .tail _ (.tail _ he), .tail _ (.tail _ hf)⟩
theorem vector_ok {a b c d e f X' Y' : Rat} {x p p1 p2 : Addr} {t1 u1 t2 u2 : Tok} (C : Cx w mean mg mb dp un 4 cs outer A₀ base h₀ L m s.heap news) (M : MatIn w news x a b c d e f) (hp : (p, tup [.ref p1, .ref p2]) ∈ news) (h1 : (p1, rt X' t1 u1) ∈ news) (h2 : (p2, rt Y' t2 u2) ∈ news)
  (sa : Bd a 4 2) (sb : Bd b 4 2) (sc : Bd c 4 2) (sd : Bd d 4 2) (sX : Bd X' 21 2) (sY : Bd Y' 21 2)
  (ret : ∀ r r1 r2 t1 u1 t2 u2 h' tk', Fr h₀ L h' m → News h₀ L h' ((r, tup [.ref r1, .ref r2]) :: (r1, rt (a * X' + c * Y') t1 u1) :: (r2, rt (b * X' + d * Y') t2 u2) :: news) → Q (.ref r) { s with heap := h', toks := tk' }) :
  wpAny (model PySem.Challenge.pw_pf0192_01 w) (ktrTop dp un gd cn cs L ca ccd cl outer) (call (.ref 309) [.ref x, .ref p]) Q E s := by
  have m1 := Bd.mul sa sX
  have m2 := Bd.mul sc sY
  have m3 := Bd.mul sb sX
  have m4 := Bd.mul sd sY
  have q1 := sa.sm (by decide) (by decide)
  have q2 := sb.sm (by decide) (by decide)
  have q3 := sc.sm (by decide) (by decide)
  have q4 := sd.sm (by decide) (by decide)
  have q5 := sX.sm (by decide) (by decide)
  have q6 := sY.sm (by decide) (by decide)
  have q7 := m1.sm (by decide) (by decide)
  have q8 := m2.sm (by decide) (by decide)
  have q9 := m3.sm (by decide) (by decide)
  have q10 := m4.sm (by decide) (by decide)
  obtain ⟨dx, ra, rb, rc, rd, re, rf, o1, o2, o3, o4, o5, o6, ta, ua, tb, ub, tc, uc, td, ud, te, ue, tf, uf, hx, hdx, ha, hb, hc, hd, he, hf⟩ := M
  obtain ⟨B, F, X, N, T, hk, hdp, hun⟩ := C
  refine wpAny_call ?_
  k_dflt (refine' code_def (binds := [(Str.ofString "self", Value.ref x), (Str.ofString "p", Value.ref p)]) ?k1 ?k2 ?k3 ?k4 ?k5 ?kA ?kF ?kK ?k6 ?k7 ?k8 ?k9 ?kB ?_ ?c2 ?c3 ?c4 ?c5; walk_at "mine enter")
  k_steps
  (rename News _ _ _ _ => N9)
  exact ret _ _ _ _ _ _ _ _ _ (by assumption) (nPick N9 (by k_mem) (nPick N9 (by k_mem) (nPick N9 (by k_mem) (nSub N9 (fun p hp => by simp only [List.mem_cons, hp, or_true])))))
end
section
variable {w : World} {mean : ExcName → Option Value} {mg mb : Str → Option Value} {dp un : Nat} {gd : Option (List Code)} {cn : Str} {cs : Scope} {ca : Addr} {ccd : Value} {cl : List (Str × Addr)} {outer : List Env} {A₀ : Around} {base h₀ : Heap} {L : Addr} {m : Str → Option Value} {news : List (Addr × Obj)} {s : Shared} {Q E : Value → Shared → Prop}
local macro_rules | `(tactic| walk_at "call ref cons nil") => `(tactic| (k_here; k_dflt (refine' plus_ok ?C ?p0 ?p1 ?p2 ?p3 ?_; (case C => walk_at "mine cx"); (case p0 => walk_at "mine mem"); (case p1 => walk_at "mine mem"); (case p2 => walk_at "mine ar"); (case p3 => walk_at "mine ar"); intro r9 t9 u9 h9 tk9 F9 N9 l9; (try dsimp only); (try k_fold))))
local macro_rules | `(tactic| walk_at "call ref") => `(tactic| (k_here; k_dflt (refine' plus_ok ?C ?p0 ?p1 ?p2 ?p3 ?_; (case C => walk_at "mine cx"); (case p0 => walk_at "mine mem"); (case p1 => walk_at "mine mem"); (case p2 => walk_at "mine ar"); (case p3 => walk_at "mine ar"); intro r9 t9 u9 h9 tk9 F9 N9 l9; (try dsimp only); (try k_fold))))
local macro_rules | `(tactic| walk_at "call ref cons nil") => `(tactic| (k_here; k_dflt (refine' times_ok ?C ?p0 ?p1 ?p2 ?p3 ?_; (case C => walk_at "mine cx"); (case p0 => walk_at "mine mem"); (case p1 => walk_at "mine mem"); (case p2 => walk_at "mine ar"); (case p3 => walk_at "mine ar"); intro r9 t9 u9 h9 tk9 F9 N9 l9; (try dsimp only); (try k_fold))))
local macro_rules | `(tactic| walk_at "call ref") => `(tactic| (k_here; k_dflt (refine' times_ok ?C ?p0 ?p1 ?p2 ?p3 ?_; (case C => walk_at "mine cx"); (case p0 => walk_at "mine mem"); (case p1 => walk_at "mine mem"); (case p2 => walk_at "mine ar"); (case p3 => walk_at "mine ar"); intro r9 t9 u9 h9 tk9 F9 N9 l9; (try dsimp only); (try k_fold))))
local macro_rules | `(tactic| walk_at "call ref cons nil") => `(tactic| (k_here; k_dflt (refine' divided_ok ?C ?p0 ?p1 ?p2 ?p3 ?p4 ?p5 ?_; (case C => walk_at "mine cx"); (case p0 => walk_at "mine mem"); (case p1 => walk_at "mine mem"); (case p2 => walk_at "mine ar"); (case p3 => walk_at "mine ar"); (case p4 => walk_at "mine ar"); (case p5 => walk_at "mine ar"); intro r9 t9 u9 h9 tk9 F9 N9 l9; (try dsimp only); (try k_fold))))
local macro_rules | `(tactic| walk_at "call ref") => `(tactic| (k_here; k_dflt (refine' divided_ok ?C ?p0 ?p1 ?p2 ?p3 ?p4 ?p5 ?_; (case C => walk_at "mine cx"); (case p0 => walk_at "mine mem"); (case p1 => walk_at "mine mem"); (case p2 => walk_at "mine ar"); (case p3 => walk_at "mine ar"); (case p4 => walk_at "mine ar"); (case p5 => walk_at "mine ar"); intro r9 t9 u9 h9 tk9 F9 N9 l9; (try dsimp only); (try k_fold))))
local macro_rules | `(tactic| walk_at "call ref cons nil") => `(tactic| (k_here; k_dflt (refine' floor_ok ?C ?p0 ?p1 ?_; (case C => walk_at "mine cx"); (case p0 => walk_at "mine mem"); (case p1 => walk_at "mine ar"); intro t9 h9 tk9 F9 N9; (try dsimp only); (try k_fold))))
local macro_rules | `(tactic| walk_at "call ref") => `(tactic| (k_here; k_dflt (refine' floor_ok ?C ?p0 ?p1 ?_; (case C => walk_at "mine cx"); (case p0 => walk_at "mine mem"); (case p1 => walk_at "mine ar"); intro t9 h9 tk9 F9 N9; (try dsimp only); (try k_fold))))
local macro_rules | `(tactic| walk_at "call ref cons nil") => `(tactic| (k_here; k_dflt (refine' frac1_ok ?C  ?_; (case C => walk_at "mine cx");  intro r9 t9 u9 h9 tk9 F9 N9 l9; (try dsimp only); (try k_fold))))
local macro_rules | `(tactic| walk_at "call ref") => `(tactic| (k_here; k_dflt (refine' frac1_ok ?C  ?_; (case C => walk_at "mine cx");  intro r9 t9 u9 h9 tk9 F9 N9 l9; (try dsimp only); (try k_fold))))
local macro_rules | `(tactic| walk_at "call ref cons nil") => `(tactic| (k_here; k_dflt (refine' within_ok ?C ?p0 ?p1 ?p2 ?p3 ?p4 ?_; (case C => walk_at "mine cx"); (case p0 => walk_at "mine mem"); (case p1 => walk_at "mine mem"); (case p2 => walk_at "mine ar"); (case p3 => walk_at "mine ar"); (case p4 => walk_at "mine ar"); intro r9 t9 u9 h9 tk9 F9 N9 l9; (try dsimp only); (try k_fold))))
local macro_rules | `(tactic| walk_at "call ref") => `(tactic| (k_here; k_dflt (refine' within_ok ?C ?p0 ?p1 ?p2 ?p3 ?p4 ?_; (case C => walk_at "mine cx"); (case p0 => walk_at "mine mem"); (case p1 => walk_at "mine mem"); (case p2 => walk_at "mine ar"); (case p3 => walk_at "mine ar"); (case p4 => walk_at "mine ar"); intro r9 t9 u9 h9 tk9 F9 N9 l9; (try dsimp only); (try k_fold))))
local macro_rules | `(tactic| walk_at "call ref cons nil") => `(tactic| (k_here; k_dflt (refine' vector_ok ?C ?p0 ?p1 ?p2 ?p3 ?p4 ?p5 ?p6 ?p7 ?p8 ?p9 ?_; (case C => walk_at "mine cx"); (case p0 => walk_at "mine in"); (case p1 => walk_at "mine mem"); (case p2 => walk_at "mine mem"); (case p3 => walk_at "mine mem"); (case p4 => walk_at "mine ar"); (case p5 => walk_at "mine ar"); (case p6 => walk_at "mine ar"); (case p7 => walk_at "mine ar"); (case p8 => walk_at "mine ar"); (case p9 => walk_at "mine ar"); intro r9 p9 q9 t9 u9 v9 w9 h9 tk9 F9 N9; (try dsimp only); (try k_fold))))
local macro_rules | `(tactic| walk_at "call ref") => `(tactic| (k_here; k_dflt (refine' vector_ok ?C ?p0 ?p1 ?p2 ?p3 ?p4 ?p5 ?p6 ?p7 ?p8 ?p9 ?_; (case C => walk_at "mine cx"); (case p0 => walk_at "mine in"); (case p1 => walk_at "mine mem"); (case p2 => walk_at "mine mem"); (case p3 => walk_at "mine mem"); (case p4 => walk_at "mine ar"); (case p5 => walk_at "mine ar"); (case p6 => walk_at "mine ar"); (case p7 => walk_at "mine ar"); (case p8 => walk_at "mine ar"); (case p9 => walk_at "mine ar"); intro r9 p9 q9 t9 u9 v9 w9 h9 tk9 F9 N9; (try dsimp only); (try k_fold))))
local macro_rules | `(tactic| walk_at "call ref cons nil") => `(tactic| (k_here; k_dflt (refine' cmp0_ok ?C ?p0 ?p1 ?_; (case C => walk_at "mine cx"); (case p0 => walk_at "mine mem"); (case p1 => walk_at "mine ar"); intro v9 t9 h9 tk9 e9 F9 N9; (try dsimp only); (try k_fold))))
local macro_rules | `(tactic| walk_at "call ref") => `(tactic| (k_here; k_dflt (refine' cmp0_ok ?C ?p0 ?p1 ?_; (case C => walk_at "mine cx"); (case p0 => walk_at "mine mem"); (case p1 => walk_at "mine ar"); intro v9 t9 h9 tk9 e9 F9 N9; (try dsimp only); (try k_fold))))
theorem point_ok {a b c d e f X' Y' : Rat} {x p p1 p2 : Addr} {t1 u1 t2 u2 : Tok} (C : Cx w mean mg mb dp un 5 cs outer A₀ base h₀ L m s.heap news) (M : MatIn w news x a b c d e f) (hp : (p, tup [.ref p1, .ref p2]) ∈ news) (h1 : (p1, rt X' t1 u1) ∈ news) (h2 : (p2, rt Y' t2 u2) ∈ news)
  (sa : Bd a 4 2) (sb : Bd b 4 2) (sc : Bd c 4 2) (sd : Bd d 4 2) (se : Bd e 4 2) (sf : Bd f 4 2) (sX : Bd X' 21 2) (sY : Bd Y' 21 2)
  (ret : ∀ r r1 r2 t1 u1 t2 u2 h' tk', Fr h₀ L h' m → News h₀ L h' ((r, tup [.ref r1, .ref r2]) :: (r1, rt (a * X' + c * Y' + e) t1 u1) :: (r2, rt (b * X' + d * Y' + f) t2 u2) :: news) → Q (.ref r) { s with heap := h', toks := tk' }) :
  wpAny (model PySem.Challenge.pw_pf0192_01 w) (ktrTop dp un gd cn cs L ca ccd cl outer) (call (.ref 316) [.ref x, .ref p]) Q E s := by
  have q7 := (Bd.add (Bd.mul sa sX) (Bd.mul sc sY)).sm (by decide) (by decide)
  have q8 := (Bd.add (Bd.mul sb sX) (Bd.mul sd sY)).sm (by decide) (by decide)
  have q9 := se.sm (by decide) (by decide)
  have q10 := sf.sm (by decide) (by decide)
  have M0 := M
  obtain ⟨dx, ra, rb, rc, rd, re, rf, o1, o2, o3, o4, o5, o6, ta, ua, tb, ub, tc, uc, td, ud, te, ue, tf, uf, hx, hdx, ha, hb, hc, hd, he, hf⟩ := M
  obtain ⟨B, F, X, N, T, hk, hdp, hun⟩ := C
  refine wpAny_call ?_
  k_dflt (refine' code_def (binds := [(Str.ofString "self", Value.ref x), (Str.ofString "p", Value.ref p)]) ?k1 ?k2 ?k3 ?k4 ?k5 ?kA ?kF ?kK ?k6 ?k7 ?k8 ?k9 ?kB ?_ ?c2 ?c3 ?c4 ?c5; walk_at "mine enter")
  k_steps
  (rename News _ _ _ _ => N9)
  exact ret _ _ _ _ _ _ _ _ _ (by assumption) (nPick N9 (by k_mem) (nPick N9 (by k_mem) (nPick N9 (by k_mem) (nSub N9 (by walk_at "mine up")))))
theorem dot_ok {a b : Rat} {x y z : Addr} {ta ua tb ub tm : Tok} {many : Int} (C : Cx w mean mg mb dp un 5 cs outer A₀ base h₀ L m s.heap news) (ha : (x, rt a ta ua) ∈ news) (hb : (y, rt b tb ub) ∈ news) (sa : Bd a 1408 32) (sb : Bd b 11 7) (hp : 0 < b.num) (hm : many.natAbs ≤ 4) {v : Int} (hv : cutR a b many = v)
  (ret : ∀ t h' tk', Fr h₀ L h' m → News h₀ L h' news → Q (.int v t) { s with heap := h', toks := tk' }) :
  wpAny (model PySem.Challenge.pw_pf0192_01 w) (ktrTop dp un gd cn cs L ca ccd cl outer) (call (.ref 192) [.ref z, .ref x, .ref y, .int many tm]) Q E s := by
  have b1 := Bd.sub sa (Bd.mul (Bd.floor (Bd.div sa sb hp)) sb)
  have b2 := Bd.int hm
  have b3 := Bd.mul b1 b2
  have b4 := Bd.div b3 sb hp
  have s1 := sb.sm (by decide) (by decide)
  have s2 := b1.sm (by decide) (by decide)
  have s3 := b2.sm (by decide) (by decide)
  have s4 := b3.sm (by decide) (by decide)
  have s5 := b4.sm (by decide) (by decide)
  have hn : b.num ≤ 30000 := by have := sb.1; omega
  obtain ⟨B, F, X, N, T, hk, hdp, hun⟩ := C
  refine wpAny_call ?_
  k_dflt (refine' code_def (binds := [(Str.ofString "self", Value.ref z), (Str.ofString "place", Value.ref x), (Str.ofString "size", Value.ref y), (Str.ofString "many", Value.int many tm)]) ?k1 ?k2 ?k3 ?k4 ?k5 ?kA ?kF ?kK ?k6 ?k7 ?k8 ?k9 ?kB ?_ ?c2 ?c3 ?c4 ?c5; walk_at "mine enter")
  k_steps
  (rename News _ _ _ _ => N9)
  subst hv
  exact ret _ _ _ (by assumption) (nSub N9 (by walk_at "mine up"))
theorem empty_ok {W H : Rat} {x cv mt : Addr} {Wd Ht n : Nat} {left top : Int} (C : Cx w mean mg mb dp un 4 cs outer A₀ base h₀ L m s.heap news) (P : PatIn w news x cv mt W H) (K : CanIn w news cv Wd Ht left top n) (hW : 0 < Wd) (hH : 0 < Ht) (sW : Sm W) (sH : Sm H)
  (ret : ∀ v h' tk', (v = true ↔ (W.num ≤ 0 ∨ H.num ≤ 0)) → Fr h₀ L h' m → News h₀ L h' news → Q (.bool v) { s with heap := h', toks := tk' }) :
  wpAny (model PySem.Challenge.pw_pf0192_01 w) (ktrTop dp un gd cn cs L ca ccd cl outer) (call (.ref 185) [.ref x]) Q E s := by
  obtain ⟨dx, rw, rh, t1, t2, t3, t4, tw, uw, th, uh, hx, hdx, hw, hh⟩ := P
  obtain ⟨dc, l, rows, k', o1, o2, o3, o4, o5, i1, i2, i3, i4, hc, hdc, -⟩ := K
  obtain ⟨B, F, X, N, T, hk, hdp, hun⟩ := C
  refine wpAny_call ?_
  k_dflt (refine' code_def (binds := [(Str.ofString "self", Value.ref x)]) ?k1 ?k2 ?k3 ?k4 ?k5 ?kA ?kF ?kK ?k6 ?k7 ?k8 ?k9 ?kB ?_ ?c2 ?c3 ?c4 ?c5; walk_at "mine enter")
  k_steps
  all_goals exact ret _ _ _ (by first | (simp only [true_iff]; omega) | (simp only [decide_eq_true_eq]; omega) | (simp only [Bool.false_eq_true, false_iff]; omega)) (by assumption) (by assumption)
theorem empty_no {W H : Rat} {x cv mt : Addr} {Wd Ht n : Nat} {left top : Int} (C : Cx w mean mg mb dp un 4 cs outer A₀ base h₀ L m s.heap news) (P : PatIn w news x cv mt W H) (K : CanIn w news cv Wd Ht left top n) (hW : 0 < Wd) (hH : 0 < Ht) (sW : Sm W) (sH : Sm H) (pW : 0 < W.num) (pH : 0 < H.num)
  (ret : ∀ h' tk', Fr h₀ L h' m → News h₀ L h' news → Q (.bool false) { s with heap := h', toks := tk' }) :
  wpAny (model PySem.Challenge.pw_pf0192_01 w) (ktrTop dp un gd cn cs L ca ccd cl outer) (call (.ref 185) [.ref x]) Q E s := by
  refine empty_ok C P K hW hH sW sH fun v h' tk' e F N => ?_
  cases v with
  | false => exact ret _ _ F N
  | true => exact absurd (e.mp rfl) (by omega)
theorem empty_yes {W H : Rat} {x cv mt : Addr} {Wd Ht n : Nat} {left top : Int} (C : Cx w mean mg mb dp un 4 cs outer A₀ base h₀ L m s.heap news) (P : PatIn w news x cv mt W H) (K : CanIn w news cv Wd Ht left top n) (hW : 0 < Wd) (hH : 0 < Ht) (sW : Sm W) (sH : Sm H) (pW : W.num ≤ 0 ∨ H.num ≤ 0)
  (ret : ∀ h' tk', Fr h₀ L h' m → News h₀ L h' news → Q (.bool true) { s with heap := h', toks := tk' }) :
  wpAny (model PySem.Challenge.pw_pf0192_01 w) (ktrTop dp un gd cn cs L ca ccd cl outer) (call (.ref 185) [.ref x]) Q E s := by
  refine empty_ok C P K hW hH sW sH fun v h' tk' e F N => ?_
  cases v with
  | true => exact ret _ _ F N
  | false => exact absurd (e.mpr pW) (by decide)
end
section
variable {w : World} {mean : ExcName → Option Value} {mg mb : Str → Option Value} {dp un : Nat} {gd : Option (List Code)} {cn : Str} {cs : Scope} {ca : Addr} {ccd : Value} {cl : List (Str × Addr)} {outer : List Env} {A₀ : Around} {base h₀ : Heap} {L : Addr} {m : Str → Option Value} {news : List (Addr × Obj)} {s : Shared} {Q E : Value → Shared → Prop}
theorem holds_ok {c : Addr} {Wd Ht n i j : Nat} {left top x y : Int} {tx ty : Tok} (C : Cx w mean mg mb dp un 1 cs outer A₀ base h₀ L m s.heap news) (K : CanIn w news c Wd Ht left top n) (hx : x - left = (i : Int)) (hy : y - top = (j : Int)) (hi : i < Wd) (hj : j < Ht)
  (ret : ∀ h' tk', Fr h₀ L h' m → News h₀ L h' news → Q (.bool true) { s with heap := h', toks := tk' }) :
  wpAny (model PySem.Challenge.pw_pf0192_01 w) (ktrTop dp un gd cn cs L ca ccd cl outer) (call (.ref 227) [.ref c, .int x tx, .int y ty]) Q E s := by
  obtain ⟨dc, l, rows, k', o1, o2, o3, o4, o5, i1, i2, i3, i4, hc, hdc, -⟩ := K
  obtain ⟨B, F, X, N, T, hk, hdp, hun⟩ := C
  refine wpAny_call ?_
  k_dflt (refine' code_def (binds := [(Str.ofString "self", Value.ref c), (Str.ofString "x", Value.int x tx), (Str.ofString "y", Value.int y ty)]) ?k1 ?k2 ?k3 ?k4 ?k5 ?kA ?kF ?kK ?k6 ?k7 ?k8 ?k9 ?kB ?_ ?c2 ?c3 ?c4 ?c5; walk_at "mine enter")
  k_steps
  rw [show decide (y - top < (Ht : Int)) = true from decide_eq_true (by omega)]
  exact ret _ _ (by assumption) (by assumption)
local macro_rules | `(tactic| walk_at "call ref cons nil") => `(tactic| (k_here; k_dflt (refine' holds_ok ?C ?p0 ?p1 ?p2 ?p3 ?p4 ?_; (case C => walk_at "mine cx"); (case p0 => walk_at "mine in"); (case p1 => walk_at "mine ar"); (case p2 => walk_at "mine ar"); (case p3 => walk_at "mine ar"); (case p4 => walk_at "mine ar"); intro h9 tk9 F9 N9; (try dsimp only); (try k_fold))))
local macro_rules | `(tactic| walk_at "call ref") => `(tactic| (k_here; k_dflt (refine' holds_ok ?C ?p0 ?p1 ?p2 ?p3 ?p4 ?_; (case C => walk_at "mine cx"); (case p0 => walk_at "mine in"); (case p1 => walk_at "mine ar"); (case p2 => walk_at "mine ar"); (case p3 => walk_at "mine ar"); (case p4 => walk_at "mine ar"); intro h9 tk9 F9 N9; (try dsimp only); (try k_fold))))
theorem get_ok {c : Addr} {Wd Ht n i j : Nat} {left top x y : Int} {tx ty : Tok} (C : Cx w mean mg mb dp un 2 cs outer A₀ base h₀ L m s.heap news) (K : CanIn w news c Wd Ht left top n) (hx : x - left = (i : Int)) (hy : y - top = (j : Int)) (hi : i < Wd) (hj : j < Ht) (hn : j * Wd + i < n) (hW : Wd < 1000) (hH : Ht < 1000)
  (ret : ∀ p t1 t2 t3 t4 h' tk', (p, tup [.int (((j * Wd + i : Nat) : Int) + 1) t1, .int 0 t2, .int 0 t3, .int 255 t4]) ∈ news → Fr h₀ L h' m → News h₀ L h' news → Q (.ref p) { s with heap := h', toks := tk' }) :
  wpAny (model PySem.Challenge.pw_pf0192_01 w) (ktrTop dp un gd cn cs L ca ccd cl outer) (call (.ref 234) [.ref c, .int x tx, .int y ty]) Q E s := by
  have K0 := K
  obtain ⟨dc, l, rows, k', o1, o2, o3, o4, o5, i1, i2, i3, i4, hc, hdc, hl, hlen, hnd, R⟩ := K
  obtain ⟨r, hr⟩ : ∃ r, rows[j]? = some r := ⟨_, List.getElem?_eq_getElem (by omega)⟩
  obtain ⟨cols, k2, hcols, hwd, hcell⟩ := R j r hr
  obtain ⟨v, hv⟩ : ∃ v, cols[i]? = some v := ⟨_, List.getElem?_eq_getElem (by omega)⟩
  obtain ⟨p, t1, t2, t3, t4, rfl, hp⟩ := (hcell i v hv).1 hn
  have e1 : (rows.map Value.ref)[(y - top).toNat]? = some (.ref r) := by rw [hy]; simp [hr]
  have e2 : cols[(x - left).toNat]? = some (.ref p) := by rw [hx]; simp [hv]
  clear R hcell
  obtain ⟨B, F, X, N, T, hk, hdp, hun⟩ := C
  refine wpAny_call ?_
  k_dflt (refine' code_def (binds := [(Str.ofString "self", Value.ref c), (Str.ofString "x", Value.int x tx), (Str.ofString "y", Value.int y ty)]) ?k1 ?k2 ?k3 ?k4 ?k5 ?kA ?kF ?kK ?k6 ?k7 ?k8 ?k9 ?kB ?_ ?c2 ?c3 ?c4 ?c5; walk_at "mine enter")
  k_steps
  exact ret _ _ _ _ _ _ _ hp (by assumption) (by assumption)
end
section
variable {w : World} {mean : ExcName → Option Value} {mg mb : Str → Option Value} {dp un : Nat} {gd : Option (List Code)} {cn : Str} {cs : Scope} {ca : Addr} {ccd : Value} {cl : List (Str × Addr)} {outer : List Env} {A₀ : Around} {base h₀ : Heap} {L : Addr} {m : Str → Option Value} {news : List (Addr × Obj)} {s : Shared} {Q E : Value → Shared → Prop}
local macro_rules | `(tactic| walk_at "call ref cons nil") => `(tactic| (k_here; k_dflt (refine' mid_ok ?C  ?_; (case C => walk_at "mine cx");  intro r9 p9 q9 t9 u9 v9 w9 h9 tk9 F9 N9; (try dsimp only); (try k_fold))))
local macro_rules | `(tactic| walk_at "call ref") => `(tactic| (k_here; k_dflt (refine' mid_ok ?C  ?_; (case C => walk_at "mine cx");  intro r9 p9 q9 t9 u9 v9 w9 h9 tk9 F9 N9; (try dsimp only); (try k_fold))))
local macro_rules | `(tactic| walk_at "call ref cons nil") => `(tactic| (k_here; k_dflt (refine' point_ok ?C ?p0 ?p1 ?p2 ?p3 ?p4 ?p5 ?p6 ?p7 ?p8 ?p9 ?p10 ?p11 ?_; (case C => walk_at "mine cx"); (case p0 => walk_at "mine in"); (case p1 => walk_at "mine mem"); (case p2 => walk_at "mine mem"); (case p3 => walk_at "mine mem"); (case p4 => walk_at "mine ar"); (case p5 => walk_at "mine ar"); (case p6 => walk_at "mine ar"); (case p7 => walk_at "mine ar"); (case p8 => walk_at "mine ar"); (case p9 => walk_at "mine ar"); (case p10 => walk_at "mine ar"); (case p11 => walk_at "mine ar"); intro r9 p9 q9 t9 u9 v9 w9 h9 tk9 F9 N9; (try dsimp only); (try k_fold))))
local macro_rules | `(tactic| walk_at "call ref") => `(tactic| (k_here; k_dflt (refine' point_ok ?C ?p0 ?p1 ?p2 ?p3 ?p4 ?p5 ?p6 ?p7 ?p8 ?p9 ?p10 ?p11 ?_; (case C => walk_at "mine cx"); (case p0 => walk_at "mine in"); (case p1 => walk_at "mine mem"); (case p2 => walk_at "mine mem"); (case p3 => walk_at "mine mem"); (case p4 => walk_at "mine ar"); (case p5 => walk_at "mine ar"); (case p6 => walk_at "mine ar"); (case p7 => walk_at "mine ar"); (case p8 => walk_at "mine ar"); (case p9 => walk_at "mine ar"); (case p10 => walk_at "mine ar"); (case p11 => walk_at "mine ar"); intro r9 p9 q9 t9 u9 v9 w9 h9 tk9 F9 N9; (try dsimp only); (try k_fold))))
local macro_rules | `(tactic| walk_at "call ref cons nil") => `(tactic| (k_here; k_dflt (refine' dot_ok ?C ?p0 ?p1 ?p2 ?p3 ?p4 ?p5 ?p6 ?_; (case C => walk_at "mine cx"); (case p0 => walk_at "mine mem"); (case p1 => walk_at "mine mem"); (case p2 => walk_at "mine ar"); (case p3 => walk_at "mine ar"); (case p4 => walk_at "mine ar"); (case p5 => walk_at "mine ar"); (case p6 => walk_at "mine ar"); intro t9 h9 tk9 F9 N9; (try dsimp only); (try k_fold))))
local macro_rules | `(tactic| walk_at "call ref") => `(tactic| (k_here; k_dflt (refine' dot_ok ?C ?p0 ?p1 ?p2 ?p3 ?p4 ?p5 ?p6 ?_; (case C => walk_at "mine cx"); (case p0 => walk_at "mine mem"); (case p1 => walk_at "mine mem"); (case p2 => walk_at "mine ar"); (case p3 => walk_at "mine ar"); (case p4 => walk_at "mine ar"); (case p5 => walk_at "mine ar"); (case p6 => walk_at "mine ar"); intro t9 h9 tk9 F9 N9; (try dsimp only); (try k_fold))))
local macro_rules | `(tactic| walk_at "call ref cons nil") => `(tactic| (k_here; k_dflt (refine' get_ok ?C ?p0 ?p1 ?p2 ?p3 ?p4 ?p5 ?p6 ?p7 ?_; (case C => walk_at "mine cx"); (case p0 => walk_at "mine in"); (case p1 => walk_at "mine as"); (case p2 => walk_at "mine as"); (case p3 => walk_at "mine ar"); (case p4 => walk_at "mine ar"); (case p5 => walk_at "mine ar"); (case p6 => walk_at "mine ar"); (case p7 => walk_at "mine ar"); intro p9 t9 u9 v9 w9 h9 tk9 m9 F9 N9; (try dsimp only); (try k_fold))))
local macro_rules | `(tactic| walk_at "call ref") => `(tactic| (k_here; k_dflt (refine' get_ok ?C ?p0 ?p1 ?p2 ?p3 ?p4 ?p5 ?p6 ?p7 ?_; (case C => walk_at "mine cx"); (case p0 => walk_at "mine in"); (case p1 => walk_at "mine as"); (case p2 => walk_at "mine as"); (case p3 => walk_at "mine ar"); (case p4 => walk_at "mine ar"); (case p5 => walk_at "mine ar"); (case p6 => walk_at "mine ar"); (case p7 => walk_at "mine ar"); intro p9 t9 u9 v9 w9 h9 tk9 m9 F9 N9; (try dsimp only); (try k_fold))))
local macro_rules | `(tactic| walk_at "call ref cons nil") => `(tactic| (k_here; k_dflt (refine' empty_no ?C ?p0 ?p1 ?p2 ?p3 ?p4 ?p5 ?p6 ?p7 ?_; (case C => walk_at "mine cx"); (case p0 => walk_at "mine in"); (case p1 => walk_at "mine in"); (case p2 => walk_at "mine ar"); (case p3 => walk_at "mine ar"); (case p4 => walk_at "mine ar"); (case p5 => walk_at "mine ar"); (case p6 => walk_at "mine ar"); (case p7 => walk_at "mine ar"); intro h9 tk9 F9 N9; (try dsimp only); (try k_fold))))
local macro_rules | `(tactic| walk_at "call ref") => `(tactic| (k_here; k_dflt (refine' empty_no ?C ?p0 ?p1 ?p2 ?p3 ?p4 ?p5 ?p6 ?p7 ?_; (case C => walk_at "mine cx"); (case p0 => walk_at "mine in"); (case p1 => walk_at "mine in"); (case p2 => walk_at "mine ar"); (case p3 => walk_at "mine ar"); (case p4 => walk_at "mine ar"); (case p5 => walk_at "mine ar"); (case p6 => walk_at "mine ar"); (case p7 => walk_at "mine ar"); intro h9 tk9 F9 N9; (try dsimp only); (try k_fold))))
local macro_rules | `(tactic| walk_at "call ref cons nil") => `(tactic| (k_here; k_dflt (refine' empty_yes ?C ?p0 ?p1 ?p2 ?p3 ?p4 ?p5 ?p6 ?_; (case C => walk_at "mine cx"); (case p0 => walk_at "mine in"); (case p1 => walk_at "mine in"); (case p2 => walk_at "mine ar"); (case p3 => walk_at "mine ar"); (case p4 => walk_at "mine ar"); (case p5 => walk_at "mine ar"); (case p6 => walk_at "mine ar"); intro h9 tk9 F9 N9; (try dsimp only); (try k_fold))))
local macro_rules | `(tactic| walk_at "call ref") => `(tactic| (k_here; k_dflt (refine' empty_yes ?C ?p0 ?p1 ?p2 ?p3 ?p4 ?p5 ?p6 ?_; (case C => walk_at "mine cx"); (case p0 => walk_at "mine in"); (case p1 => walk_at "mine in"); (case p2 => walk_at "mine ar"); (case p3 => walk_at "mine ar"); (case p4 => walk_at "mine ar"); (case p5 => walk_at "mine ar"); (case p6 => walk_at "mine ar"); intro h9 tk9 F9 N9; (try dsimp only); (try k_fold))))
theorem colour_no {W H : Rat} {z cv mt : Addr} {Wd Ht n : Nat} {left top x y : Int} {tx ty : Tok} (C : Cx w mean mg mb dp un 6 cs outer A₀ base h₀ L m s.heap news) (P : PatIn w news z cv mt W H) (K : CanIn w news cv Wd Ht left top n) (hWd : 0 < Wd) (hHt : 0 < Ht)
  (sW : Bd W 11 7) (sH : Bd H 11 7) (pW : W.num ≤ 0 ∨ H.num ≤ 0)
  (ret : ∀ h' tk', Fr h₀ L h' m → News h₀ L h' news → Q (.ref 157) { s with heap := h', toks := tk' }) :
  wpAny (model PySem.Challenge.pw_pf0192_01 w) (ktrTop dp un gd cn cs L ca ccd cl outer) (call (.ref 199) [.ref z, .int x tx, .int y ty]) Q E s := by
  have q3 := sW.sm (by decide) (by decide)
  have q4 := sH.sm (by decide) (by decide)
  have P0 := P
  obtain ⟨dx, rw, rh, t1, t2, t3, t4, tw, uw, th, uh, hx', hdx, hw, hh⟩ := P
  obtain ⟨B, F, X, N, T, hk, hdp, hun⟩ := C
  refine wpAny_call ?_
  k_dflt (refine' code_def (binds := [(Str.ofString "self", Value.ref z), (Str.ofString "x", Value.int x tx), (Str.ofString "y", Value.int y ty)]) ?k1 ?k2 ?k3 ?k4 ?k5 ?kA ?kF ?kK ?k6 ?k7 ?k8 ?k9 ?kB ?_ ?c2 ?c3 ?c4 ?c5; walk_at "mine enter")
  k_steps
  (rename News _ _ _ _ => N9)
  exact ret _ _ (by assumption) (nSub N9 (by walk_at "mine up"))
theorem colour_ok {a b c d e f W H : Rat} {z cv mt : Addr} {Wd Ht n i j : Nat} {left top x y : Int} {tx ty : Tok} (C : Cx w mean mg mb dp un 6 cs outer A₀ base h₀ L m s.heap news) (P : PatIn w news z cv mt W H) (K : CanIn w news cv Wd Ht left top n) (M : MatIn w news mt a b c d e f)
  (sa : Bd a 4 2) (sb : Bd b 4 2) (sc : Bd c 4 2) (sd : Bd d 4 2) (se : Bd e 4 2) (sf : Bd f 4 2) (hx : (2 * x + 1).natAbs ≤ 21) (hy : (2 * y + 1).natAbs ≤ 21)
  (sW : Bd W 11 7) (sH : Bd H 11 7) (pW : 0 < W.num) (pH : 0 < H.num) (lW : Wd ≤ 4) (lH : Ht ≤ 4)
  (hc : cutR (a * mid x + c * mid y + e) W (Wd : Int) = (i : Int)) (hr : cutR (b * mid x + d * mid y + f) H (Ht : Int) = (j : Int)) (hi : i < Wd) (hj : j < Ht) (hn : j * Wd + i < n)
  (ret : ∀ p t1 t2 t3 t4 h' tk', (p, tup [.int (((j * Wd + i : Nat) : Int) + 1) t1, .int 0 t2, .int 0 t3, .int 255 t4]) ∈ news → Fr h₀ L h' m → News h₀ L h' news → Q (.ref p) { s with heap := h', toks := tk' }) :
  wpAny (model PySem.Challenge.pw_pf0192_01 w) (ktrTop dp un gd cn cs L ca ccd cl outer) (call (.ref 199) [.ref z, .int x tx, .int y ty]) Q E s := by
  have sX := Bd.mid hx
  have sY := Bd.mid hy
  have q1 := (Bd.add (Bd.add (Bd.mul sa sX) (Bd.mul sc sY)) se).mono (n' := 1408) (d' := 32) (by decide) (by decide)
  have q2 := (Bd.add (Bd.add (Bd.mul sb sX) (Bd.mul sd sY)) sf).mono (n' := 1408) (d' := 32) (by decide) (by decide)
  have q3 := sW.sm (by decide) (by decide)
  have q4 := sH.sm (by decide) (by decide)
  have q5 : ((Wd : Int)).natAbs ≤ 4 := by omega
  have q6 : ((Ht : Int)).natAbs ≤ 4 := by omega
  have P0 := P
  have K0 := K
  obtain ⟨dx, rw, rh, t1, t2, t3, t4, tw, uw, th, uh, hx', hdx, hw, hh⟩ := P
  have M0 := M
  obtain ⟨dc, l, rows, k', o1, o2, o3, o4, o5, i1, i2, i3, i4, hc', hdc, -⟩ := K
  obtain ⟨dm, ra, rb, rc, rd, re, rf, y1, y2, y3, y4, y5, y6, ta, ua, tb, ub, tc, uc, td, ud, te, ue, tf, uf, hM1, hM2, -⟩ := M
  obtain ⟨B, F, X, N, T, hk, hdp, hun⟩ := C
  refine wpAny_call ?_
  k_dflt (refine' code_def (binds := [(Str.ofString "self", Value.ref z), (Str.ofString "x", Value.int x tx), (Str.ofString "y", Value.int y ty)]) ?k1 ?k2 ?k3 ?k4 ?k5 ?kA ?kF ?kK ?k6 ?k7 ?k8 ?k9 ?kB ?_ ?c2 ?c3 ?c4 ?c5; walk_at "mine enter")
  k_steps
  (rename News _ _ _ _ => N9)
  (rename (_, tup [_, _, _, _]) ∈ _ => m9)
  exact ret _ _ _ _ _ _ _ (by simpa using m9) (by assumption) (nSub N9 (by walk_at "mine up"))
end
/-- a pair of ints as a tuple -/
abbrev pr (x y : Int) (t u : Tok) : Obj := tup [.int x t, .int y u]
theorem modpos {x y : Int} (h : 0 < y) : 0 ≤ Int.fmod x y ∧ Int.fmod x y < y := by
  rw [fmE h]; exact ⟨Int.emod_nonneg _ (by omega), Int.emod_lt_of_pos _ h⟩
section
variable {w : World} {mean : ExcName → Option Value} {mg mb : Str → Option Value} {dp un : Nat} {gd : Option (List Code)} {cn : Str} {cs : Scope} {ca : Addr} {ccd : Value} {cl : List (Str × Addr)} {outer : List Env} {A₀ : Around} {base h₀ : Heap} {L : Addr} {m : Str → Option Value} {news : List (Addr × Obj)} {s : Shared} {Q E : Value → Shared → Prop}
theorem rest_ok {x y p q : Int} {tx ty tp tq : Tok} {z : Addr} (C : Cx w mean mg mb dp un 1 cs outer A₀ base h₀ L m s.heap news) (hz : (z, pr p q tp tq) ∈ news) (hp : 0 < p) (hy : 0 < y) (hpy : 0 < y * p) (hlim : y * p < 1000000000) (ly : y < 1000) (lq : -1000 < q ∧ q < 1000)
  (ret : ∀ r t u h' tk', Fr h₀ L h' m → News h₀ L h' ((r, pr (x * q % (y * p)) (y * p) t u) :: news) → (∀ p ∈ news, p.1 < r) → Q (.ref r) { s with heap := h', toks := tk' }) :
  wpAny (model PySem.Challenge.pw_pf0192_01 w) (ktrTop dp un gd cn cs L ca ccd cl outer) (call (.ref 372) [.int x tx, .int y ty, .ref z]) Q E s := by
  obtain ⟨B, F, X, N, T, hk, hdp, hun⟩ := C
  refine wpAny_call ?_
  k_dflt (refine' code_def (binds := [(Str.ofString "top", Value.int x tx), (Str.ofString "bottom", Value.int y ty), (Str.ofString "side", Value.ref z)]) ?k1 ?k2 ?k3 ?k4 ?k5 ?kA ?kF ?kK ?k6 ?k7 ?k8 ?k9 ?kB ?_ ?c2 ?c3 ?c4 ?c5; walk_at "mine enter")
  k_steps
  (rename News _ _ _ _ => N9)
  rw [fmE hpy] at N9
  exact ret _ _ _ _ _ (by assumption) N9 (by assumption)
local macro_rules | `(tactic| walk_at "call ref cons nil") => `(tactic| (k_here; k_dflt (refine' rest_ok ?C ?p0 ?p1 ?p2 ?p3 ?p4 ?p5 ?p6 ?_; (case C => walk_at "mine cx"); (case p0 => walk_at "mine mem"); (case p1 => walk_at "mine ar"); (case p2 => walk_at "mine ar"); (case p3 => walk_at "mine ar"); (case p4 => walk_at "mine ar"); (case p5 => walk_at "mine ar"); (case p6 => walk_at "mine ar"); intro r9 t9 u9 h9 tk9 F9 N9 l9; (try dsimp only); (try k_fold))))
local macro_rules | `(tactic| walk_at "call ref") => `(tactic| (k_here; k_dflt (refine' rest_ok ?C ?p0 ?p1 ?p2 ?p3 ?p4 ?p5 ?p6 ?_; (case C => walk_at "mine cx"); (case p0 => walk_at "mine mem"); (case p1 => walk_at "mine ar"); (case p2 => walk_at "mine ar"); (case p3 => walk_at "mine ar"); (case p4 => walk_at "mine ar"); (case p5 => walk_at "mine ar"); (case p6 => walk_at "mine ar"); intro r9 t9 u9 h9 tk9 F9 N9 l9; (try dsimp only); (try k_fold))))
theorem ldot_ok {x y p q many : Int} {tx ty tp tq tm : Tok} {z : Addr} (C : Cx w mean mg mb dp un 2 cs outer A₀ base h₀ L m s.heap news) (hz : (z, pr p q tp tq) ∈ news) (hp : 0 < p) (hy : 0 < y) (hpy : 0 < y * p) (hlim : y * p < 1000000000) (ly : y < 1000) (lq : -1000 < q ∧ q < 1000) (lm : 0 ≤ many ∧ many < 1000) {v : Int} (hv : (x * q % (y * p)) * many / (y * p) = v)
  (ret : ∀ t h' tk', Fr h₀ L h' m → News h₀ L h' news → Q (.int v t) { s with heap := h', toks := tk' }) :
  wpAny (model PySem.Challenge.pw_pf0192_01 w) (ktrTop dp un gd cn cs L ca ccd cl outer) (call (.ref 379) [.int x tx, .int y ty, .ref z, .int many tm]) Q E s := by
  have hb := modpos (x := x * q) hpy
  rw [fmE hpy] at hb
  obtain ⟨B, F, X, N, T, hk, hdp, hun⟩ := C
  refine wpAny_call ?_
  k_dflt (refine' code_def (binds := [(Str.ofString "top", Value.int x tx), (Str.ofString "bottom", Value.int y ty), (Str.ofString "side", Value.ref z), (Str.ofString "many", Value.int many tm)]) ?k1 ?k2 ?k3 ?k4 ?k5 ?kA ?kF ?kK ?k6 ?k7 ?k8 ?k9 ?kB ?_ ?c2 ?c3 ?c4 ?c5; walk_at "mine enter")
  k_steps
  (rename News _ _ _ _ => N9)
  rw [fdE hpy, hv]
  exact ret _ _ _ (by assumption) (nSub N9 (by walk_at "mine up"))
end
/-- six ints in a list -/
abbrev six (a b c d e f : Int) (t1 t2 t3 t4 t5 t6 : Tok) (k : Nat) : Obj := lstn [.int a t1, .int b t2, .int c t3, .int d t4, .int e t5, .int f t6] k
section
variable {w : World} {mean : ExcName → Option Value} {mg mb : Str → Option Value} {dp un : Nat} {gd : Option (List Code)} {cn : Str} {cs : Scope} {ca : Addr} {ccd : Value} {cl : List (Str × Addr)} {outer : List Env} {A₀ : Around} {base h₀ : Heap} {L : Addr} {m : Str → Option Value} {news : List (Addr × Obj)} {s : Shared} {Q E : Value → Shared → Prop}
local macro_rules | `(tactic| walk_at "call ref cons nil") => `(tactic| (k_here; k_dflt (refine' ldot_ok ?C ?p0 ?p1 ?p2 ?p3 ?p4 ?p5 ?p6 ?p7 ?p8 ?_; (case C => walk_at "mine cx"); (case p0 => walk_at "mine mem"); (case p1 => walk_at "mine ar"); (case p2 => walk_at "mine ar"); (case p3 => walk_at "mine ar"); (case p4 => walk_at "mine ar"); (case p5 => walk_at "mine ar"); (case p6 => walk_at "mine ar"); (case p7 => walk_at "mine ar"); (case p8 => walk_at "mine ar"); intro t9 h9 tk9 F9 N9; (try dsimp only); (try k_fold))))
local macro_rules | `(tactic| walk_at "call ref") => `(tactic| (k_here; k_dflt (refine' ldot_ok ?C ?p0 ?p1 ?p2 ?p3 ?p4 ?p5 ?p6 ?p7 ?p8 ?_; (case C => walk_at "mine cx"); (case p0 => walk_at "mine mem"); (case p1 => walk_at "mine ar"); (case p2 => walk_at "mine ar"); (case p3 => walk_at "mine ar"); (case p4 => walk_at "mine ar"); (case p5 => walk_at "mine ar"); (case p6 => walk_at "mine ar"); (case p7 => walk_at "mine ar"); (case p8 => walk_at "mine ar"); intro t9 h9 tk9 F9 N9; (try dsimp only); (try k_fold))))
theorem lcol_no {x y p1 q1 p2 q2 : Int} {tx ty u1 v1 u2 v2 : Tok} {cv hl sl z1 z2 : Addr} {ks : Nat} (C : Cx w mean mg mb dp un 3 cs outer A₀ base h₀ L m s.heap news)
  (hs : (sl, lstn [.ref z1, .ref z2] ks) ∈ news) (h1 : (z1, pr p1 q1 u1 v1) ∈ news) (h2 : (z2, pr p2 q2 u2 v2) ∈ news) (hp : p1 ≤ 0 ∨ p2 ≤ 0)
  (ret : ∀ r t1 t2 t3 t4 h' tk', Fr h₀ L h' m → News h₀ L h' ((r, tup [.int 0 t1, .int 0 t2, .int 0 t3, .int 0 t4]) :: news) → Q (.ref r) { s with heap := h', toks := tk' }) :
  wpAny (model PySem.Challenge.pw_pf0192_01 w) (ktrTop dp un gd cn cs L ca ccd cl outer) (call (.ref 400) [.ref cv, .ref hl, .ref sl, .int x tx, .int y ty]) Q E s := by
  obtain ⟨B, F, X, N, T, hk, hdp, hun⟩ := C
  refine wpAny_call ?_
  k_dflt (refine' code_def (binds := [(Str.ofString "canvas", Value.ref cv), (Str.ofString "halves", Value.ref hl), (Str.ofString "sides", Value.ref sl), (Str.ofString "x", Value.int x tx), (Str.ofString "y", Value.int y ty)]) ?k1 ?k2 ?k3 ?k4 ?k5 ?kA ?kF ?kK ?k6 ?k7 ?k8 ?k9 ?kB ?_ ?c2 ?c3 ?c4 ?c5; walk_at "mine enter")
  k_steps
  all_goals (rename News _ _ _ _ => N9)
  all_goals exact ret _ _ _ _ _ _ _ (by assumption) (nPick N9 (by k_mem) (nSub N9 (by walk_at "mine up")))
theorem lcol_ok {a b c d e f x y p1 q1 p2 q2 : Int} {tx ty u1 v1 u2 v2 t1 t2 t3 t4 t5 t6 : Tok} {cv hl sl z1 z2 : Addr} {kh ks Wd Ht n i j : Nat} {left top : Int} (C : Cx w mean mg mb dp un 3 cs outer A₀ base h₀ L m s.heap news) (K : CanIn w news cv Wd Ht left top n)
  (hh : (hl, six a b c d e f t1 t2 t3 t4 t5 t6 kh) ∈ news) (hs : (sl, lstn [.ref z1, .ref z2] ks) ∈ news) (h1 : (z1, pr p1 q1 u1 v1) ∈ news) (h2 : (z2, pr p2 q2 u2 v2) ∈ news)
  (p1p : 0 < p1 ∧ p1 < 100) (p2p : 0 < p2 ∧ p2 < 100) (q1b : -1000 < q1 ∧ q1 < 1000) (q2b : -1000 < q2 ∧ q2 < 1000) (lW : Wd < 1000) (lH : Ht < 1000) (lx : -100 < x ∧ x < 100) (ly : -100 < y ∧ y < 100)
  (hc : (a * (2 * x + 1) + c * (2 * y + 1) + 2 * e) * q1 % (4 * p1) * (Wd : Int) / (4 * p1) = (i : Int)) (hr : (b * (2 * x + 1) + d * (2 * y + 1) + 2 * f) * q2 % (4 * p2) * (Ht : Int) / (4 * p2) = (j : Int))
  (ret : ∀ r t1 t2 t3 t4 h' tk', Fr h₀ L h' m → News h₀ L h' ((r, tup [.int (((j * Wd + i : Nat) : Int) + 1) t1, .int 0 t2, .int 0 t3, .int 255 t4]) :: news) → Q (.ref r) { s with heap := h', toks := tk' }) :
  wpAny (model PySem.Challenge.pw_pf0192_01 w) (ktrTop dp un gd cn cs L ca ccd cl outer) (call (.ref 400) [.ref cv, .ref hl, .ref sl, .int x tx, .int y ty]) Q E s := by
  obtain ⟨dc, l, rows, k', o1, o2, o3, o4, o5, i1, i2, i3, i4, hc', hdc, -⟩ := K
  simp only [Int.natCast_add, Int.natCast_mul] at ret
  obtain ⟨B, F, X, N, T, hk, hdp, hun⟩ := C
  refine wpAny_call ?_
  k_dflt (refine' code_def (binds := [(Str.ofString "canvas", Value.ref cv), (Str.ofString "halves", Value.ref hl), (Str.ofString "sides", Value.ref sl), (Str.ofString "x", Value.int x tx), (Str.ofString "y", Value.int y ty)]) ?k1 ?k2 ?k3 ?k4 ?k5 ?kA ?kF ?kK ?k6 ?k7 ?k8 ?k9 ?kB ?_ ?c2 ?c3 ?c4 ?c5; walk_at "mine enter")
  k_steps
  all_goals (rename News _ _ _ _ => N9)
  all_goals exact ret _ _ _ _ _ _ _ (by assumption) (nPick N9 (by k_mem) (nSub N9 (by walk_at "mine up")))
end
theorem Bd.half {a : Int} (h : a.natAbs ≤ 4) : Bd (Rat.divInt a 2) 4 2 := Bd.of (by decide) h (by decide)
theorem comp_inv {prog : Program} {w : World} {A : Around} {h₀ : Heap} {L : Addr} {m : Str → Option Value} {env : Env} {elt : Expr} {x : Str} {scope : Scope} {cl : List (Str × Addr)} {s : Shared} {S : List (Addr × Obj) → Prop} {P : Nat → Value → Prop} {Fin : List Value → List (Addr × Obj) → Prop} {n : Nat}
    (J : Nat → List Value → List (Addr × Obj) → Prop)
    (turn : ∀ i ys news v I oI C oC D m₂ h tk (E' : Value → Shared → Prop), i < n → J i ys news → P i v → LCg.NsObj oC m₂ → m₂ x = some v → Fr h₀ L h m → News h₀ L h ((I, oI) :: (C, oC) :: (D, LCg.lst ys) :: news) → LCg.Off3 I C D news → ((@Ne Nat I C) ∧ (@Ne Nat I D) ∧ (@Ne Nat C D)) →
      wpAny (model prog w) A (eval elt (compEnvC scope cl C env)) (LCg.CompEnd h₀ L m { s with heap := h, toks := tk } I oI C oC D (LCg.lst ys) S (fun y news' => J (i + 1) (ys ++ [y]) news')) E' { s with heap := h, toks := tk })
    (fin : ∀ ys news, J n ys news → Fin ys news) : ∀ k i ys news, i + k = n → J i ys news → LCg.CompRest prog w A h₀ L m env elt x scope cl s S P Fin k i ys news := by
  intro k
  induction k with
  | zero =>
    intro i ys news e hJ
    obtain rfl : i = n := e
    exact LCg.CompRest.zero (fin _ _ hJ)
  | succ k ih =>
    intro i ys news e hJ
    refine LCg.CompRest.succ fun v I oI C oC D m₂ h tk E' hP hC hx F N off ne => ?_
    refine wpAny_mono (turn i ys news v I oI C oC D m₂ h tk E' (by omega) hJ hP hC hx F N off ne) (fun y s₂ hq => ?_) fun _ _ x => x
    obtain ⟨h', tk', nw, e', F', N', off', hS, hJ'⟩ := hq
    exact ⟨h', tk', nw, e', F', N', off', hS, ih (i + 1) _ _ (by omega) hJ'⟩
theorem off3_cons {I C D : Addr} {q : Addr × Obj} {n : List (Addr × Obj)} (h1 : q.1 ≠ I) (h2 : q.1 ≠ C) (h3 : q.1 ≠ D) (h : LCg.Off3 I C D n) : LCg.Off3 I C D (q :: n) := ⟨⟨h1, h2, h3⟩, h⟩
/-- the ends of a comprehension's turn, out of a ledger with one new object -/
theorem compEnd1 {h₀ : Heap} {L : Addr} {m : Str → Option Value} {s₁ : Shared} {I : Addr} {oI : Obj} {C : Addr} {oC : Obj} {D : Addr} {oD : Obj} {S : List (Addr × Obj) → Prop} {rest : Value → List (Addr × Obj) → Prop} {y : Value} {h' : Heap} {tk : Nat} {n : List (Addr × Obj)} {r : Addr} {o : Obj}
    (F : Fr h₀ L h' m) (N : News h₀ L h' ((r, o) :: (I, oI) :: (C, oC) :: (D, oD) :: n)) (l : ∀ p ∈ (I, oI) :: (C, oC) :: (D, oD) :: n, p.1 < r) (off : LCg.Off3 I C D n) (hS : S ((r, o) :: n)) (hr : rest y ((r, o) :: n)) :
    LCg.CompEnd h₀ L m s₁ I oI C oC D oD S rest y { s₁ with heap := h', toks := tk } :=
  LCg.CompEnd.intro F N ((r, o) :: n) (fun p hp => by
      simp only [List.mem_cons] at hp ⊢
      rcases hp with h | h | h | h | h <;> simp only [h, true_or, or_true])
    (off3_cons (Ne.symm (Nat.ne_of_lt (l _ (.head _)))) (Ne.symm (Nat.ne_of_lt (l _ (.tail _ (.head _))))) (Ne.symm (Nat.ne_of_lt (l _ (.tail _ (.tail _ (.head _)))))) off) hS hr
theorem items_snoc {P : Nat → Value → Prop} {ys : List Value} {y : Value} (h : ∀ j v, ys[j]? = some v → P j v) (hy : P ys.length y) : ∀ j v, (ys ++ [y])[j]? = some v → P j v := by
  intro j v hj
  by_cases hlt : j < ys.length
  · rw [List.getElem?_append_left hlt] at hj; exact h j v hj
  · have hlt2 : j < (ys ++ [y]).length := by
      obtain ⟨q, _⟩ := List.getElem?_eq_some_iff.mp hj
      exact q
    rw [List.length_append, List.length_singleton] at hlt2
    have : j = ys.length := by omega
    subst this
    rw [List.getElem?_append_right (Nat.le_refl _), Nat.sub_self] at hj
    have : y = v := Option.some.inj hj
    exact this ▸ hy
theorem list6 {ys : List Value} (h : ys.length = 6) : ∃ a b c d e f, ys = [a, b, c, d, e, f] := by
  match ys, h with
  | [a, b, c, d, e, f], _ => exact ⟨a, b, c, d, e, f, rfl⟩
section
variable {w : World} {mean : ExcName → Option Value} {mg mb : Str → Option Value} {dp un : Nat} {gd : Option (List Code)} {cn : Str} {cs : Scope} {ca : Addr} {ccd : Value} {cl : List (Str × Addr)} {outer : List Env} {A₀ : Around} {base h₀ : Heap} {L : Addr} {m : Str → Option Value} {news : List (Addr × Obj)} {s : Shared} {Q E : Value → Shared → Prop}
local macro_rules | `(tactic| walk_at "exec Assign cons ListComp") => `(tactic| (k_here; (with_reducible show wpAny _ _ (exec (Stmt.Assign [Expr.Name _ _] _ _) _) _ _ _); k_dflt (refine LCg.Assign_ListComp_U (F₀ := by k_asm) (by rfl) (by with_unfolding_all rfl) (by with_unfolding_all rfl) (by decide) (by rfl) (by decide) (by rfl) (by rfl) (by rfl) ?_)))
local macro_rules | `(tactic| walk_at "exec Assign cons ListComp") => `(tactic| (k_here; (with_reducible show wpAny _ _ (exec (Stmt.Assign [Expr.Attribute _ _ _] _ _) _) _ _ _); with_reducible refine plainObj_wpAny_Assign_Attribute ?_ ?_; rotate_left; with_unfolding_all rfl))
local macro_rules | `(tactic| walk_at "eval ListComp") => `(tactic| (k_here; k_dflt (refine LCg.ListComp_U (F₀ := by k_asm) (by with_unfolding_all rfl) (by decide) (by rfl) (by decide) (by rfl) ?_)))
local macro_rules | `(tactic| walk_at "CompSrc") => `(tactic| refine stop ?_)
local macro_rules | `(tactic| walk_at "CompEnd") => `(tactic| refine stop ?_)
local macro_rules | `(tactic| walk_at "call ref cons nil") => `(tactic| (k_here; k_dflt (refine' frac_ok ?C ?p0 ?p1 ?_; (case C => walk_at "mine cx"); (case p0 => walk_at "mine ar"); (case p1 => walk_at "mine ar"); intro r9 t9 u9 h9 tk9 F9 N9 l9; (try dsimp only); (try k_fold))))
local macro_rules | `(tactic| walk_at "call ref") => `(tactic| (k_here; k_dflt (refine' frac_ok ?C ?p0 ?p1 ?_; (case C => walk_at "mine cx"); (case p0 => walk_at "mine ar"); (case p1 => walk_at "mine ar"); intro r9 t9 u9 h9 tk9 F9 N9 l9; (try dsimp only); (try k_fold))))
local macro_rules | `(tactic| walk_at "call ref cons nil") => `(tactic| (k_here; k_dflt (refine' matrix_new ?C ?p0 ?p1 ?p2 ?p3 ?p4 ?p5 ?_; (case C => walk_at "mine cx"); (case p0 => walk_at "mine mem"); (case p1 => walk_at "mine mem"); (case p2 => walk_at "mine mem"); (case p3 => walk_at "mine mem"); (case p4 => walk_at "mine mem"); (case p5 => walk_at "mine mem"); intro r9 n9 h9 tk9 F9 N9 s9 m9; (try dsimp only); (try k_fold))))
local macro_rules | `(tactic| walk_at "call ref") => `(tactic| (k_here; k_dflt (refine' matrix_new ?C ?p0 ?p1 ?p2 ?p3 ?p4 ?p5 ?_; (case C => walk_at "mine cx"); (case p0 => walk_at "mine mem"); (case p1 => walk_at "mine mem"); (case p2 => walk_at "mine mem"); (case p3 => walk_at "mine mem"); (case p4 => walk_at "mine mem"); (case p5 => walk_at "mine mem"); intro r9 n9 h9 tk9 F9 N9 s9 m9; (try dsimp only); (try k_fold))))
theorem lmat_ok {a b c d e f : Int} {t1 t2 t3 t4 t5 t6 : Tok} {hl : Addr} {kh : Nat} (C : Cx w mean mg mb dp un 5 cs outer A₀ base h₀ L m s.heap news)
  (hh : (hl, six a b c d e f t1 t2 t3 t4 t5 t6 kh) ∈ news)
  (ret : ∀ r news' h' tk', Fr h₀ L h' m → News h₀ L h' news' → (∀ p ∈ news, p ∈ news') → MatIn w news' r (Rat.divInt a 2) (Rat.divInt b 2) (Rat.divInt c 2) (Rat.divInt d 2) (Rat.divInt e 2) (Rat.divInt f 2) → Q (.ref r) { s with heap := h', toks := tk' }) :
  wpAny (model PySem.Challenge.pw_pf0192_01 w) (ktrTop dp un gd cn cs L ca ccd cl outer) (call (.ref 412) [.ref hl]) Q E s := by
  obtain ⟨B, F, X, N, T, hk, hdp, hun⟩ := C
  refine wpAny_call ?_
  k_dflt (refine' code_def (binds := [(Str.ofString "halves", Value.ref hl)]) ?k1 ?k2 ?k3 ?k4 ?k5 ?kA ?kF ?kK ?k6 ?k7 ?k8 ?k9 ?kB ?_ ?c2 ?c3 ?c4 ?c5; walk_at "mine enter")
  k_steps
  refine Stop.mk ?_
  (rename News _ _ _ _ => N9)
  (rename Fr _ _ _ _ => F9)
  refine LCg.CompSrc.ledger rfl F9 N9 hh (by show 6 ≤ sizeLine; decide) fun g => ?_
  refine comp_inv (fun i ys nw => (∀ p ∈ news, p ∈ nw) ∧ ys.length = i ∧ ∀ j v, ys[j]? = some v → ∃ r t u, v = .ref r ∧ (r, rt (Rat.divInt ([a, b, c, d, e, f].getD j 0) 2) t u) ∈ nw) ?_ ?_ _ 0 [] news (by rfl) ⟨fun _ h => h, rfl, fun j v h => by simp at h⟩
  · intro i ys nw v I oI C oC D m₂ h tk E' hi hJ hP hC hx F1 N1 off ne
    obtain ⟨hs, hlen, hJ⟩ := hJ
    obtain ⟨k, t, rfl, hk⟩ : ∃ k t, v = .int k t ∧ k = [a, b, c, d, e, f].getD i 0 := by
      have hi' : i < 6 := hi
      have : i = 0 ∨ i = 1 ∨ i = 2 ∨ i = 3 ∨ i = 4 ∨ i = 5 := by omega
      rcases this with rfl | rfl | rfl | rfl | rfl | rfl <;> exact ⟨_, _, (Option.some.inj hP).symm, rfl⟩
    k_steps
    refine Stop.mk ?_
    (rename News _ _ _ _ => N9)
    (rename ∀ p ∈ _, Prod.fst p < _ => l9)
    refine compEnd1 (by assumption) N9 l9 off (.inr ⟨_, .tail _ (hs _ hh), rfl, _, rfl⟩) ⟨fun p hp => .tail _ (hs p hp), by simp [hlen], items_snoc (fun j v hj => ?_) ?_⟩
    · obtain ⟨r, t, u, e1, e2⟩ := hJ j v hj
      exact ⟨r, t, u, e1, .tail _ e2⟩
    · rw [hlen, ← hk]
      exact ⟨_, _, _, rfl, .head _⟩
  · intro ys nw hJ D h' tk' F' N' off'
    obtain ⟨hs, hlen, hJ⟩ := hJ
    obtain ⟨y0, y1, y2, y3, y4, y5, rfl⟩ := list6 (ys := ys) hlen
    obtain ⟨r0, a0, b0, rfl, m0⟩ := hJ 0 _ rfl
    obtain ⟨r1, a1, b1, rfl, m1⟩ := hJ 1 _ rfl
    obtain ⟨r2, a2, b2, rfl, m2⟩ := hJ 2 _ rfl
    obtain ⟨r3, a3, b3, rfl, m3⟩ := hJ 3 _ rfl
    obtain ⟨r4, a4, b4, rfl, m4⟩ := hJ 4 _ rfl
    obtain ⟨r5, a5, b5, rfl, m5⟩ := hJ 5 _ rfl
    clear hJ
    k_steps
    (rename MatIn _ _ _ _ _ _ _ _ _ => m9)
    (rename ∀ p ∈ _, p ∈ _ => s9)
    exact ret _ _ _ _ (by assumption) (by assumption) (fun p hp => s9 p (.tail _ (hs p hp))) m9
end
/-- what is drawn from -/
abbrev src (a b : Int) (t u : Tok) (k : Nat) : Obj := lstn [.int a t, .int b u] k
def SrcOk (a b : Int) : Prop := 0 ≤ a ∧ 0 ≤ b ∧ b < 2147483647
theorem len_my {prog : Program} {w : World} {A : Around} {E : Value → Shared → Prop} {s : Shared} {l : Addr} {vs : List Value} {n : Nat} {Q : Value → Shared → Prop} {h₀ : Heap} {L : Addr} {news : List (Addr × Obj)}
    (N : News h₀ L s.heap news) (hm : (l, lstn vs n) ∈ news) (hf : vs.length < 1000) (h : Q (.int (vs.length : Int) (s.toks + 1)) { s with toks := s.toks + 1 + 1 }) : wpAny (model prog w) A (call (.builtin "len") [.ref l]) Q E s :=
  have hl : s.heap.IsList l vs.toArray := ⟨_, (N _ hm).1, rfl, n, rfl⟩
  len_list hl (by rw [List.size_toArray]; omega) (by rw [List.size_toArray]; exact h)
theorem item_any {prog : Program} {w : World} {A : Around} {E : Value → Shared → Prop} {s : Shared} {value slice : PySem.Expr} {l : Addr} {vs : List Value} {n : Nat} {k : Int} {u : Tok} {Q : Value → Shared → Prop} {h₀ : Heap} {L : Addr} {news : List (Addr × Obj)}
    (N : News h₀ L s.heap news) (hm : (l, lstn vs n) ∈ news) (h0 : 0 ≤ k) (h1 : k < (vs.length : Int)) (hf : vs.length < 1000) (h : ∀ v, v ∈ vs → Q v s)
    (hs : subscripted slice false (.ref l) (.int k u) = operate [.ref l, .int k u] (getItem (.ref l) (.int k u)) := by with_unfolding_all rfl) :
    wpAny (model prog w) A (subscriptTail value slice (.ref l) (.int k u)) Q E s :=
  have hlt : k.toNat < vs.length := by omega
  item_list (v := vs[k.toNat]) N hm h0 (by omega) (List.getElem?_eq_getElem hlt) (h _ (List.getElem_mem hlt)) hs
theorem uUse {l : Addr} {o : Obj} {news : List (Addr × Obj)} {N' : Obj → List (Addr × Obj)} (U : ∀ o', Upd l o o' news (N' o')) {o' : Obj} : Upd l o o' news (N' o') := U o'
section
variable {w : World} {mean : ExcName → Option Value} {mg mb : Str → Option Value} {dp un : Nat} {gd : Option (List Code)} {cn : Str} {cs : Scope} {ca : Addr} {ccd : Value} {cl : List (Str × Addr)} {outer : List Env} {A₀ : Around} {base h₀ : Heap} {L : Addr} {m : Str → Option Value} {news : List (Addr × Obj)} {s : Shared} {Q E : Value → Shared → Prop}
theorem take0 {l : Addr} {a b top : Int} {ta tb tt : Tok} {k : Nat} {rest : List (Addr × Obj)} (C : Cx w mean mg mb dp un 1 cs outer A₀ base h₀ L m s.heap ((l, src a b ta tb k) :: rest)) (off : ∀ p ∈ rest, p.1 ≠ l) (ha : SrcOk a b) (ht : 0 < top) (ht2 : top < 1000)
  (ret : ∀ d a' b' ta' tb' k' t h' tk', 0 ≤ d → d < top → SrcOk a' b' → Fr h₀ L h' m → News h₀ L h' ((l, src a' b' ta' tb' k') :: rest) → Q (.int d t) { s with heap := h', toks := tk' }) :
  wpAny (model PySem.Challenge.pw_pf0192_01 w) (ktrTop dp un gd cn cs L ca ccd cl outer) (call (.ref 358) [.ref l, .int top tt]) Q E s := by
  obtain ⟨a1, b1, b2⟩ := ha
  obtain ⟨B, F, X, N, T, hk, hdp, hun⟩ := C
  refine wpAny_call ?_
  k_dflt (refine' code_def (binds := [(Str.ofString "source", Value.ref l), (Str.ofString "top", Value.int top tt)]) ?k1 ?k2 ?k3 ?k4 ?k5 ?kA ?kF ?kK ?k6 ?k7 ?k8 ?k9 ?kB ?_ ?c2 ?c3 ?c4 ?c5; walk_at "mine enter")
  k_steps
  · refine ret _ _ _ _ _ _ _ _ _ (modpos ht).1 (modpos ht).2 ⟨?_, b1, b2⟩ (by assumption) (by assumption)
    rw [fdE ht]; exact Int.ediv_nonneg a1 (Int.le_of_lt ht)
  · exact ret _ _ _ _ _ _ _ _ _ (modpos ht).1 (modpos ht).2 ⟨a1, (modpos (by decide)).1, (modpos (by decide)).2⟩ (by assumption) (by assumption)
theorem take_ok {l : Addr} {a b top : Int} {ta tb tt : Tok} {k : Nat} {N' : Obj → List (Addr × Obj)} (C : Cx w mean mg mb dp un 1 cs outer A₀ base h₀ L m s.heap news) (U : ∀ o', Upd l (src a b ta tb k) o' news (N' o')) (ha : SrcOk a b) (ht : 0 < top) (ht2 : top < 1000)
  (ret : ∀ d a' b' ta' tb' k' t h' tk', 0 ≤ d → d < top → SrcOk a' b' → Fr h₀ L h' m → News h₀ L h' (N' (src a' b' ta' tb' k')) → Q (.int d t) { s with heap := h', toks := tk' }) :
  wpAny (model PySem.Challenge.pw_pf0192_01 w) (ktrTop dp un gd cn cs L ca ccd cl outer) (call (.ref 358) [.ref l, .int top tt]) Q E s := by
  obtain ⟨pre, post, e1, e2, o1, o2⟩ := (U (src a b ta tb k)).split
  have hs : ∀ o, ∃ pre post, news = pre ++ (l, src a b ta tb k) :: post ∧ N' o = pre ++ (l, o) :: post ∧ (∀ p ∈ pre, p.1 ≠ l) ∧ ∀ p ∈ post, p.1 ≠ l := fun o => (U o).split
  have N0 : News h₀ L s.heap ((l, src a b ta tb k) :: (pre ++ post)) := nSub C.N (fun p hp => by
    rw [e1]; simp only [List.mem_cons, List.mem_append] at hp ⊢
    rcases hp with h | h | h <;> simp only [h, true_or, or_true])
  refine take0 { C with N := N0 } (fun p hp => (List.mem_append.mp hp).elim (o1 p) (o2 p)) ha ht ht2 fun d a' b' ta' tb' k' t h' tk' h1 h2 h3 F N => ?_
  refine ret d a' b' ta' tb' k' t h' tk' h1 h2 h3 F (nSub N (fun p hp => ?_))
  obtain ⟨pre', post', q1, q2, q3, q4⟩ := hs (src a' b' ta' tb' k')
  rw [q2] at hp
  have inN : ∀ p ∈ pre' ++ post', p ∈ pre ++ post := by
    intro p hp
    have h5 : p ∈ news := by
      rw [q1]; simp only [List.mem_append, List.mem_cons] at hp ⊢
      rcases hp with h | h <;> simp only [h, true_or, or_true]
    have h6 : p.1 ≠ l := (List.mem_append.mp hp).elim (q3 p) (q4 p)
    rw [e1] at h5
    simp only [List.mem_append, List.mem_cons] at h5 ⊢
    rcases h5 with h | h | h
    · exact .inl h
    · exact absurd (by rw [h]) h6
    · exact .inr h
  simp only [List.mem_append, List.mem_cons] at hp
  rcases hp with h | h | h
  · exact .tail _ (inN p (List.mem_append_left _ h))
  · rw [h]; exact .head _
  · exact .tail _ (inN p (List.mem_append_right _ h))
local macro_rules | `(tactic| k_upd) => `(tactic| exact uUse (by assumption))
local macro_rules | `(tactic| walk_at "mine upd") => `(tactic| (intro o9; k_upd))
local macro_rules | `(tactic| walk_at "call ref cons nil") => `(tactic| (k_here; k_dflt (refine' take_ok ?C ?p0 ?p1 ?p2 ?p3 ?_; (case C => walk_at "mine cx"); (case p0 => walk_at "mine upd"); (case p1 => walk_at "mine ar"); (case p2 => walk_at "mine ar"); (case p3 => walk_at "mine ar"); intro d9 a9 b9 t9 u9 k9 v9 h9 tk9 lo9 hi9 ok9 F9 N9; (try dsimp only at N9); (try dsimp only); (try k_fold))))
local macro_rules | `(tactic| walk_at "call ref") => `(tactic| (k_here; k_dflt (refine' take_ok ?C ?p0 ?p1 ?p2 ?p3 ?_; (case C => walk_at "mine cx"); (case p0 => walk_at "mine upd"); (case p1 => walk_at "mine ar"); (case p2 => walk_at "mine ar"); (case p3 => walk_at "mine ar"); intro d9 a9 b9 t9 u9 k9 v9 h9 tk9 lo9 hi9 ok9 F9 N9; (try dsimp only at N9); (try dsimp only); (try k_fold))))
local macro_rules | `(tactic| walk_at "call builtin:len") => `(tactic| (k_here; k_dflt (refine' len_my ?N ?m ?f ?_; (case N => k_asm); (case m => k_mem); (case f => assumption); k_whole)))
local macro_rules | `(tactic| walk_at "subscriptTail Name Call") => `(tactic| (k_here; k_dflt (refine' item_any ?N ?m ?a ?b ?f ?_ ?d; (case N => k_asm); (case m => k_mem); (case f => assumption); (case a => assumption); (case b => assumption); (case d => with_unfolding_all rfl); k_whole); intro v9 m9))
theorem one_ok {l th : Addr} {a b : Int} {ta tb : Tok} {k kt : Nat} {vs : List Value} {N' : Obj → List (Addr × Obj)} (C : Cx w mean mg mb dp un 2 cs outer A₀ base h₀ L m s.heap ((th, lstn vs kt) :: news)) (hne : th ≠ l) (U : ∀ o', Upd l (src a b ta tb k) o' news (N' o')) (ha : SrcOk a b) (h0 : 0 < vs.length) (h1 : vs.length < 1000)
  (ret : ∀ v a' b' ta' tb' k' h' tk', v ∈ vs → SrcOk a' b' → Fr h₀ L h' m → News h₀ L h' (N' (src a' b' ta' tb' k')) → Q v { s with heap := h', toks := tk' }) :
  wpAny (model PySem.Challenge.pw_pf0192_01 w) (ktrTop dp un gd cn cs L ca ccd cl outer) (call (.ref 365) [.ref l, .ref th]) Q E s := by
  have hne' := neN hne
  obtain ⟨B, F, X, N, T, hk, hdp, hun⟩ := C
  refine wpAny_call ?_
  k_dflt (refine' code_def (binds := [(Str.ofString "source", Value.ref l), (Str.ofString "things", Value.ref th)]) ?k1 ?k2 ?k3 ?k4 ?k5 ?kA ?kF ?kK ?k6 ?k7 ?k8 ?k9 ?kB ?_ ?c2 ?c3 ?c4 ?c5; walk_at "mine enter")
  k_steps
  (rename News _ _ _ _ => N9)
  (rename SrcOk _ _ => ok9)
  (rename _ ∈ vs => m9)
  exact ret _ _ _ _ _ _ _ _ m9 ok9 (by assumption) (nTail N9)
end
theorem updSplit {l : Addr} {o : Obj} {news : List (Addr × Obj)} {N' : Obj → List (Addr × Obj)} (U : ∀ o', Upd l o o' news (N' o')) :
    ∃ rest, (∀ p ∈ rest, p.1 ≠ l) ∧ (∀ p ∈ (l, o) :: rest, p ∈ news) ∧ ∀ o', ∀ p ∈ N' o', p ∈ (l, o') :: rest := by
  obtain ⟨pre, post, e1, e2, o1, o2⟩ := (U o).split
  refine ⟨pre ++ post, fun p hp => (List.mem_append.mp hp).elim (o1 p) (o2 p), fun p hp => ?_, fun o' p hp => ?_⟩
  · rw [e1]; simp only [List.mem_cons, List.mem_append] at hp ⊢
    rcases hp with h | h | h <;> simp only [h, true_or, or_true]
  · obtain ⟨pre', post', q1, q2, q3, q4⟩ := (U o').split
    rw [q2] at hp
    have inN : ∀ p ∈ pre' ++ post', p ∈ pre ++ post := by
      intro p hp
      have h5 : p ∈ news := by
        rw [q1]; simp only [List.mem_append, List.mem_cons] at hp ⊢
        rcases hp with h | h <;> simp only [h, true_or, or_true]
      have h6 : p.1 ≠ l := (List.mem_append.mp hp).elim (q3 p) (q4 p)
      rw [e1] at h5
      simp only [List.mem_append, List.mem_cons] at h5 ⊢
      rcases h5 with h | h | h
      · exact .inl h
      · exact absurd (by rw [h]) h6
      · exact .inr h
    simp only [List.mem_append, List.mem_cons] at hp
    rcases hp with h | h | h
    · exact .tail _ (inN p (List.mem_append_left _ h))
    · rw [h]; exact .head _
    · exact .tail _ (inN p (List.mem_append_right _ h))
section
variable {w : World} {mean : ExcName → Option Value} {mg mb : Str → Option Value} {dp un : Nat} {gd : Option (List Code)} {cn : Str} {cs : Scope} {ca : Addr} {ccd : Value} {cl : List (Str × Addr)} {outer : List Env} {A₀ : Around} {base h₀ : Heap} {L : Addr} {m : Str → Option Value} {news : List (Addr × Obj)} {s : Shared} {Q E : Value → Shared → Prop}
local macro_rules | `(tactic| walk_at "mine upd") => `(tactic| (intro o9; k_upd))
local macro_rules | `(tactic| walk_at "mine ne") => `(tactic| (refine neN ?_; (try dsimp only); omega))
local macro_rules | `(tactic| walk_at "mine dec") => `(tactic| exact Nat.le_of_ble_eq_true rfl)
local macro_rules | `(tactic| walk_at "call ref cons nil") => `(tactic| (k_here; k_dflt (refine' one_ok ?C ?p0 ?p1 ?p2 ?p3 ?p4 ?_; (case C => walk_at "mine cx"); (case p0 => walk_at "mine ne"); (case p1 => walk_at "mine upd"); (case p2 => walk_at "mine ar"); (case p3 => walk_at "mine dec"); (case p4 => walk_at "mine dec"); intro w9 a9 b9 t9 u9 k9 h9 tk9 m9 ok9 F9 N9; (try dsimp only at N9); (try dsimp only); (try k_fold))))
local macro_rules | `(tactic| walk_at "call ref") => `(tactic| (k_here; k_dflt (refine' one_ok ?C ?p0 ?p1 ?p2 ?p3 ?p4 ?_; (case C => walk_at "mine cx"); (case p0 => walk_at "mine ne"); (case p1 => walk_at "mine upd"); (case p2 => walk_at "mine ar"); (case p3 => walk_at "mine dec"); (case p4 => walk_at "mine dec"); intro w9 a9 b9 t9 u9 k9 h9 tk9 m9 ok9 F9 N9; (try dsimp only at N9); (try dsimp only); (try k_fold))))
theorem side0 {l : Addr} {a b : Int} {ta tb : Tok} {k : Nat} {rest : List (Addr × Obj)} (C : Cx w mean mg mb dp un 3 cs outer A₀ base h₀ L m s.heap ((l, src a b ta tb k) :: rest)) (off : ∀ p ∈ rest, p.1 ≠ l) (ha : SrcOk a b)
  (ret : ∀ r p q tp tq a' b' ta' tb' k' h' tk', 0 < q → q ≤ 6 → -11 ≤ p → p ≤ 11 → SrcOk a' b' → @LT.lt Nat _ l r → Fr h₀ L h' m → News h₀ L h' ((r, pr p q tp tq) :: (l, src a' b' ta' tb' k') :: rest) → Q (.ref r) { s with heap := h', toks := tk' }) :
  wpAny (model PySem.Challenge.pw_pf0192_01 w) (ktrTop dp un gd cn cs L ca ccd cl outer) (call (.ref 393) [.ref l]) Q E s := by
  obtain ⟨B, F, X, N, T, hk, hdp, hun⟩ := C
  refine wpAny_call ?_
  k_dflt (refine' code_def (binds := [(Str.ofString "source", Value.ref l)]) ?k1 ?k2 ?k3 ?k4 ?k5 ?kA ?kF ?kK ?k6 ?k7 ?k8 ?k9 ?kB ?_ ?c2 ?c3 ?c4 ?c5; walk_at "mine enter")
  k_steps
  (rename News _ _ _ _ => N9)
  (rename SrcOk _ _ => ok9)
  (rename _ ∈ _ => m9)
  simp only [List.mem_cons, List.not_mem_nil, or_false] at m9
  rcases m9 with rfl | rfl | rfl | rfl | rfl | rfl | rfl | rfl
  all_goals (refine ret _ _ _ _ _ _ _ _ _ _ _ _ ?_ ?_ ?_ ?_ ok9 ?_ (by assumption) (nPick N9 (by k_mem) (nPick N9 (by k_mem) (nSub N9 (by walk_at "mine up")))) <;> first | decide | omega)
theorem side_ok {l : Addr} {a b : Int} {ta tb : Tok} {k : Nat} {N' : Obj → List (Addr × Obj)} (C : Cx w mean mg mb dp un 3 cs outer A₀ base h₀ L m s.heap news) (U : ∀ o', Upd l (src a b ta tb k) o' news (N' o')) (ha : SrcOk a b)
  (ret : ∀ r p q tp tq a' b' ta' tb' k' h' tk', 0 < q → q ≤ 6 → -11 ≤ p → p ≤ 11 → SrcOk a' b' → @LT.lt Nat _ l r → Fr h₀ L h' m → News h₀ L h' ((r, pr p q tp tq) :: N' (src a' b' ta' tb' k')) → Q (.ref r) { s with heap := h', toks := tk' }) :
  wpAny (model PySem.Challenge.pw_pf0192_01 w) (ktrTop dp un gd cn cs L ca ccd cl outer) (call (.ref 393) [.ref l]) Q E s := by
  obtain ⟨rest, o1, o2, o3⟩ := updSplit U
  refine side0 { C with N := nSub C.N o2 } o1 ha fun r p q tp tq a' b' ta' tb' k' h' tk' h1 h2 h3 h4 h5 h6 F N => ?_
  exact ret r p q tp tq a' b' ta' tb' k' h' tk' h1 h2 h3 h4 h5 h6 F (nPick N (.head _) (nSub N fun p hp => .tail _ (o3 _ p hp)))
end
section
variable {w : World} {mean : ExcName → Option Value} {mg mb : Str → Option Value} {dp un : Nat} {gd : Option (List Code)} {cn : Str} {cs : Scope} {ca : Addr} {ccd : Value} {cl : List (Str × Addr)} {outer : List Env} {A₀ : Around} {base h₀ : Heap} {L : Addr} {m : Str → Option Value} {news : List (Addr × Obj)} {s : Shared} {Q E : Value → Shared → Prop}
theorem pool_ok {l : Addr} {vs : List Value} {ns : List Int} {k : Int} {tk0 : Tok} (C : Cx w mean mg mb dp un 1 cs outer A₀ base h₀ L m s.heap news) (hl : base.IsList l vs.toArray) (hi : IntsAre vs ns) (hn : ns.length < 64) (k0 : 0 ≤ k) (k1 : k < 2)
  (ret : ∀ r a b ta tb k' h' tk', SrcOk a b → Fr h₀ L h' m → News h₀ L h' ((r, src a b ta tb k') :: news) → (∀ p ∈ news, p.1 < r) → Q (.ref r) { s with heap := h', toks := tk' }) :
  wpAny (model PySem.Challenge.pw_pf0192_01 w) (ktrTop dp un gd cn cs L ca ccd cl outer) (call (.ref 351) [.ref l, .int k tk0]) Q E s := by
  obtain ⟨B, F, X, N, T, hk, hdp, hun⟩ := C
  refine wpAny_call ?_
  k_dflt (refine' code_def (binds := [(Str.ofString "script", Value.ref l), (Str.ofString "k", Value.int k tk0)]) ?k1 ?k2 ?k3 ?k4 ?k5 ?kA ?kF ?kK ?k6 ?k7 ?k8 ?k9 ?kB ?_ ?c2 ?c3 ?c4 ?c5; walk_at "mine enter")
  (rename Below _ _ _ _ => B9)
  k_lift B9
  k_steps
  all_goals (refine ret _ _ _ _ _ _ _ _ ⟨?_, (modpos (by decide)).1, (modpos (by decide)).2⟩ (by assumption) (by assumption) (by first | assumption | exact ktn_ltOf (by assumption)))
  all_goals (refine Int.mul_nonneg ?_ ?_ <;> (repeat' split) <;> omega)
end
theorem fold_rep (a : Value) : ∀ (n : Nat) (z : Array Value), List.foldl (fun x1 x2 => x1 ++ x2) z (List.replicate n #[a]) = z ++ (List.replicate n a).toArray
  | 0, z => by simp
  | n + 1, z => by
    rw [List.replicate_succ, List.foldl_cons, fold_rep a n, List.replicate_succ, Array.append_assoc]
    congr 1
    apply Array.toList_inj.mp
    simp
theorem rep_obj (a : Value) (n : Nat) : ({ cls := .type "list", data := .seq (List.foldl (fun x1 x2 => x1 ++ x2) #[] (List.replicate (if #[a].isEmpty = true then 0 else ((n : Nat) : Int).toNat) #[a])) } : Obj) = lstn (List.replicate n a) 0 := by
  have e : (if #[a].isEmpty = true then 0 else ((n : Nat) : Int).toNat) = n := by simp
  rw [e, fold_rep]
  simp
theorem rows_src {prog : Program} {w : World} {A : Around} {h₀ : Heap} {L : Addr} {m : Str → Option Value} {env : Env} {elt : Expr} {x : Str} {scope : Scope} {cl : List (Str × Addr)} {Fin : Shared → List Value → List (Addr × Obj) → Prop} {r : Addr} {n : Nat} {t u v : Tok} {base : List (Addr × Obj)} {s₁ : Shared} (o : Obj)
    (hh : A.handled = none) (F : Fr h₀ L s₁.heap m) (N : News h₀ L s₁.heap base) (hr : IsRange s₁.heap r 0 (n : Int) 1 t u v) (hn : n < 10)
    (turn : ∀ (added : List (Addr × Obj)) (ys : List Value) I oI C oC D h tk (E' : Value → Shared → Prop), Fr h₀ L h m → News h₀ L h ((I, oI) :: (C, oC) :: (D, LCg.lst ys) :: (added ++ base)) → LCg.Off3 I C D (added ++ base) →
      wpAny (model prog w) A (eval elt (compEnvC scope cl C env)) (LCg.CompEnd h₀ L m { s₁ with heap := h, toks := tk } I oI C oC D (LCg.lst ys) (fun _ => True) (fun y nw' => ∃ r, y = .ref r ∧ nw' = (r, o) :: (added ++ base) ∧ ∀ p ∈ added ++ base, p.1 < r)) E' { s₁ with heap := h, toks := tk })
    (fin : ∀ g (added : List (Addr × Obj)) (rows : List Addr), (∀ p ∈ added, ∀ q ∈ base, q.1 < p.1) → rows.length = n → rows.Nodup → (∀ r ∈ rows, (r, o) ∈ added) → Fin { s₁ with heap := g } (rows.map Value.ref) (added ++ base)) :
    LCg.CompSrc prog w A h₀ L m env elt x scope cl Fin (.ref r) s₁ := by
  refine LCg.CompSrc.range (n := n) hh F N hr (small_one (by omega) (by omega) (by omega) (by omega)) (rangeSize_nat _ _) (by rw [PySem.sizeLine_eq]; omega) fun g => ?_
  refine comp_inv (fun i ys nw => ∃ (added : List (Addr × Obj)) (rows : List Addr), nw = added ++ base ∧ ys = rows.map Value.ref ∧ rows.length = i ∧ rows.Nodup ∧ (∀ p ∈ added, ∀ q ∈ base, q.1 < p.1) ∧ ∀ r ∈ rows, (r, o) ∈ added) ?_ ?_ _ 0 [] _ (Nat.zero_add _) ⟨[], [], rfl, rfl, rfl, List.nodup_nil, fun p hp => (nomatch hp), fun r hr => (nomatch hr)⟩
  · rintro i ys nw v I oI C oC D m₂ h tk E' hi ⟨added, rows, rfl, rfl, rfl, hnd, hlt, hrow⟩ hP hC hx F1 N1 off ne
    refine wpAny_mono (turn added (rows.map Value.ref) I oI C oC D h tk E' F1 N1 off) (fun y s₂ hq => ?_) fun _ _ x => x
    obtain ⟨h', tk', nw, e', F', N', off', hS, r, rfl, rfl, hr'⟩ := hq
    refine ⟨h', tk', _, e', F', N', off', hS, (r, o) :: added, rows ++ [r], rfl, by rw [List.map_append]; rfl, by simp, ?_, ?_, ?_⟩
    · refine List.nodup_append.mpr ⟨hnd, List.nodup_cons.mpr ⟨by simp, List.nodup_nil⟩, fun a ha b hb => ?_⟩
      rw [List.mem_singleton.mp hb]
      exact Nat.ne_of_lt (hr' _ (List.mem_append_left _ (hrow a ha)))
    · intro p hp q hq
      rcases List.mem_cons.mp hp with rfl | hp
      · exact hr' q (List.mem_append_right _ hq)
      · exact hlt p hp q hq
    · intro a ha
      rcases List.mem_append.mp ha with ha | ha
      · exact .tail _ (hrow a ha)
      · rw [List.mem_singleton.mp ha]; exact .head _
  · rintro ys nw ⟨added, rows, rfl, rfl, hl, hnd, hlt, hrow⟩
    exact fin g added rows hlt hl hnd hrow
theorem off1_mem {D : Addr} : ∀ {l : List (Addr × Obj)}, LCg.Off1 D l → ∀ p ∈ l, p.1 ≠ D
  | [], _, _, h => nomatch h
  | _ :: _, x, p, h => by
    rcases List.mem_cons.mp h with rfl | h
    · exact x.1
    · exact off1_mem x.2 p h
section
variable {w : World} {mean : ExcName → Option Value} {mg mb : Str → Option Value} {dp un : Nat} {gd : Option (List Code)} {cn : Str} {cs : Scope} {ca : Addr} {ccd : Value} {cl : List (Str × Addr)} {outer : List Env} {A₀ : Around} {base h₀ : Heap} {L : Addr} {m : Str → Option Value} {news : List (Addr × Obj)} {s : Shared} {Q E : Value → Shared → Prop}
local macro_rules | `(tactic| walk_at "exec Assign cons ListComp") => `(tactic| (k_here; (with_reducible show wpAny _ _ (exec (Stmt.Assign [Expr.Name _ _] _ _) _) _ _ _); k_dflt (refine LCg.Assign_ListComp_U (F₀ := by k_asm) (by rfl) (by with_unfolding_all rfl) (by with_unfolding_all rfl) (by decide) (by rfl) (by decide) (by rfl) (by rfl) (by rfl) ?_)))
local macro_rules | `(tactic| walk_at "exec Assign cons ListComp") => `(tactic| (k_here; (with_reducible show wpAny _ _ (exec (Stmt.Assign [Expr.Attribute _ _ _] _ _) _) _ _ _); with_reducible refine plainObj_wpAny_Assign_Attribute ?_ ?_; rotate_left; with_unfolding_all rfl))
local macro_rules | `(tactic| walk_at "eval ListComp") => `(tactic| (k_here; k_dflt (refine LCg.ListComp_U (F₀ := by k_asm) (by with_unfolding_all rfl) (by decide) (by rfl) (by decide) (by rfl) ?_)))
local macro_rules | `(tactic| walk_at "CompSrc") => `(tactic| refine stop ?_)
local macro_rules | `(tactic| walk_at "CompEnd") => `(tactic| refine stop ?_)
theorem canvas_new {Wd Ht : Nat} {left top : Int} {t1 t2 t3 t4 : Tok} (C : Cx w mean mg mb dp un 2 cs outer A₀ base h₀ L m s.heap news) (hW : 0 < Wd) (hW2 : Wd < 10) (hH : 0 < Ht) (hH2 : Ht < 10)
  (ret : ∀ c added h' tk', Fr h₀ L h' m → News h₀ L h' (added ++ news) → (∀ p ∈ added, ∀ q ∈ news, p.1 ≠ q.1) → CanIn w added c Wd Ht left top 0 → Q (.ref c) { s with heap := h', toks := tk' }) :
  wpAny (model PySem.Challenge.pw_pf0192_01 w) (ktrTop dp un gd cn cs L ca ccd cl outer) (call (.ref 277) [.int (Wd : Int) t1, .int (Ht : Int) t2, .int left t3, .int top t4]) Q E s := by
  obtain ⟨B, F, X, N, T, hk, hdp, hun⟩ := C
  k_dflt (refine' call_cls ?k1 ?k2 ?k3 ?k4 ?k5 ?k6 ?_; (case k1 => k_asm); (case k2 => k_asm); (case k3 => k_asm); (case k4 => k_is); (case k5 => k_is); (case k6 => k_is); k_whole)
  intro x1 d1 h1 F1 N1 l1 l2
  k_lt2 l2
  k_dflt (refine' code_defC (binds := [(Str.ofString "self", Value.ref x1), (Str.ofString "width", Value.int (Wd : Int) t1), (Str.ofString "height", Value.int (Ht : Int) t2), (Str.ofString "left", Value.int left t3), (Str.ofString "top", Value.int top t4)]) ?k1 ?k2 ?k3 ?k4 ?k5 ?kA ?kF ?kK ?k6 ?k7 ?k8 ?k9 ?kB ?kD ?_ ?c2 ?c3 ?c4; walk_at "mine enterC")
  k_steps
  refine Stop.mk ?_
  (rename News _ _ _ _ => N9)
  (rename Fr _ _ _ _ => F9)
  (rename IsRange _ _ _ _ _ _ _ _ => R9)
  (rename Obj.data _ = Data.cell _ => dc)
  refine rows_src (n := Ht) (lstn (List.replicate Wd (.ref 207)) 0) rfl F9 N9 R9 hH2 ?_ ?_
  · intro added ys I oI C oC D h tk E' F1 N1 off
    k_steps
    refine Stop.mk ?_
    (rename News _ _ _ _ => N8)
    (rename News _ _ _ ((_, W.listOf #[Value.ref 207] 0) :: _) => N7)
    rw [rep_obj] at N8
    refine LCg.CompEnd.intro (by assumption) N8 _ (fun p hp => ?_) ?_ trivial ⟨_, rfl, rfl, fun p hp => Heap.lt_size (N7 p (.tail _ (.tail _ (.tail _ (.tail _ hp))))).1⟩
    · simp only [List.mem_cons] at hp ⊢
      rcases hp with h | h | h | h | h <;> simp only [h, true_or, or_true]
    · exact off3_cons (Ne.symm (Nat.ne_of_lt (Heap.lt_size (N7 _ (.tail _ (.head _))).1))) (Ne.symm (Nat.ne_of_lt (Heap.lt_size (N7 _ (.tail _ (.tail _ (.head _)))).1))) (Ne.symm (Nat.ne_of_lt (Heap.lt_size (N7 _ (.tail _ (.tail _ (.tail _ (.head _))))).1))) off
  · intro g added rows hlt hlen hnd hrow D h' tk' F' N' off'
    have off2 := off1_mem off'
    have hd1 : ∀ p ∈ (D, LCg.lst (rows.map Value.ref)) :: (added ++ news), p.1 ≠ d1 := by
      intro p hp
      rcases List.mem_cons.mp hp with rfl | hp
      · exact Ne.symm (off2 _ (List.mem_append_right _ (.tail _ (.tail _ (.head _)))))
      · rcases List.mem_append.mp hp with hp | hp
        · exact Ne.symm (Nat.ne_of_lt (hlt p hp _ (.tail _ (.tail _ (.head _)))))
        · exact Nat.ne_of_lt (l1 p hp)
    have N6 := nPick N' (.tail _ (List.mem_append_right _ (.tail _ (.head _)))) (nPick N' (.tail _ (List.mem_append_right _ (.tail _ (.tail _ (.head _))))) (nSub (n' := (D, LCg.lst (rows.map Value.ref)) :: (added ++ news)) N' (by
      intro p hp
      simp only [List.mem_cons, List.mem_append] at hp ⊢
      rcases hp with h | h | h <;> simp only [h, true_or, or_true])))
    have hDn : ∀ q ∈ news, D ≠ q.1 := fun q hq => Ne.symm (off2 q (List.mem_append_right _ (.tail _ (.tail _ (.tail _ hq)))))
    have hAn : ∀ p ∈ added, ∀ q ∈ news, p.1 ≠ q.1 := fun p hp q hq => Ne.symm (Nat.ne_of_lt (hlt p hp q (.tail _ (.tail _ (.tail _ hq)))))
    have hDr : (D :: rows).Nodup := List.nodup_cons.mpr ⟨fun hm => off2 _ (List.mem_append_left _ (hrow D hm)) rfl, hnd⟩
    clear N' off' off2 hlt
    k_steps
    (rename News _ _ _ _ => N5)
    refine ret x1 (_ :: _ :: (D, LCg.lst (rows.map Value.ref)) :: added) _ _ (by assumption) N5 ?_ ⟨d1, D, rows, _, _, _, _, _, _, _, _, _, _, .head _, .tail _ (.head _), .tail _ (.tail _ (.head _)), hlen, hDr, ?_⟩
    · intro p hp q hq
      rcases List.mem_cons.mp hp with rfl | hp
      · exact Ne.symm (Nat.ne_of_lt (Nat.lt_trans (l1 q hq) l2))
      · rcases List.mem_cons.mp hp with rfl | hp
        · exact Ne.symm (Nat.ne_of_lt (l1 q hq))
        · rcases List.mem_cons.mp hp with rfl | hp
          · exact hDn q hq
          · exact hAn p hp q hq
    · intro j r hj
      refine ⟨_, _, .tail _ (.tail _ (.tail _ (hrow r (List.mem_of_getElem? hj)))), by simp, fun i v hi => ⟨fun h => absurd h (Nat.not_lt_zero _), fun _ => ?_⟩⟩
      exact List.eq_of_mem_replicate (List.mem_of_getElem? hi)
end
/-- the ledger with another object at r -/
def setL (r : Addr) (o : Obj) (l : List (Addr × Obj)) : List (Addr × Obj) := l.map fun p => if p.1 = r then (r, o) else p
theorem setL_ne {r : Addr} {o : Obj} {l : List (Addr × Obj)} {q : Addr × Obj} (hq : q ∈ l) (hn : q.1 ≠ r) : q ∈ setL r o l := List.mem_map.mpr ⟨q, hq, if_neg hn⟩
theorem setL_eq {r : Addr} {o o' : Obj} {l : List (Addr × Obj)} (hq : (r, o') ∈ l) : (r, o) ∈ setL r o l := List.mem_map.mpr ⟨_, hq, if_pos rfl⟩
theorem setL_off {r : Addr} {o : Obj} {l : List (Addr × Obj)} (h : ∀ p ∈ l, p.1 ≠ r) : setL r o l = l := by
  unfold setL
  conv => rhs; rw [← List.map_id l]
  exact List.map_congr_left fun p hp => if_neg (h p hp)
theorem setL_adr {r : Addr} {o : Obj} {l : List (Addr × Obj)} {q : Addr × Obj} (hq : q ∈ setL r o l) : ∃ p ∈ l, p.1 = q.1 := by
  obtain ⟨p, hp, e⟩ := List.mem_map.mp hq
  refine ⟨p, hp, ?_⟩
  by_cases h : p.1 = r
  · rw [if_pos h] at e; rw [h, ← e]
  · rw [if_neg h] at e; rw [e]
theorem news_ne {h₀ h : Heap} {L : Addr} {l : List (Addr × Obj)} {p q : Addr × Obj} (N : News h₀ L h l) (hp : p ∈ l) (hq : q ∈ l) (hd : p.2 ≠ q.2) : p.1 ≠ q.1 := fun e => by
  have h1 := (N p hp).1
  have h2 := (N q hq).1
  rw [e, h2] at h1
  exact hd (Option.some.inj h1).symm
theorem set_my {prog : Program} {w : World} {A : Around} {E : Value → Shared → Prop} {s : Shared} {l : Addr} {vs : List Value} {n : Nat} {k : Int} {t : Tok} {v : Value} {Q : Unit → Shared → Prop} {h₀ : Heap} {L : Addr} {m : Str → Option Value} {news : List (Addr × Obj)}
    (F : Fr h₀ L s.heap m) (N : News h₀ L s.heap news) (hm : (l, lstn vs n) ∈ news) (h0 : 0 ≤ k) (hfit : k < 2 ^ 63) (hk : k.toNat < vs.length)
    (h : ∀ h', Fr h₀ L h' m → News h₀ L h' (setL l (lstn (vs.set k.toNat v) n) news) → Q () { s with heap := h' }) : wpAny (model prog w) A (setItem (.ref l) (.int k t) v) Q E s := by
  have z := N _ hm
  refine ki_setAt (n := n) z.1 h0 hfit (by rw [List.size_toArray]; omega) (h _ (Fr.update F N hm (Heap.SameBut.update ..)) (News.update N hm (Heap.SameBut.update ..) ?_))
  have q := PySem.IsL.update z.1 (·.setIfInBounds k.toNat v)
  have e : vs.toArray.setIfInBounds k.toNat v = (vs.set k.toNat v).toArray := by
    apply Array.toList_inj.mp
    simp
  rw [e] at q
  rw [q]
  simp
theorem cell_num {Wd i j i' j' : Nat} (hi : i < Wd) (hi' : i' < Wd) (e : j' * Wd + i' = j * Wd + i) : j' = j ∧ i' = i := by
  have h1 : (i' + Wd * j') / Wd = j' := by rw [Nat.add_mul_div_left _ _ (by omega), Nat.div_eq_of_lt hi', Nat.zero_add]
  have h2 : (i + Wd * j) / Wd = j := by rw [Nat.add_mul_div_left _ _ (by omega), Nat.div_eq_of_lt hi, Nat.zero_add]
  have e' : i' + Wd * j' = i + Wd * j := by rw [Nat.mul_comm Wd j', Nat.mul_comm Wd j]; omega
  rw [e', h2] at h1
  exact ⟨h1.symm, by subst h1; omega⟩
abbrev colour (n : Nat) (t1 t2 t3 t4 : Tok) : Obj := tup [.int ((n : Int) + 1) t1, .int 0 t2, .int 0 t3, .int 255 t4]
/-- what a painted cell does to the rows -/
theorem rows_put {h₀ h : Heap} {L : Addr} {A R : List (Addr × Obj)} {p r : Addr} {t1 t2 t3 t4 : Tok} {Wd i j : Nat} {rows : List Addr} {cols : List Value} {k : Nat}
    (N : News h₀ L h ((p, colour (j * Wd + i) t1 t2 t3 t4) :: (A ++ R))) (hnd : rows.Nodup) (hr : rows[j]? = some r) (hrc : (r, lstn cols k) ∈ A) (hi : i < Wd) (hlen : cols.length = Wd)
    (hR : RowsIn A Wd (j * Wd + i) rows) : RowsIn ((p, colour (j * Wd + i) t1 t2 t3 t4) :: setL r (lstn (cols.set i (.ref p)) k) A) Wd (j * Wd + i + 1) rows := by
  have inA : ∀ q ∈ A, q ∈ (p, colour (j * Wd + i) t1 t2 t3 t4) :: (A ++ R) := fun q hq => .tail _ (List.mem_append_left _ hq)
  have keepTup : ∀ (q : Addr) (vs : List Value), (q, tup vs) ∈ A → (q, tup vs) ∈ setL r (lstn (cols.set i (.ref p)) k) A := fun q vs hq =>
    setL_ne hq (news_ne N (inA _ hq) (inA _ hrc) (fun e => absurd (Value.type.inj (congrArg Obj.cls e)) (by decide)))
  have old : ∀ (i' j' : Nat) v, CellIs A (j * Wd + i) (j' * Wd + i') v → j' * Wd + i' ≠ j * Wd + i → CellIs ((p, colour (j * Wd + i) t1 t2 t3 t4) :: setL r (lstn (cols.set i (.ref p)) k) A) (j * Wd + i + 1) (j' * Wd + i') v := by
    intro i' j' v hc hne
    refine ⟨fun hlt => ?_, fun hge => hc.2 (by omega)⟩
    obtain ⟨q, a1, a2, a3, a4, e, hq⟩ := hc.1 (by omega)
    exact ⟨q, a1, a2, a3, a4, e, .tail _ (keepTup _ _ hq)⟩
  intro j' r' hr'
  obtain ⟨cols', k', h1, h2, h3⟩ := hR j' r' hr'
  by_cases hj : j' = j
  · subst hj
    have er : r' = r := Option.some.inj (hr'.symm.trans hr)
    subst er
    have ec : lstn cols' k' = lstn cols k := Option.some.inj ((N _ (inA _ h1)).1.symm.trans (N _ (inA _ hrc)).1)
    have ec2 : cols' = cols ∧ k' = k := by
      have := congrArg Obj.data ec
      injection this with a b
      exact ⟨congrArg Array.toList a, b⟩
    obtain ⟨rfl, rfl⟩ := ec2
    refine ⟨_, _, .tail _ (setL_eq h1), by rw [List.length_set]; exact h2, fun i' v hv => ?_⟩
    rw [List.getElem?_set] at hv
    by_cases hii : i = i'
    · subst hii
      rw [if_pos rfl] at hv
      split at hv
      · obtain rfl := Option.some.inj hv
        exact ⟨fun _ => ⟨p, t1, t2, t3, t4, rfl, .head _⟩, fun h => absurd (Nat.lt_succ_self _) h⟩
      · cases hv
    · rw [if_neg hii] at hv
      exact old i' j' v (h3 i' v hv) (by omega)
  · have hne : r' ≠ r := fun e => by
      subst e
      have hl1 := (List.getElem?_eq_some_iff.mp hr').1
      have hl2 := (List.getElem?_eq_some_iff.mp hr).1
      have e1 := (List.getElem?_eq_some_iff.mp hr').2
      have e2 := (List.getElem?_eq_some_iff.mp hr).2
      have hnd' := List.pairwise_iff_getElem.mp hnd
      rcases Nat.lt_or_gt_of_ne hj with hlt | hlt
      · exact hnd' _ _ hl1 hl2 hlt (e1.trans e2.symm)
      · exact hnd' _ _ hl2 hl1 hlt (e2.trans e1.symm)
    refine ⟨cols', k', .tail _ (setL_ne h1 hne), h2, fun i' v hv => old i' j' v (h3 i' v hv) fun e => ?_⟩
    have hi' : i' < Wd := by
      have := (List.getElem?_eq_some_iff.mp hv).1
      omega
    exact hj (cell_num hi hi' e).1
section
variable {w : World} {mean : ExcName → Option Value} {mg mb : Str → Option Value} {dp un : Nat} {gd : Option (List Code)} {cn : Str} {cs : Scope} {ca : Addr} {ccd : Value} {cl : List (Str × Addr)} {outer : List Env} {A₀ : Around} {base h₀ : Heap} {L : Addr} {m : Str → Option Value} {news : List (Addr × Obj)} {s : Shared} {Q E : Value → Shared → Prop}
local macro_rules | `(tactic| walk_at "call ref cons nil") => `(tactic| (k_here; k_dflt (refine' holds_ok ?C ?p0 ?p1 ?p2 ?p3 ?p4 ?_; (case C => walk_at "mine cx"); (case p0 => walk_at "mine in"); (case p1 => walk_at "mine ar"); (case p2 => walk_at "mine ar"); (case p3 => walk_at "mine ar"); (case p4 => walk_at "mine ar"); intro h9 tk9 F9 N9; (try dsimp only); (try k_fold))))
local macro_rules | `(tactic| walk_at "call ref") => `(tactic| (k_here; k_dflt (refine' holds_ok ?C ?p0 ?p1 ?p2 ?p3 ?p4 ?_; (case C => walk_at "mine cx"); (case p0 => walk_at "mine in"); (case p1 => walk_at "mine ar"); (case p2 => walk_at "mine ar"); (case p3 => walk_at "mine ar"); (case p4 => walk_at "mine ar"); intro h9 tk9 F9 N9; (try dsimp only); (try k_fold))))
local macro_rules | `(tactic| walk_at "setItem ref int ref") => `(tactic| (k_here; k_dflt (refine' set_my ?F ?N ?m ?a ?b ?c ?_; (case F => k_asm); (case N => k_asm); (case m => k_mem); (case a => omega); (case b => omega); (case c => omega); k_whole); intro h' F' N'; (try k_sweep)))
theorem setL_sub {r : Addr} {o : Obj} {l l' : List (Addr × Obj)} (h : ∀ p ∈ l, p ∈ l') : ∀ p ∈ setL r o l, p ∈ setL r o l' := fun p hp => by
  obtain ⟨q, hq, e⟩ := List.mem_map.mp hp
  exact List.mem_map.mpr ⟨q, h q hq, e⟩
theorem put0 {c p : Addr} {Wd Ht n i j : Nat} {left top x y : Int} {tx ty : Tok} {l r : Addr} {rows : List Addr} {cols : List Value} {k k2 : Nat} {dc : Addr} {t1 t2 t3 t4 t5 i1 i2 i3 i4 : Tok} (C : Cx w mean mg mb dp un 2 cs outer A₀ base h₀ L m s.heap news) (K : CanIn w news c Wd Ht left top n) (hx : x - left = (i : Int)) (hy : y - top = (j : Int)) (hi : i < Wd) (hj : j < Ht) (hW : Wd < 1000) (hH : Ht < 1000)
  (hc : (c, instObj 277 dc) ∈ news) (hdc : (dc, dictOf [ent w "width" t1 (.int (Wd : Int) i1), ent w "height" t2 (.int (Ht : Int) i2), ent w "left" t3 (.int left i3), ent w "top" t4 (.int top i4), ent w "cells" t5 (.ref l)] 5) ∈ news)
  (hl : (l, lstn (rows.map Value.ref) k) ∈ news) (hr : rows[j]? = some r) (hcols : (r, lstn cols k2) ∈ news) (hwd : cols.length = Wd)
  (ret : ∀ h' tk', Fr h₀ L h' m → News h₀ L h' (setL r (lstn (cols.set i (.ref p)) k2) news) → Q .none { s with heap := h', toks := tk' }) :
  wpAny (model PySem.Challenge.pw_pf0192_01 w) (ktrTop dp un gd cn cs L ca ccd cl outer) (call (.ref 241) [.ref c, .int x tx, .int y ty, .ref p]) Q E s := by
  have e1 : (rows.map Value.ref)[(y - top).toNat]? = some (.ref r) := by rw [hy]; simp [hr]
  have e3 : (x - left).toNat = i := by omega
  obtain ⟨B, F, X, N, T, hk, hdp, hun⟩ := C
  refine wpAny_call ?_
  k_dflt (refine' code_def (binds := [(Str.ofString "self", Value.ref c), (Str.ofString "x", Value.int x tx), (Str.ofString "y", Value.int y ty), (Str.ofString "colour", Value.ref p)]) ?k1 ?k2 ?k3 ?k4 ?k5 ?kA ?kF ?kK ?k6 ?k7 ?k8 ?k9 ?kB ?_ ?c2 ?c3 ?c4 ?c5; walk_at "mine enter")
  k_steps
  (rename News _ _ _ (setL _ _ _) => N9)
  rw [e3] at N9
  exact ret _ _ (by assumption) (nSub N9 (setL_sub (by walk_at "mine up")))
end
theorem setL_app {r : Addr} {o : Obj} {a b : List (Addr × Obj)} : setL r o (a ++ b) = setL r o a ++ setL r o b := List.map_append ..
theorem mem_setL_app {r : Addr} {o : Obj} {A R : List (Addr × Obj)} {q : Addr × Obj} (hR : ∀ p ∈ R, p.1 ≠ r) (h : q ∈ setL r o A ++ R) : q ∈ setL r o (A ++ R) := by
  rw [setL_app, setL_off hR]; exact h
theorem canAt {w : World} {A : List (Addr × Obj)} {c : Addr} {Wd Ht i j : Nat} {left top : Int} {n : Nat} (K : CanIn w A c Wd Ht left top n) (hj : j < Ht) :
    ∃ dc l rows k t1 t2 t3 t4 t5 i1 i2 i3 i4 r cols k2, (c, instObj 277 dc) ∈ A ∧ (dc, dictOf [ent w "width" t1 (.int (Wd : Int) i1), ent w "height" t2 (.int (Ht : Int) i2), ent w "left" t3 (.int left i3), ent w "top" t4 (.int top i4), ent w "cells" t5 (.ref l)] 5) ∈ A ∧
    (l, lstn (rows.map Value.ref) k) ∈ A ∧ rows.length = Ht ∧ (l :: rows).Nodup ∧ RowsIn A Wd n rows ∧ rows[j]? = some r ∧ (r, lstn cols k2) ∈ A ∧ cols.length = Wd := by
  obtain ⟨dc, l, rows, k, t1, t2, t3, t4, t5, i1, i2, i3, i4, h1, h2, h3, h4, h5, h6⟩ := K
  obtain ⟨r, hr⟩ : ∃ r, rows[j]? = some r := ⟨_, List.getElem?_eq_getElem (by omega)⟩
  obtain ⟨cols, k2, hc, hw, _⟩ := h6 j r hr
  exact ⟨dc, l, rows, k, t1, t2, t3, t4, t5, i1, i2, i3, i4, r, cols, k2, h1, h2, h3, h4, h5, h6, hr, hc, hw⟩
theorem can_put {w : World} {h₀ h : Heap} {L : Addr} {A R : List (Addr × Obj)} {c p dc l r : Addr} {rows : List Addr} {cols : List Value} {k k2 Wd Ht i j : Nat} {left top : Int} {t1 t2 t3 t4 t5 i1 i2 i3 i4 u1 u2 u3 u4 : Tok}
    (N : News h₀ L h ((p, colour (j * Wd + i) u1 u2 u3 u4) :: (A ++ R)))
    (h1 : (c, instObj 277 dc) ∈ A) (h2 : (dc, dictOf [ent w "width" t1 (.int (Wd : Int) i1), ent w "height" t2 (.int (Ht : Int) i2), ent w "left" t3 (.int left i3), ent w "top" t4 (.int top i4), ent w "cells" t5 (.ref l)] 5) ∈ A)
    (h3 : (l, lstn (rows.map Value.ref) k) ∈ A) (h4 : rows.length = Ht) (h5 : (l :: rows).Nodup) (h6 : RowsIn A Wd (j * Wd + i) rows) (hr : rows[j]? = some r) (hc : (r, lstn cols k2) ∈ A) (hwd : cols.length = Wd) (hi : i < Wd) :
    CanIn w ((p, colour (j * Wd + i) u1 u2 u3 u4) :: setL r (lstn (cols.set i (.ref p)) k2) A) c Wd Ht left top (j * Wd + i + 1) := by
  have inA : ∀ q ∈ A, q ∈ (p, colour (j * Wd + i) u1 u2 u3 u4) :: (A ++ R) := fun q hq => .tail _ (List.mem_append_left _ hq)
  have hnd := List.nodup_cons.mp h5
  refine ⟨dc, l, rows, k, t1, t2, t3, t4, t5, i1, i2, i3, i4, .tail _ (setL_ne h1 ?_), .tail _ (setL_ne h2 ?_), .tail _ (setL_ne h3 ?_), h4, h5, rows_put N hnd.2 hr hc hi hwd h6⟩
  · exact news_ne N (inA _ h1) (inA _ hc) fun e => absurd (congrArg Obj.cls e) (by intro e; cases e)
  · exact news_ne N (inA _ h2) (inA _ hc) fun e => absurd (Value.type.inj (congrArg Obj.cls e)) (by decide)
  · intro e
    have e' : l = r := e
    exact hnd.1 (e' ▸ List.mem_of_getElem? hr)
section
variable {w : World} {mean : ExcName → Option Value} {mg mb : Str → Option Value} {dp un : Nat} {gd : Option (List Code)} {cn : Str} {cs : Scope} {ca : Addr} {ccd : Value} {cl : List (Str × Addr)} {outer : List Env} {A₀ : Around} {base h₀ : Heap} {L : Addr} {m : Str → Option Value} {news : List (Addr × Obj)} {s : Shared} {Q E : Value → Shared → Prop}
theorem put_ok {c p : Addr} {Wd Ht i j : Nat} {left top x y : Int} {tx ty u1 u2 u3 u4 : Tok} {A R : List (Addr × Obj)} (C : Cx w mean mg mb dp un 2 cs outer A₀ base h₀ L m s.heap ((p, colour (j * Wd + i) u1 u2 u3 u4) :: (A ++ R))) (K : CanIn w A c Wd Ht left top (j * Wd + i)) (hx : x - left = (i : Int)) (hy : y - top = (j : Int)) (hi : i < Wd) (hj : j < Ht) (hW : Wd < 1000) (hH : Ht < 1000)
  (off : ∀ q ∈ A, ∀ q' ∈ R, q.1 ≠ q'.1) (offp : ∀ q' ∈ R, p ≠ q'.1)
  (ret : ∀ A' h' tk', Fr h₀ L h' m → News h₀ L h' (A' ++ R) → (∀ q ∈ A', ∀ q' ∈ R, q.1 ≠ q'.1) → CanIn w A' c Wd Ht left top (j * Wd + i + 1) → Q .none { s with heap := h', toks := tk' }) :
  wpAny (model PySem.Challenge.pw_pf0192_01 w) (ktrTop dp un gd cn cs L ca ccd cl outer) (call (.ref 241) [.ref c, .int x tx, .int y ty, .ref p]) Q E s := by
  have inA : ∀ q ∈ A, q ∈ (p, colour (j * Wd + i) u1 u2 u3 u4) :: (A ++ R) := fun q hq => .tail _ (List.mem_append_left _ hq)
  obtain ⟨dc, l, rows, k, t1, t2, t3, t4, t5, i1, i2, i3, i4, r, cols, k2, h1, h2, h3, h4, h5, h6, hr, hc, hw⟩ := canAt (i := i) K hj
  have N0 := C.N
  refine put0 C (K.mono inA) hx hy hi hj hW hH (inA _ h1) (inA _ h2) (inA _ h3) hr (inA _ hc) hw fun h' tk' F N => ?_
  have hp : p ≠ r := news_ne N0 (.head _) (inA _ hc) fun e => absurd (Value.type.inj (congrArg Obj.cls e)) (by decide)
  refine ret ((p, colour (j * Wd + i) u1 u2 u3 u4) :: setL r (lstn (cols.set i (.ref p)) k2) A) h' tk' F (nSub N ?_) ?_ (can_put N0 h1 h2 h3 h4 h5 h6 hr hc hw hi)
  · intro q hq
    rcases List.mem_cons.mp hq with rfl | hq
    · exact setL_ne (.head _) hp
    · exact setL_sub (fun p hp => .tail _ hp) _ (mem_setL_app (fun p hp => Ne.symm (off _ hc _ hp)) hq)
  · intro q hq q' hq'
    rcases List.mem_cons.mp hq with rfl | hq
    · exact offp _ hq'
    · obtain ⟨p0, hp0, e⟩ := setL_adr hq
      rw [← e]
      exact off _ hp0 _ hq'
end
theorem AllObj.mono {ws : List (Addr × String)} : ∀ {k k' : List (Addr × Obj) → Prop}, AllObj ws k → (∀ its, k its → k' its) → AllObj ws k' := by
  induction ws with
  | nil => exact fun h g => g _ h
  | cons w r ih => exact fun h g o ho => ih (h o ho) fun its => g _
theorem postMono {h₀ : Heap} {L : Addr} {s₁ : Shared} {its : List (Addr × Obj)} {r r' : (Str → Option Value) → List (Addr × Obj) → Prop} {Q : Flow → Shared → Prop} (h : ∀ m n, r m n → r' m n) (f : Flow) (s₂ : Shared) (p : UnrPostW h₀ L s₁ its r Q f s₂) : UnrPostW h₀ L s₁ its r' Q f s₂ := by
  have go : UnrEndW h₀ L s₁ its r s₂ → UnrEndW h₀ L s₁ its r' s₂ := fun ⟨h', tk, m', n', e, F, N, o, x⟩ => ⟨h', tk, m', n', e, F, N, o, h _ _ x⟩
  cases f with
  | next => exact go p
  | ret v => exact p
  | brk => exact p
  | cont => exact go p
theorem items_inv {prog : Program} {w : World} {A : Around} {E : Value → Shared → Prop} {h₀ : Heap} {env : Env} {target : Expr} {body : List Stmt} {Q : Flow → Shared → Prop} {s : Shared} {ws : List (Addr × String)} {keep : List (Addr × Obj)} {xs : List Itm}
    (J : Nat → (Str → Option Value) → List (Addr × Obj) → Prop)
    (turn : ∀ i a v m' n' h tk, xs[i]? = some a → a.Is v h → J i m' n' → Fr h₀ env.locals h m' → AllObj ws (fun its => News h₀ env.locals h (its ++ n') →
      wpAny (model prog w) A (assign target env v) (fun _ s₂ => wpAny (model prog w) A (execs body env) (UnrPostW h₀ env.locals { s with heap := h, toks := tk } its (fun m' n' => SubL keep n' ∧ J (i + 1) m' n') Q) E s₂) E { s with heap := h, toks := tk }))
    (fin : ∀ m' n' h tk, J xs.length m' n' → Fr h₀ env.locals h m' → News h₀ env.locals h n' → Q .next { s with heap := h, toks := tk }) :
    ∀ ys i m' n', xs.drop i = ys → i ≤ xs.length → J i m' n' → ItemsRest prog w A E h₀ env target body Q s ws keep ys m' n' := by
  intro ys
  induction ys with
  | nil =>
    intro i m' n' e hi hJ h tk F N
    have : i = xs.length := by
      have := congrArg List.length e
      rw [List.length_drop] at this
      simp only [List.length_nil] at this
      omega
    exact fin m' n' h tk (this ▸ hJ) F N
  | cons a r ih =>
    intro i m' n' e hi hJ v h tk ha F
    have hx : xs[i]? = some a := by
      have := congrArg (·[0]?) e
      simpa using this
    have hlt := (List.getElem?_eq_some_iff.mp hx).1
    have hr : xs.drop (i + 1) = r := by
      have := congrArg List.tail e
      simpa using this
    refine AllObj.mono (turn i a v m' n' h tk hx ha hJ F) fun its g N => ?_
    exact wpAny_mono (g N) (fun _ s₂ q => wpAny_mono q (fun f s₃ p => postMono (fun m n ⟨a, b⟩ => ⟨a, ih (i + 1) m n hr hlt b⟩) f s₃ p) fun _ _ x => x) fun _ _ x => x
theorem letGo_range {prog : Program} {w : World} {A : Around} {E : Value → Shared → Prop} {target : Expr} {I : Addr} {a b c : Int} {v : Value} {Q' : Unit → Shared → Prop} {s' : Shared} (hit : IsRangeIter s'.heap I a b c) (h : Q' () s') :
    wpAny (model prog w) A (letOwnedTupleGo target (.ref I) v) Q' E s' := by
  have ho : s'.heap.get? I = some _ := hit
  unfold letOwnedTupleGo
  cases target <;> first
    | exact wpAny_pure h
    | (cases v <;> first
        | exact wpAny_pure h
        | (refine wpAny_bind (wpAny_load ho ?_)
           exact wpAny_pure h))
theorem iter_rangeTurns {prog : Program} {w : World} {A : Around} {E : Value → Shared → Prop} {h₀ : Heap} {env : Env} {target : Expr} {body : List Stmt} {Q : Flow → Shared → Prop} {s : Shared} {r : Addr} {a b : Int} {t u v : Tok} {n : Nat} {m₀ : Str → Option Value} {news : List (Addr × Obj)}
    (hh : A.handled = none) (hr : IsRange s.heap r a b 1 t u v) (hsmall : Builtin.Range.small a b 1 = true) (hn : Builtin.Range.rangeSize a b 1 = (n : Int)) (F : Fr h₀ env.locals s.heap m₀) (N : News h₀ env.locals s.heap news)
    (rest₀ : ∀ I : Addr, (∀ p ∈ news, p.1 < I) → ItemsRest prog w A E h₀ env target body Q s [(I, "range_iterator")] [] ((List.range n).map fun (i : Nat) => Itm.tok (fun t => .int (a + (i : Int)) t)) m₀ news) :
    wpAny (model prog w) A (pyIter (.ref r)) (fun it s₂ => TurnsAt prog w A h₀ env target body Q E it s₂) E s := by
  refine wpAny_pyIter_range hr hsmall ?_
  have W : Walks prog w A s.heap.objs.size [s.heap.objs.size] [s.heap.objs.size] n (fun i v => i < n ∧ ∃ t, v = .int (a + i * 1) t)
      (fun i h => IsRangeIter h s.heap.objs.size (a + (i : Nat) * 1) ((n : Int) - (i : Nat)) 1) := (Walks.range hh _ a 1 n).bound
  refine ktu_core (tk0 := s.toks) (keep := []) (KTurns.ofWalks W fun i v s Q E st q => letGo_range st q) (by simp) (fun i v h hp => ?_) (fun i h st => ?_) (fun b hb => ?_) (fun b hb => by simpa using hb) (fun b hb => .inl (by simpa using hb)) ?_ (fun p hp hI => ?_) ?_ (F.push _) (fun p hp => ⟨Heap.get?_push_of_some _ (N p hp).1, (N p hp).2⟩) trivial (rest₀ _ fun p hp => Heap.lt_size (N p hp).1)
  · obtain ⟨hi, t, rfl⟩ := hp
    refine ⟨.tok (fun t => .int (a + (i : Int)) t), by simp [hi], t, ?_⟩
    rw [Int.mul_one]
  · exact ⟨[(s.heap.objs.size, _)], ⟨⟨rfl, rfl⟩, trivial⟩, fun p hp => by rw [List.mem_singleton.mp hp]; exact st⟩
  · have hb' : b = s.heap.objs.size := by simpa using hb
    rw [hb']
    exact ⟨List.mem_cons_self .., next_is_new F⟩
  · intro hI
    exact absurd F.ns.lt ((List.mem_singleton.mp hI) ▸ Nat.lt_irrefl _)
  · exact absurd (Heap.lt_size (N p hp).1) ((List.mem_singleton.mp hI) ▸ Nat.lt_irrefl _)
  · show IsRangeIter _ _ _ _ _
    rw [hn]
    simpa using Heap.get?_push_size _ rfl
theorem grow_src {prog : Program} {w : World} {A : Around} {h₀ : Heap} {L : Addr} {m : Str → Option Value} {env : Env} {elt : Expr} {x : Str} {scope : Scope} {cl : List (Str × Addr)} {Fin : Shared → List Value → List (Addr × Obj) → Prop} {r : Addr} {a b : Int} {n : Nat} {t u v : Tok} {base : List (Addr × Obj)} {s₁ : Shared} (P : Nat → Obj → Prop)
    (hh : A.handled = none) (F : Fr h₀ L s₁.heap m) (N : News h₀ L s₁.heap base) (hr : IsRange s₁.heap r a b 1 t u v) (hsm : Builtin.Range.small a b 1 = true) (hn : b = a + (n : Int)) (hn2 : n < 100)
    (turn : ∀ (added : List (Addr × Obj)) (ys : List Value) i t I oI C oC D m₂ h tk (E' : Value → Shared → Prop), i < n → LCg.NsObj oC m₂ → m₂ x = some (.int (a + (i : Int)) t) → Fr h₀ L h m → News h₀ L h ((I, oI) :: (C, oC) :: (D, LCg.lst ys) :: (added ++ base)) → LCg.Off3 I C D (added ++ base) → (∀ p ∈ added, ∀ q ∈ base, q.1 < p.1) →
      wpAny (model prog w) A (eval elt (compEnvC scope cl C env)) (LCg.CompEnd h₀ L m { s₁ with heap := h, toks := tk } I oI C oC D (LCg.lst ys) (fun _ => True) (fun y nw' => ∃ r o, y = .ref r ∧ P i o ∧ nw' = (r, o) :: (added ++ base) ∧ ∀ p ∈ added ++ base, p.1 < r)) E' { s₁ with heap := h, toks := tk })
    (fin : ∀ g (added : List (Addr × Obj)) (ys : List Value), (∀ p ∈ added, ∀ q ∈ base, q.1 < p.1) → ys.length = n → (∀ j v, ys[j]? = some v → ∃ r o, v = .ref r ∧ P j o ∧ (r, o) ∈ added) → Fin { s₁ with heap := g } ys (added ++ base)) :
    LCg.CompSrc prog w A h₀ L m env elt x scope cl Fin (.ref r) s₁ := by
  refine LCg.CompSrc.range (n := n) hh F N hr hsm (by rw [rangeSize_nat]; omega) (by rw [PySem.sizeLine_eq]; omega) fun g => ?_
  refine comp_inv (fun i ys nw => ∃ (added : List (Addr × Obj)), nw = added ++ base ∧ ys.length = i ∧ (∀ p ∈ added, ∀ q ∈ base, q.1 < p.1) ∧ (∀ j v, ys[j]? = some v → ∃ r o, v = .ref r ∧ P j o ∧ (r, o) ∈ added)) ?_ ?_ _ 0 [] _ (Nat.zero_add _) ⟨[], rfl, rfl, fun p hp => (nomatch hp), fun j v h => by simp at h⟩
  · rintro i ys nw v I oI C oC D m₂ h tk E' hi ⟨added, rfl, rfl, hlt, hit⟩ ⟨t, rfl⟩ hC hx F1 N1 off ne
    refine wpAny_mono (turn added ys ys.length t I oI C oC D m₂ h tk E' hi hC hx F1 N1 off hlt) (fun y s₂ hq => ?_) fun _ _ x => x
    obtain ⟨h', tk', nw, e', F', N', off', hS, r, o, rfl, hP, rfl, hr'⟩ := hq
    refine ⟨h', tk', _, e', F', N', off', hS, (r, o) :: added, rfl, by simp, ?_, items_snoc (fun j v hj => ?_) ⟨r, o, rfl, hP, .head _⟩⟩
    · intro p hp q hq
      rcases List.mem_cons.mp hp with rfl | hp
      · exact hr' q (List.mem_append_right _ hq)
      · exact hlt p hp q hq
    · obtain ⟨r', o', e1, e2, e3⟩ := hit j v hj
      exact ⟨r', o', e1, e2, .tail _ e3⟩
  · rintro ys nw ⟨added, rfl, hl, hlt, hit⟩
    exact fin g added ys hlt hl hit
theorem ext_my {prog : Program} {w : World} {A : Around} {E : Value → Shared → Prop} {s : Shared} {D b : Addr} {xs ys : List Value} {n n2 : Nat} {Q : Value → Shared → Prop} {h₀ : Heap} {L : Addr} {m : Str → Option Value} {news news' : List (Addr × Obj)}
    (F : Fr h₀ L s.heap m) (N : News h₀ L s.heap news) (hb : (b, lstn ys n2) ∈ news) (hne : ys.length ≠ 0)
    (U : Upd D (lstn xs n) (lstn (xs ++ ys) (n + 1)) news news') (hz : xs.length + ys.length < 1000)
    (h : ∀ h', Fr h₀ L h' m → News h₀ L h' news' → Q .none { s with heap := h' }) : wpAny (model prog w) A (call (.builtin "list.extend") [.ref D, .ref b]) Q E s := by
  refine kl_extend (its := xs.toArray) (its2 := ys.toArray) (l := xs ++ ys) F N hb (by simp) (by simpa using hne) U ?_ ?_ ?_ h
  · simp [Builtin.List.listTooLong, sizeLine_eq]; omega
  · rw [sizeLine_eq]; simp; omega
  · rw [sizeLine_eq]; simp; omega
theorem pl_items {left top : Int} {Wd i : Nat} {vs ys : List Value} {added added2 : List (Addr × Obj)} (hlen : vs.length = i * Wd) (hlen2 : ys.length = Wd)
    (hit : ∀ q v, vs[q]? = some v → ∃ r t u, v = .ref r ∧ (r, pr (left + ((q % Wd : Nat) : Int)) (top + ((q / Wd : Nat) : Int)) t u) ∈ added)
    (hit2 : ∀ (j : Nat) (v : Value), ys[j]? = some v → ∃ r o, v = .ref r ∧ (∃ t1 t2, o = pr (left + (j : Int)) (top + (i : Int)) t1 t2) ∧ (r, o) ∈ added2) :
    ∀ q v, (vs ++ ys)[q]? = some v → ∃ r t u, v = .ref r ∧ (r, pr (left + ((q % Wd : Nat) : Int)) (top + ((q / Wd : Nat) : Int)) t u) ∈ added2 ++ added := by
  intro q v hq
  by_cases h : q < vs.length
  · rw [List.getElem?_append_left h] at hq
    obtain ⟨r, t, u, e1, e2⟩ := hit q v hq
    exact ⟨r, t, u, e1, List.mem_append_right _ e2⟩
  · rw [List.getElem?_append_right (by omega)] at hq
    have hj := (List.getElem?_eq_some_iff.mp hq).1
    obtain ⟨r, o, e1, ⟨t, u, e2⟩, e3⟩ := hit2 _ v hq
    have e4 : q = (q - vs.length) + Wd * i := by rw [Nat.mul_comm]; omega
    have e5 : q % Wd = q - vs.length := by rw [e4, Nat.add_mul_mod_self_left, Nat.mod_eq_of_lt (by omega)]; omega
    have e6 : q / Wd = i := by rw [e4, Nat.add_mul_div_left _ _ (by omega), Nat.div_eq_of_lt (by omega)]; omega
    rw [e5, e6]
    exact ⟨r, t, u, e1, List.mem_append_left _ (e2 ▸ e3)⟩
theorem nameL {h₀ h : Heap} {L : Addr} {m : Str → Option Value} (_ : Fr h₀ L h m) : ∃ x, x = L := ⟨L, rfl⟩
theorem name2 {h₀ h : Heap} {L : Addr} {a b : Addr} {o o' : Obj} {n : List (Addr × Obj)} (_ : News h₀ L h ((a, o) :: (b, o') :: n)) : ∃ (x : Addr) (y : Obj), x = a ∧ y = o' := ⟨a, o', rfl, rfl⟩
theorem name3 {h₀ h : Heap} {L : Addr} {a b : Addr × Obj} {c : Addr} {o' : Obj} {n : List (Addr × Obj)} (_ : News h₀ L h (a :: b :: (c, o') :: n)) : ∃ (y : Obj), y = o' := ⟨o', rfl⟩
section
variable {w : World} {mean : ExcName → Option Value} {mg mb : Str → Option Value} {dp un : Nat} {gd : Option (List Code)} {cn : Str} {cs : Scope} {ca : Addr} {ccd : Value} {cl : List (Str × Addr)} {outer : List Env} {A₀ : Around} {base h₀ : Heap} {L : Addr} {m : Str → Option Value} {news : List (Addr × Obj)} {s : Shared} {Q E : Value → Shared → Prop}
local macro_rules | `(tactic| walk_at "exec Assign cons ListComp") => `(tactic| (k_here; (with_reducible show wpAny _ _ (exec (Stmt.Assign [Expr.Name _ _] _ _) _) _ _ _); k_dflt (refine LCg.Assign_ListComp_U (F₀ := by k_asm) (by rfl) (by with_unfolding_all rfl) (by with_unfolding_all rfl) (by decide) (by rfl) (by decide) (by rfl) (by rfl) (by rfl) ?_)))
local macro_rules | `(tactic| walk_at "exec Assign cons ListComp") => `(tactic| (k_here; (with_reducible show wpAny _ _ (exec (Stmt.Assign [Expr.Attribute _ _ _] _ _) _) _ _ _); with_reducible refine plainObj_wpAny_Assign_Attribute ?_ ?_; rotate_left; with_unfolding_all rfl))
local macro_rules | `(tactic| walk_at "eval ListComp") => `(tactic| (k_here; k_dflt (refine LCg.ListComp_U (F₀ := by k_asm) (by with_unfolding_all rfl) (by decide) (by rfl) (by decide) (by rfl) ?_)))
local macro_rules | `(tactic| walk_at "CompSrc") => `(tactic| refine stop ?_)
local macro_rules | `(tactic| walk_at "CompEnd") => `(tactic| refine stop ?_)
local macro_rules | `(tactic| walk_at "ItemsRest") => `(tactic| refine stop ?_)
local macro_rules | `(tactic| walk_at "UnrEndW") => `(tactic| refine stop ?_)
local macro_rules | `(tactic| walk_at "exec For Name Call cons nil") => `(tactic| (k_here; (rename Fr _ _ _ _ => lF'); (with_unfolding_all refine' For_turns lF' ?_; k_whole)))
local macro_rules | `(tactic| walk_at "pyIter ref") => `(tactic| refine stop ?_)
local macro_rules | `(tactic| walk_at "call builtin:list.extend") => `(tactic| (k_here; (with_reducible show wpAny _ _ (call (Value.builtin _) [Value.ref _, Value.ref _]) _ _ _); k_dflt (refine' ext_my ?F ?N ?b ?ne ?U ?d ?_; (case F => k_asm); (case N => k_asm); (case b => k_mem); (case U => k_upd); (case ne => assumption); (case d => assumption); k_whole); intro h' F' N'; (try dsimp only at N')))
theorem places_ok {c : Addr} {Wd Ht n : Nat} {left top : Int} (C : Cx w mean mg mb dp un 3 cs outer A₀ base h₀ L m s.heap news) (K : CanIn w news c Wd Ht left top n) (hW0 : 0 < Wd) (hW : Wd < 10) (hH : Ht < 10) (hl : left.natAbs < 100) (ht : top.natAbs < 100)
  (ret : ∀ r added vs k h' tk', Fr h₀ L h' m → News h₀ L h' ((r, lstn vs k) :: (added ++ news)) → (∀ p ∈ added, ∀ q ∈ news, q.1 < p.1) → (∀ q ∈ news, q.1 < r) → vs.length = Wd * Ht → (∀ q v, vs[q]? = some v → ∃ r t u, v = .ref r ∧ (r, pr (left + ((q % Wd : Nat) : Int)) (top + ((q / Wd : Nat) : Int)) t u) ∈ added) → Q (.ref r) { s with heap := h', toks := tk' }) :
  wpAny (model PySem.Challenge.pw_pf0192_01 w) (ktrTop dp un gd cn cs L ca ccd cl outer) (call (.ref 260) [.ref c]) Q E s := by
  obtain ⟨dc, l, rows, k', o1, o2, o3, o4, o5, i1, i2, i3, i4, hc, hdc, -⟩ := K
  obtain ⟨B, F, X, N, T, hk, hdp, hun⟩ := C
  refine wpAny_call ?_
  k_dflt (refine' code_defC (binds := [(Str.ofString "self", Value.ref c)]) ?k1 ?k2 ?k3 ?k4 ?k5 ?kA ?kF ?kK ?k6 ?k7 ?k8 ?k9 ?kB ?kD ?_ ?c2 ?c3 ?c4; walk_at "mine enterC")
  k_steps
  refine Stop.mk ?_
  (rename News _ _ _ _ => N9)
  (rename Fr _ _ _ _ => F9)
  (rename IsRange _ _ _ _ _ _ _ _ => R9)
  (rename Obj.data _ = Data.cell _ => dc9)
  obtain ⟨L9, rfl⟩ := nameL F9
  obtain ⟨l9, o9, rfl, rfl⟩ := name2 N9
  (rename _ ∧ AllLt _ _ => lq)
  have hnl : ∀ p ∈ news, p.1 < l9 := ktn_ltOf lq.2
  have hnL : ∀ p ∈ news, p.1 < L9 := by assumption
  have hnc : ∀ p ∈ news, p.1 < L9 + 1 := fun p hp => Nat.lt_succ_of_lt (hnL p hp)
  refine iter_rangeTurns (n := Ht) rfl R9 (small_one (by omega) (by omega) (by omega) (by omega)) (by rw [rangeSize_nat]; omega) F9 N9 fun I hI => ?_
  refine items_inv (fun i m' n' => ∃ added vs k oc, m' = _ ∧ n' = (l9, lstn vs k) :: (L9 + 1, oc) :: (added ++ news) ∧ (∃ v, oc.data = Data.cell v) ∧ vs.length = i * Wd ∧ (∀ p ∈ added, ∀ q ∈ news, q.1 < p.1) ∧ (∀ p ∈ added ++ news, p.1 ≠ l9) ∧ (∀ p ∈ added ++ news, p.1 ≠ L9 + 1) ∧ (∀ p ∈ added ++ news, p.1 ≠ I) ∧
    (∀ q v, vs[q]? = some v → ∃ r t u, v = .ref r ∧ (r, pr (left + ((q % Wd : Nat) : Int)) (top + ((q / Wd : Nat) : Int)) t u) ∈ added)) ?_ ?_ _ 0 _ _ List.drop_zero (Nat.zero_le _) ⟨[], [], 0, o9, rfl, rfl, ⟨_, dc9⟩, by simp, fun p hp => (nomatch hp), ?_, ?_, fun p hp => Nat.ne_of_lt (hI p (.tail _ (.tail _ hp))), fun q v h => by simp at h⟩
  · rintro i a v m' n' h tk hx ha ⟨added, vs, k, oc, rfl, rfl, hoc, hlen, hlt, hl9, hL9, hI9, hit⟩ F1
    refine AllObj.cons fun oi hoi => AllObj.nil fun N1 => ?_
    have hi := (List.getElem?_eq_some_iff.mp hx).1
    rw [List.length_map, List.length_range] at hi
    obtain ⟨t, rfl⟩ : ∃ t, v = .int (top + (i : Int)) t := by
      have e : a = Itm.tok fun t => .int (top + (i : Int)) t := by
        rw [List.getElem?_map, List.getElem?_range hi] at hx
        exact (Option.some.inj hx).symm
      subst e
      exact ha
    obtain ⟨cv, hoc⟩ := hoc
    have N2 : News _ L9 _ ((I, oi) :: (l9, lstn vs k) :: (L9 + 1, oc) :: (added ++ news)) := N1
    have F2 : Fr _ L9 _ _ := F1
    clear N1 F1 N9 F9 ha hx R9 dc9
    have hIn : @LT.lt Nat _ l9 I ∧ @LT.lt Nat _ (L9 + 1) I := ⟨hI _ (.head _), hI _ (.tail _ (.head _))⟩
    k_lt hI
    k_steps
    refine Stop.mk ?_
    (rename News _ _ _ _ => N9)
    (rename Fr _ _ _ _ => F9)
    (rename IsRange _ _ _ _ _ _ _ _ => R9)
    obtain ⟨o8, rfl⟩ := name3 N9
    refine grow_src (n := Wd) (fun j o => ∃ t1 t2, o = pr (left + (j : Int)) (top + (i : Int)) t1 t2) rfl F9 N9 R9 (small_one (by omega) (by omega) (by omega) (by omega)) rfl (by omega) ?_ ?_
    · intro added2 ys j t' I2 oI C oC D m₂ h tk E' hj hC hx F1 N1 off hlt2
      k_steps
      refine Stop.mk ?_
      (rename News _ _ _ _ => N8)
      (rename _ ∧ _ ∧ _ ∧ AllLt _ _ => l8)
      refine compEnd1 (by assumption) N8 (fun p hp => ?_) off trivial ⟨_, _, rfl, ⟨_, _, rfl⟩, rfl, ktn_ltOf l8.2.2.2⟩
      simp only [List.mem_cons] at hp
      rcases hp with rfl | rfl | rfl | hp
      · exact l8.1
      · exact l8.2.1
      · exact l8.2.2.1
      · exact ktn_ltOf l8.2.2.2 p hp
    · intro g added2 ys hlt2 hlen2 hit2 D h' tk' F' N' off'
      have off2 := off1_mem off'
      have hDl : @Ne Nat D l9 := Ne.symm (off2 _ (List.mem_append_right _ (.tail _ (.head _))))
      have hDc : @Ne Nat D (L9 + 1) := Ne.symm (off2 _ (List.mem_append_right _ (.tail _ (.tail _ (.head _)))))
      have hA : ∀ p ∈ added2 ++ (added ++ news), p.1 ≠ l9 := fun p hp => (List.mem_append.mp hp).elim (fun hp => Ne.symm (Nat.ne_of_lt (hlt2 p hp _ (.tail _ (.head _))))) (hl9 p)
      have hB : ∀ p ∈ added2 ++ (added ++ news), p.1 ≠ L9 + 1 := fun p hp => (List.mem_append.mp hp).elim (fun hp => Ne.symm (Nat.ne_of_lt (hlt2 p hp _ (.tail _ (.tail _ (.head _)))))) (hL9 p)
      have hAn : ∀ p ∈ added2 ++ added, ∀ q ∈ news, q.1 < p.1 := fun p hp q hq => (List.mem_append.mp hp).elim (fun hp => hlt2 p hp q (.tail _ (.tail _ (.tail _ (List.mem_append_right _ hq))))) (fun hp => hlt p hp q hq)
      have N6 : News _ L9 h' ((D, LCg.lst ys) :: (l9, lstn vs k) :: (L9 + 1, o8) :: (I, oi) :: (added2 ++ (added ++ news))) := nSub N' (by
        intro p hp
        simp only [List.mem_cons, List.mem_append] at hp ⊢
        rcases hp with h | h | h | h | h | h | h <;> simp only [h, true_or, or_true])
      have hne : ys.length ≠ 0 := by omega
      have hlim : vs.length + ys.length < 1000 := by
        have : i * Wd ≤ 10 * 10 := Nat.mul_le_mul (by omega) (by omega)
        omega
      clear N' off' N9 F9 R9
      k_steps
      refine Stop.mk ?_
      (rename News _ _ _ _ => N5)
      (rename Obj.data _ = Data.cell _ => d5)
      refine ⟨_, _, _, (l9, lstn (vs ++ ys) (k + 1)) :: (L9 + 1, o8) :: ((added2 ++ added) ++ news), rfl, by assumption, nSub N5 ?_, ?_, trivial, added2 ++ added, vs ++ ys, k + 1, o8, rfl, rfl, ⟨_, d5⟩, ?_, hAn, ?_, ?_, ?_, pl_items hlen hlen2 hit hit2⟩
      · intro p hp
        simp only [List.mem_append, List.mem_cons, List.not_mem_nil, or_false] at hp ⊢
        rcases hp with h | h | h | (h | h) | h <;> simp only [h, true_or, or_true]
      · intro p hp q hq
        rw [List.mem_singleton.mp hq]
        rcases List.mem_cons.mp hp with rfl | hp
        · exact Nat.ne_of_lt hIn.1
        rcases List.mem_cons.mp hp with rfl | hp
        · exact Nat.ne_of_lt hIn.2
        rw [List.append_assoc] at hp
        rcases List.mem_append.mp hp with hp | hp
        · exact Ne.symm (Nat.ne_of_lt (hlt2 p hp _ (.head _)))
        · exact hI9 p hp
      · rw [List.length_append, hlen, hlen2, Nat.succ_mul]
      · rw [List.append_assoc]; exact hA
      · rw [List.append_assoc]; exact hB
      · rw [List.append_assoc]
        intro p hp
        rcases List.mem_append.mp hp with hp | hp
        · exact Ne.symm (Nat.ne_of_lt (hlt2 p hp _ (.head _)))
        · exact hI9 p hp
  · rintro m' n' h tk ⟨added, vs, k, oc, rfl, rfl, hoc, hlen, hlt, hl9, hL9, hI9, hit⟩ F1 N1
    have N2 : News _ L9 _ ((l9, lstn vs k) :: (L9 + 1, oc) :: (added ++ news)) := N1
    have F2 : Fr _ L9 _ _ := F1
    clear N1 F1 N9 F9 R9 dc9
    k_steps
    (rename News _ _ _ _ => N5)
    refine ret l9 added vs k _ _ (by assumption) (nSub N5 ?_) hlt (fun q hq => ?_) ?_ hit
    · intro p hp
      simp only [List.mem_append, List.mem_cons] at hp ⊢
      rcases hp with h | h | h <;> simp only [h, true_or, or_true]
    · exact hnl q hq
    · rw [List.length_map, List.length_range] at hlen
      rw [hlen, Nat.mul_comm]
  · exact fun p hp => Nat.ne_of_lt (hnl p hp)
  · exact fun p hp => Ne.symm (Nat.ne_of_gt (hnc p hp))
end
theorem map3 {a b c : Str} {va vb vc va' vb' vc' : Option Value} {M : Str → Option Value} :
    (fun y => if y = a then va else if y = b then vb else if y = c then vc else if y = a then va' else if y = b then vb' else if y = c then vc' else M y) = fun y => if y = a then va else if y = b then vb else if y = c then vc else M y := by
  funext y
  by_cases h1 : y = a
  · simp [h1]
  · by_cases h2 : y = b
    · simp [h2]
    · by_cases h3 : y = c
      · simp [h3]
      · simp [h1, h2, h3]
theorem map3_id (a b c : Str) (M : Str → Option Value) : M = fun y => if y = a then M a else if y = b then M b else if y = c then M c else M y := by
  funext y
  by_cases h1 : y = a
  · rw [if_pos h1, h1]
  · rw [if_neg h1]
    by_cases h2 : y = b
    · rw [if_pos h2, h2]
    · rw [if_neg h2]
      by_cases h3 : y = c
      · rw [if_pos h3, h3]
      · rw [if_neg h3]
theorem nameCan {w : World} {A : List (Addr × Obj)} {c : Addr} {Wd Ht n : Nat} {left top : Int} (_ : CanIn w A c Wd Ht left top n) : ∃ A' c' Wd' Ht', A' = A ∧ c' = c ∧ Wd' = Wd ∧ Ht' = Ht := ⟨A, c, Wd, Ht, rfl, rfl, rfl, rfl⟩
theorem nameNew {pl : List (Addr × Obj)} {P : Addr × Obj → Prop} (_ : ∀ p ∈ pl, P p) : ∃ x, x = pl := ⟨pl, rfl⟩
theorem nameLen {vs : List Value} {n : Nat} (_ : vs.length = n) : ∃ x, x = vs := ⟨vs, rfl⟩
theorem cell_div {Wd j i : Nat} (hi : i < Wd) : (j * Wd + i) % Wd = i ∧ (j * Wd + i) / Wd = j := by
  have e : j * Wd + i = i + Wd * j := by rw [Nat.mul_comm]; omega
  rw [e, Nat.add_mul_mod_self_left, Nat.mod_eq_of_lt hi, Nat.add_mul_div_left _ _ (by omega), Nat.div_eq_of_lt hi]
  exact ⟨rfl, by omega⟩
theorem cell_split {Wd Ht n : Nat} (h : n < Wd * Ht) : ∃ j i, n = j * Wd + i ∧ i < Wd ∧ j < Ht := by
  have hW : 0 < Wd := Nat.pos_of_ne_zero fun e => by subst e; simp at h
  refine ⟨n / Wd, n % Wd, ?_, Nat.mod_lt _ hW, Nat.div_lt_of_lt_mul h⟩
  rw [Nat.mul_comm]
  exact (Nat.div_add_mod n Wd).symm
theorem enum_item {vs : List Value} {i : Nat} {a : Itm} (h : (enumItems 0 vs)[i]? = some a) : ∃ v, vs[i]? = some v ∧ a = .pair (fun t => .int (i : Int) t) v := by
  have hlt := (List.getElem?_eq_some_iff.mp h).1
  rw [enumItems_length] at hlt
  have hv := List.getElem?_eq_getElem hlt
  have q := enumItems_get vs 0 i hv
  rw [h, Nat.zero_add] at q
  exact ⟨_, hv, Option.some.inj q⟩
theorem reshape {h₀ h : Heap} {L r9 : Addr} {vs9 : List Value} {k9 Wd : Nat} {left top : Int} {pl9 A9 B : List (Addr × Obj)} {cI dI : Addr × Obj}
    (N : News h₀ L h ((r9, lstn vs9 k9) :: (pl9 ++ cI :: dI :: (A9 ++ B)))) (lt9 : ∀ q ∈ cI :: dI :: (A9 ++ B), q.1 < r9) (new9 : ∀ p ∈ pl9, ∀ q ∈ cI :: dI :: (A9 ++ B), q.1 < p.1) (dis9 : ∀ p ∈ A9, ∀ q ∈ B, p.1 ≠ q.1)
    (it9 : ∀ q v, vs9[q]? = some v → ∃ r t u, v = .ref r ∧ (r, pr (left + ((q % Wd : Nat) : Int)) (top + ((q / Wd : Nat) : Int)) t u) ∈ pl9) :
    ∃ R, News h₀ L h (A9 ++ R) ∧ (∀ q ∈ A9, ∀ q' ∈ R, q.1 ≠ q'.1) ∧ (r9, lstn vs9 k9) ∈ R ∧ (∀ p ∈ B, p ∈ R) ∧ (∀ q v, vs9[q]? = some v → ∃ r t u, v = .ref r ∧ (r, pr (left + ((q % Wd : Nat) : Int)) (top + ((q / Wd : Nat) : Int)) t u) ∈ R) := by
  refine ⟨(r9, lstn vs9 k9) :: (pl9 ++ B), nSub N ?_, ?_, .head _, fun p hp => .tail _ (List.mem_append_right _ hp), fun q v h => ?_⟩
  · intro p hp
    simp only [List.mem_append, List.mem_cons] at hp ⊢
    rcases hp with h | h | h | h <;> simp only [h, true_or, or_true]
  · intro q hq q' hq'
    rcases List.mem_cons.mp hq' with rfl | hq'
    · exact Nat.ne_of_lt (lt9 q (.tail _ (.tail _ (List.mem_append_left _ hq))))
    · rcases List.mem_append.mp hq' with hq' | hq'
      · exact Nat.ne_of_lt (new9 q' hq' q (.tail _ (.tail _ (List.mem_append_left _ hq))))
      · exact dis9 q hq q' hq'
  · obtain ⟨r, t, u, e1, e2⟩ := it9 q v h
    exact ⟨r, t, u, e1, .tail _ (List.mem_append_left _ e2)⟩
theorem nameM {h₀ h : Heap} {L : Addr} {m : Str → Option Value} (F : Fr h₀ L h m) : ∃ M, M = m ∧ Fr h₀ L h M := ⟨m, rfl, F⟩
theorem putN {h₀ h : Heap} {L : Addr} {p c d e f g : Addr × Obj} {A R : List (Addr × Obj)} (N : News h₀ L h (p :: c :: d :: e :: f :: g :: (A ++ R))) : News h₀ L h (p :: (A ++ f :: g :: R)) := nSub N fun p hp => by
  simp only [List.mem_append, List.mem_cons] at hp ⊢
  rcases hp with h | h | h | h | h <;> simp only [h, true_or, or_true]
theorem name1 {h₀ h : Heap} {L : Addr} {a : Addr} {o : Obj} {n : List (Addr × Obj)} (_ : News h₀ L h ((a, o) :: n)) : ∃ (x : Addr), x = a := ⟨a, rfl⟩
section
variable {w : World} {mean : ExcName → Option Value} {mg mb : Str → Option Value} {dp un : Nat} {gd : Option (List Code)} {cn : Str} {cs : Scope} {ca : Addr} {ccd : Value} {cl : List (Str × Addr)} {outer : List Env} {A₀ : Around} {base h₀ : Heap} {L : Addr} {m : Str → Option Value} {news : List (Addr × Obj)} {s : Shared} {Q E : Value → Shared → Prop}
local macro_rules | `(tactic| walk_at "mine upd") => `(tactic| (intro o9; k_upd))
local macro_rules | `(tactic| walk_at "mine dec") => `(tactic| exact Nat.le_of_ble_eq_true rfl)
local macro_rules | `(tactic| walk_at "call ref cons nil") => `(tactic| (k_here; k_dflt (refine' take_ok ?C ?p0 ?p1 ?p2 ?p3 ?_; (case C => walk_at "mine cx"); (case p0 => walk_at "mine upd"); (case p1 => walk_at "mine ar"); (case p2 => walk_at "mine ar"); (case p3 => walk_at "mine ar"); intro d9 a9 b9 t9 u9 k9 v9 h9 tk9 lo9 hi9 ok9 F9 N9; (try dsimp only at N9); (try dsimp only); (try k_fold))))
local macro_rules | `(tactic| walk_at "call ref") => `(tactic| (k_here; k_dflt (refine' take_ok ?C ?p0 ?p1 ?p2 ?p3 ?_; (case C => walk_at "mine cx"); (case p0 => walk_at "mine upd"); (case p1 => walk_at "mine ar"); (case p2 => walk_at "mine ar"); (case p3 => walk_at "mine ar"); intro d9 a9 b9 t9 u9 k9 v9 h9 tk9 lo9 hi9 ok9 F9 N9; (try dsimp only at N9); (try dsimp only); (try k_fold))))
local macro_rules | `(tactic| walk_at "ItemsRest") => `(tactic| refine stop ?_)
local macro_rules | `(tactic| walk_at "UnrEndW") => `(tactic| refine stop ?_)
local macro_rules | `(tactic| walk_at "call type:enumerate") => `(tactic| refine stop ?_)
theorem canvas_i {wI hI left top : Int} {t1 t2 t3 t4 : Tok} (C : Cx w mean mg mb dp un 2 cs outer A₀ base h₀ L m s.heap news) (hW : 0 < wI) (hW2 : wI < 10) (hH : 0 < hI) (hH2 : hI < 10)
  (ret : ∀ c added Wd Ht h' tk', ((Wd : Nat) : Int) = wI → ((Ht : Nat) : Int) = hI → Fr h₀ L h' m → News h₀ L h' (added ++ news) → (∀ p ∈ added, ∀ q ∈ news, p.1 ≠ q.1) → CanIn w added c Wd Ht left top 0 → Q (.ref c) { s with heap := h', toks := tk' }) :
  wpAny (model PySem.Challenge.pw_pf0192_01 w) (ktrTop dp un gd cn cs L ca ccd cl outer) (call (.ref 277) [.int wI t1, .int hI t2, .int left t3, .int top t4]) Q E s := by
  obtain ⟨Wd, rfl⟩ := Int.eq_ofNat_of_zero_le (Int.le_of_lt hW)
  obtain ⟨Ht, rfl⟩ := Int.eq_ofNat_of_zero_le (Int.le_of_lt hH)
  exact canvas_new C (by omega) (by omega) (by omega) (by omega) fun c added h' tk' F N d K => ret c added Wd Ht h' tk' rfl rfl F N d K
local macro_rules | `(tactic| walk_at "call ref cons nil") => `(tactic| (k_here; k_dflt (refine' canvas_i ?C ?p0 ?p1 ?p2 ?p3 ?_; (case C => walk_at "mine cx"); (case p0 => walk_at "mine ar"); (case p1 => walk_at "mine ar"); (case p2 => walk_at "mine ar"); (case p3 => walk_at "mine ar"); intro c9 added9 Wd9 Ht9 h9 tk9 eW9 eH9 F9 N9 dis9 can9; (try dsimp only); (try k_fold))))
local macro_rules | `(tactic| walk_at "call ref") => `(tactic| (k_here; k_dflt (refine' canvas_i ?C ?p0 ?p1 ?p2 ?p3 ?_; (case C => walk_at "mine cx"); (case p0 => walk_at "mine ar"); (case p1 => walk_at "mine ar"); (case p2 => walk_at "mine ar"); (case p3 => walk_at "mine ar"); intro c9 added9 Wd9 Ht9 h9 tk9 eW9 eH9 F9 N9 dis9 can9; (try dsimp only); (try k_fold))))
theorem can_app {c : Addr} {Wd Ht n : Nat} {left top : Int} {A R : List (Addr × Obj)} (K : CanIn w A c Wd Ht left top n) : CanIn w (A ++ R) c Wd Ht left top n := K.mono fun _ hp => List.mem_append_left _ hp
theorem can_top {c : Addr} {Wd Ht n : Nat} {left top : Int} {A R : List (Addr × Obj)} {p q : Addr × Obj} (K : CanIn w A c Wd Ht left top n) : CanIn w (p :: q :: (A ++ R)) c Wd Ht left top n := K.mono fun _ hp => .tail _ (.tail _ (List.mem_append_left _ hp))
local macro_rules | `(tactic| walk_at "mine in") => `(tactic| exact can_top (by with_reducible assumption))
local macro_rules | `(tactic| walk_at "call ref cons nil") => `(tactic| (k_here; k_dflt (refine' places_ok ?C ?p0 ?p1 ?p2 ?p3 ?p4 ?p5 ?_; (case C => walk_at "mine cx"); (case p0 => walk_at "mine in"); (case p1 => walk_at "mine ar"); (case p2 => walk_at "mine ar"); (case p3 => walk_at "mine ar"); (case p4 => walk_at "mine ar"); (case p5 => walk_at "mine ar"); intro r9 pl9 vs9 k9 h9 tk9 F9 N9 new9 lt9 len9 it9; (try dsimp only); (try k_fold))))
local macro_rules | `(tactic| walk_at "call ref") => `(tactic| (k_here; k_dflt (refine' places_ok ?C ?p0 ?p1 ?p2 ?p3 ?p4 ?p5 ?_; (case C => walk_at "mine cx"); (case p0 => walk_at "mine in"); (case p1 => walk_at "mine ar"); (case p2 => walk_at "mine ar"); (case p3 => walk_at "mine ar"); (case p4 => walk_at "mine ar"); (case p5 => walk_at "mine ar"); intro r9 pl9 vs9 k9 h9 tk9 F9 N9 new9 lt9 len9 it9; (try dsimp only); (try k_fold))))
local macro_rules | `(tactic| walk_at "call ref cons nil") => `(tactic| ((with_reducible show wpAny _ _ (call (Value.ref 241) _) _ _ _); refine stop ?_))
local macro_rules | `(tactic| walk_at "exec For Tuple Call cons nil") => `(tactic| refine stop ?_)
theorem can_cls {A : List (Addr × Obj)} {c : Addr} {Wd Ht n : Nat} {left top : Int} (K : CanIn w A c Wd Ht left top n) : ∃ dc l t1 t2 t3 t4 t5 i1 i2 i3 i4, (c, instObj 277 dc) ∈ A ∧ (dc, dictOf [ent w "width" t1 (.int (Wd : Int) i1), ent w "height" t2 (.int (Ht : Int) i2), ent w "left" t3 (.int left i3), ent w "top" t4 (.int top i4), ent w "cells" t5 (.ref l)] 5) ∈ A := by
  obtain ⟨dc, l, _, _, t1, t2, t3, t4, t5, i1, i2, i3, i4, h1, h2, _⟩ := K
  exact ⟨dc, l, t1, t2, t3, t4, t5, i1, i2, i3, i4, h1, h2⟩
theorem picture0 {l : Addr} {a b : Int} {ta tb : Tok} {k : Nat} {rest : List (Addr × Obj)} (C : Cx w mean mg mb dp un 4 cs outer A₀ base h₀ L m s.heap ((l, src a b ta tb k) :: rest)) (off : ∀ p ∈ rest, p.1 ≠ l) (ha : SrcOk a b)
  (ret : ∀ c A Wd Ht left top a' b' ta' tb' k' h' tk', 0 < Wd → Wd ≤ 4 → 0 < Ht → Ht ≤ 3 → SrcOk a' b' → Fr h₀ L h' m → News h₀ L h' (A ++ (l, src a' b' ta' tb' k') :: rest) → (∀ q ∈ A, ∀ q' ∈ (l, src a' b' ta' tb' k') :: rest, q.1 ≠ q'.1) → CanIn w A c Wd Ht left top (Wd * Ht) → Q (.ref c) { s with heap := h', toks := tk' }) :
  wpAny (model PySem.Challenge.pw_pf0192_01 w) (ktrTop dp un gd cn cs L ca ccd cl outer) (call (.ref 386) [.ref l]) Q E s := by
  obtain ⟨B, F, X, N, T, hk, hdp, hun⟩ := C
  refine wpAny_call ?_
  k_dflt (refine' code_def (binds := [(Str.ofString "source", Value.ref l)]) ?k1 ?k2 ?k3 ?k4 ?k5 ?kA ?kF ?kK ?k6 ?k7 ?k8 ?k9 ?kB ?_ ?c2 ?c3 ?c4 ?c5; walk_at "mine enter")
  k_steps
  refine Stop.mk ?_
  (rename News _ _ _ _ => N9)
  (rename Fr _ _ _ _ => F9)
  (rename SrcOk _ _ => ok9)
  (rename CanIn _ _ _ _ _ _ _ _ => can9)
  (rename ∀ p ∈ _, ∀ q ∈ _, Prod.fst p ≠ Prod.fst q => dis9)
  obtain ⟨dc, lc, o1, o2, o3, o4, o5, i1, i2, i3, i4, hc, hdc⟩ := can_cls can9
  have N8 := nPick N9 (List.mem_append_left _ hc) (nPick N9 (List.mem_append_left _ hdc) N9)
  clear N9
  refine For_turns F9 ?_
  k_steps
  refine Stop.mk ?_
  (rename News _ _ _ _ => N9)
  (rename Fr _ _ _ _ => F9)
  (rename ∀ q v, _ → ∃ r t u, _ => it9)
  (rename ∀ p ∈ _, ∀ q ∈ _, Prod.fst q < Prod.fst p => new9)
  (rename ∀ q ∈ _, Prod.fst q < _ => lt9)
  (rename List.length _ = _ => len9)
  obtain ⟨Lp, rfl⟩ := nameL F9
  obtain ⟨r9, rfl⟩ := name1 N9
  obtain ⟨A9, c9, Wd, Ht, rfl, rfl, rfl, rfl⟩ := nameCan can9
  obtain ⟨pl9, rfl⟩ := nameNew new9
  obtain ⟨vs9, rfl⟩ := nameLen len9
  obtain ⟨R9, N6, offR, hr9, hB, it8⟩ := reshape N9 lt9 new9 dis9 it9
  clear N9 N8 it9 new9 lt9 dis9
  obtain ⟨M9, eM, F8⟩ := nameM F9
  clear F9
  refine ktu_enum rfl F8 N6 (List.mem_append_right _ hr9) rfl rfl rfl fun I hI => ?_
  refine items_inv (fun i m' n' => ∃ A v1 v2 v3, m' = (fun y => if y = Str.ofString "y" then v1 else if y = Str.ofString "x" then v2 else if y = Str.ofString "number" then v3 else M9 y) ∧ n' = A ++ R9 ∧ (∀ q ∈ A, ∀ q' ∈ R9, q.1 ≠ q'.1) ∧ (∀ q ∈ A, q.1 ≠ I + 1 ∧ q.1 ≠ I) ∧ CanIn w A c9 Wd Ht _ _ i) ?_ ?_ _ 0 _ _ List.drop_zero (Nat.zero_le _) ⟨A9, _, _, _, map3_id _ _ _ _, rfl, offR, fun q hq => ⟨Nat.ne_of_lt (Nat.lt_succ_of_lt (hI q (List.mem_append_left _ hq))), Nat.ne_of_lt (hI q (List.mem_append_left _ hq))⟩, can9⟩
  · rintro i a v m' n' h tk hx ha ⟨A, v1, v2, v3, rfl, rfl, hd, hdI, hcan⟩ F1
    refine AllObj.cons fun oe he => AllObj.cons fun ol hl => AllObj.nil fun N1 => ?_
    obtain ⟨v0, hv0, rfl⟩ := enum_item hx
    obtain ⟨T, t, rfl, hT⟩ := ha
    have hi := (List.getElem?_eq_some_iff.mp hv0).1
    obtain ⟨j, i0, rfl, hi0, hj⟩ := cell_split (len9 ▸ hi)
    obtain ⟨r, t1, t2, rfl, hr⟩ := it8 _ _ hv0
    rw [(cell_div hi0).1, (cell_div hi0).2] at hr
    obtain ⟨dc, lc, o1, o2, o3, o4, o5, i1, i2, i3, i4, hc, hdc⟩ := can_cls hcan
    replace N1 : News _ Lp _ ((I + 1, oe) :: (I, ol) :: (A ++ R9)) := N1
    have N2 : News _ Lp _ ((r, pr _ _ t1 t2) :: (c9, instObj 277 dc) :: (dc, _) :: (I + 1, oe) :: (I, ol) :: (A ++ R9)) := nPick N1 (.tail _ (.tail _ (List.mem_append_right _ hr))) (nPick N1 (.tail _ (.tail _ (List.mem_append_left _ hc))) (nPick N1 (.tail _ (.tail _ (List.mem_append_left _ hdc))) N1))
    have F2 : Fr _ Lp _ _ := F1
    clear N1 F1 N6 F8
    subst eM
    k_steps
    refine Stop.mk ?_
    (rename News _ _ _ _ => N5)
    (rename Fr _ _ _ _ => F5)
    (rename _ ∧ _ ∧ _ ∧ _ ∧ _ ∧ AllLt _ _ => l5)
    refine' put_ok (R := (I + 1, oe) :: (I, ol) :: R9) (Cx.mk ?B ?F ?X ?N ?T ?hk ?hdp ?hun) hcan ?x ?y hi0 hj ?W ?H ?d ?e ?_
    case F => exact F5
    case N => exact putN N5
    case B => k_asm
    case X => k_asm
    case T => k_asm
    case hk => rfl
    case hdp =>
      refine Nat.lt_of_le_of_lt ?_ (by assumption)
      (try simp only [depth_deeper])
      (try dsimp only [ktrTop])
      show dp + 1 + 2 ≤ dp + 4
      omega
    case hun =>
      refine Nat.lt_of_le_of_lt ?_ (by assumption)
      (try simp only [units_deeper])
      (try dsimp only [ktrTop])
      show un + 3 + 8 * 2 ≤ un + 8 * 4
      omega
    case x => omega
    case y => omega
    case W => omega
    case H => omega
    case d =>
      intro q hq q' hq'
      rcases List.mem_cons.mp hq' with rfl | hq'
      · exact (hdI q hq).1
      rcases List.mem_cons.mp hq' with rfl | hq'
      · exact (hdI q hq).2
      exact hd q hq q' hq'
    case e =>
      intro q' hq'
      rcases List.mem_cons.mp hq' with rfl | hq'
      · exact Ne.symm (Nat.ne_of_lt l5.2.2.2.1)
      rcases List.mem_cons.mp hq' with rfl | hq'
      · exact Ne.symm (Nat.ne_of_lt l5.2.2.2.2.1)
      exact Ne.symm (Nat.ne_of_lt (ktn_ltOf l5.2.2.2.2.2 q' (List.mem_append_right _ hq')))
    intro A' h' tk' F6 N6 d6 can6
    clear N5 F5
    k_steps
    refine Stop.mk ?_
    refine ⟨_, _, _, A' ++ R9, rfl, by assumption, nSub N6 ?_, ?_, ⟨List.mem_append_right _ hr9, trivial⟩, A', _, _, _, map3, rfl, fun q hq q' hq' => d6 q hq q' (.tail _ (.tail _ hq')), fun q hq => ⟨d6 q hq _ (.head _), d6 q hq _ (.tail _ (.head _))⟩, can6⟩
    · intro p hp
      simp only [List.mem_append, List.mem_cons, List.not_mem_nil, or_false] at hp ⊢
      rcases hp with (h | h) | h | h <;> simp only [h, true_or, or_true]
    · intro p hp q hq
      have hRI : ∀ p ∈ R9, p.1 ≠ I + 1 ∧ p.1 ≠ I := fun p hp => ⟨Nat.ne_of_lt (Nat.lt_succ_of_lt (hI p (List.mem_append_right _ hp))), Nat.ne_of_lt (hI p (List.mem_append_right _ hp))⟩
      have hpq : p.1 ≠ I + 1 ∧ p.1 ≠ I := by
        rcases List.mem_append.mp hp with hp | hp
        · exact ⟨d6 p hp _ (.head _), d6 p hp _ (.tail _ (.head _))⟩
        · exact hRI p hp
      rcases List.mem_cons.mp hq with rfl | hq
      · exact hpq.1
      · rw [List.mem_singleton.mp hq]; exact hpq.2
  · rintro m' n' h tk ⟨A, v1, v2, v3, rfl, rfl, hd, hdI, hcan⟩ F1 N1
    rw [enumItems_length, len9] at hcan
    have N2 : News _ Lp _ (A ++ R9) := N1
    have F2 : Fr _ Lp _ _ := F1
    clear N1 F1 N6 F8
    subst eM
    k_steps
    (rename News _ _ _ _ => N5)
    refine ret c9 A Wd Ht _ _ _ _ _ _ _ _ _ (by omega) (by omega) (by omega) (by omega) ok9 (by assumption) (nSub N5 fun p hp => ?_) (fun q hq q' hq' => hd q hq q' (hB q' (.tail _ hq'))) hcan
    rcases List.mem_append.mp hp with hp | hp
    · exact List.mem_append_left _ hp
    · exact List.mem_append_right _ (hB p (.tail _ hp))
end
open PyProof.V PySem.Spec PySem.SeqAt
theorem val_item {vs : List Value} {i : Nat} {a : Itm} (h : (vs.map Itm.val)[i]? = some a) : ∃ v, vs[i]? = some v ∧ a = .val v := by
  rw [List.getElem?_map] at h
  cases e : vs[i]? with
  | none => rw [e] at h; cases h
  | some v => rw [e] at h; exact ⟨v, rfl, (Option.some.inj h).symm⟩
theorem shaped_tup (ns : List Int) : shaped (.tuple (ns.map PyData.int)) = true := by
  have h1 := W.depthAll_ints ns
  have h2 : PyData.depth (.tuple (ns.map PyData.int)) ≤ 64 := by simp only [PyData.depth]; omega
  show (PyData.canLay0 (.tuple (ns.map PyData.int)) && decide (PyData.depth (.tuple (ns.map PyData.int)) ≤ 64)) = true
  rw [Bool.and_eq_true]
  exact ⟨by simp only [PyData.canLay0]; exact canLayAll0_ints ns, decide_eq_true h2⟩
theorem reads_tup {h : Heap} {a : Addr} {vs : List Value} {ns : List Int} (hl : IsTup h a vs.toArray) (hi : IntsAre vs ns) : Reads h (.ref a) (.tuple (ns.map PyData.int)) [] := by
  obtain ⟨o, ho, hc, n, hd⟩ := hl
  exact Reads.tuple ho hc hd (by simpa using readsAll_of_ints hi)
theorem ne_tup {prog : Program} {w : World} {A : Around} {E : Value → Shared → Prop} {s : Shared} {a b : Addr} {vs us : List Value} {ns ms : List Int} {Q : Value → Shared → Prop} (hl : IsTup s.heap a vs.toArray) (hl' : IsTup s.heap b us.toArray) (hi : IntsAre vs ns) (hi' : IntsAre us ms) (hu : A.units + 64 < cLine)
    (h : Q (.bool (!decide (ns = ms))) s) : wpAny (model prog w) A (compareOp .NotEq (.ref a) (.ref b)) Q E s :=
  ne_dataH_same (reads_tup hl hi) (reads_tup hl' hi') (shaped_tup ns) (shaped_tup ms) hu (by simp only [noMix]; exact noMix_ints ns ms) (by simp only [PySem.Spec.same]; rw [same_ints]; exact h)
theorem map2_id (a b : Str) (M : Str → Option Value) : M = fun y => if y = a then M a else if y = b then M b else M y := by
  funext y
  by_cases h1 : y = a
  · rw [if_pos h1, h1]
  · rw [if_neg h1]
    by_cases h2 : y = b
    · rw [if_pos h2, h2]
    · rw [if_neg h2]
theorem ne_same_N {prog : Program} {w : World} {A : Around} {E : Value → Shared → Prop} {s : Shared} {a b : Addr} {vs us : List Value} {ns : List Int} {Q : Value → Shared → Prop} {h₀ : Heap} {L : Addr} {news : List (Addr × Obj)}
    (N : News h₀ L s.heap news) (ha : (a, tup vs) ∈ news) (hb : (b, tup us) ∈ news) (hi : IntsAre vs ns) (hi' : IntsAre us ns) (hu : A.units + 64 < cLine) (h : Q (.bool false) s) : wpAny (model prog w) A (compareOp .NotEq (.ref a) (.ref b)) Q E s :=
  ne_tup (N.isTup ha) (N.isTup hb) hi hi' hu (by simpa using h)
theorem ne_same_K {prog : Program} {w : World} {A : Around} {E : Value → Shared → Prop} {s : Shared} {a b : Addr} {vs us : List Value} {ns : List Int} {Q : Value → Shared → Prop} {h₀ : Heap} {L : Addr} {m : Str → Option Value} {news : List (Addr × Obj)} {K : Frag} {dd : Option Addr} {sl : Array (Option Value)} {n : Nat}
    (F : Fr h₀ L s.heap m) (X₀ : K.In h₀) (hl : K.lookup a = some ⟨.type "tuple", dd, .seq vs.toArray n, sl⟩) (N : News h₀ L s.heap news) (hb : (b, tup us) ∈ news) (hi : IntsAre vs ns) (hi' : IntsAre us ns) (hu : A.units + 64 < cLine) (h : Q (.bool false) s) : wpAny (model prog w) A (compareOp .NotEq (.ref a) (.ref b)) Q E s :=
  ne_tup (tupK (X₀.keeps F.keep) hl) (N.isTup hb) hi hi' hu (by simpa using h)
section
variable {w : World} {mean : ExcName → Option Value} {mg mb : Str → Option Value} {dp un : Nat} {gd : Option (List Code)} {cn : Str} {cs : Scope} {ca : Addr} {ccd : Value} {cl : List (Str × Addr)} {outer : List Env} {A₀ : Around} {base h₀ : Heap} {L : Addr} {m : Str → Option Value} {news : List (Addr × Obj)} {s : Shared} {Q E : Value → Shared → Prop}
theorem pattern_new {W H : Rat} {cv mt rw rh : Addr} {tw uw th uh : Tok} (C : Cx w mean mg mb dp un 3 cs outer A₀ base h₀ L m s.heap news) (hw : (rw, rt W tw uw) ∈ news) (hh : (rh, rt H th uh) ∈ news)
  (ret : ∀ r news' h' tk', Fr h₀ L h' m → News h₀ L h' news' → (∀ p ∈ news, p ∈ news') → PatIn w news' r cv mt W H → Q (.ref r) { s with heap := h', toks := tk' }) :
  wpAny (model PySem.Challenge.pw_pf0192_01 w) (ktrTop dp un gd cn cs L ca ccd cl outer) (call (.ref 202) [.ref cv, .ref mt, .ref rw, .ref rh]) Q E s := by
  obtain ⟨B, F, X, N, T, hk, hdp, hun⟩ := C
  k_dflt (refine' call_cls ?k1 ?k2 ?k3 ?k4 ?k5 ?k6 ?_; (case k1 => k_asm); (case k2 => k_asm); (case k3 => k_asm); (case k4 => k_is); (case k5 => k_is); (case k6 => k_is); k_whole)
  intro x1 d1 h1 F1 N1 l1 l2
  k_lt2 l2
  k_dflt (refine' code_def (binds := [(Str.ofString "self", Value.ref x1), (Str.ofString "canvas", Value.ref cv), (Str.ofString "inverse", Value.ref mt), (Str.ofString "width", Value.ref rw), (Str.ofString "height", Value.ref rh)]) ?k1 ?k2 ?k3 ?k4 ?k5 ?kA ?kF ?kK ?k6 ?k7 ?k8 ?k9 ?kB ?_ ?c2 ?c3 ?c4 ?c5; walk_at "mine enter")
  k_steps
  exact ret _ _ _ _ (by assumption) (by assumption) (fun p hp => .tail _ (.tail _ hp)) ⟨_, _, _, _, _, _, _, _, _, _, _, .head _, .tail _ (.head _), .tail _ (.tail _ hw), .tail _ (.tail _ hh)⟩
local macro_rules | `(tactic| walk_at "call ref cons nil") => `(tactic| (k_here; k_dflt (refine' frac_ok ?C ?p0 ?p1 ?_; (case C => walk_at "mine cx"); (case p0 => walk_at "mine ar"); (case p1 => walk_at "mine ar"); intro r9 t9 u9 h9 tk9 F9 N9 l9; (try dsimp only); (try k_fold))))
local macro_rules | `(tactic| walk_at "call ref") => `(tactic| (k_here; k_dflt (refine' frac_ok ?C ?p0 ?p1 ?_; (case C => walk_at "mine cx"); (case p0 => walk_at "mine ar"); (case p1 => walk_at "mine ar"); intro r9 t9 u9 h9 tk9 F9 N9 l9; (try dsimp only); (try k_fold))))
local macro_rules | `(tactic| walk_at "call ref cons nil") => `(tactic| ((with_reducible show wpAny _ _ (call (Value.ref 412) _) _ _ _); refine stop ?_))
local macro_rules | `(tactic| walk_at "call ref cons nil") => `(tactic| ((with_reducible show wpAny _ _ (call (Value.ref 202) _) _ _ _); refine stop ?_))
local macro_rules | `(tactic| walk_at "ItemsRest") => `(tactic| refine stop ?_)
local macro_rules | `(tactic| walk_at "UnrEndW") => `(tactic| refine stop ?_)
local macro_rules | `(tactic| walk_at "exec For Tuple Name cons nil") => `(tactic| refine stop ?_)
local macro_rules | `(tactic| walk_at "pyIter ref") => `(tactic| refine stop ?_)
local macro_rules | `(tactic| walk_at "call ref cons nil") => `(tactic| (k_here; k_dflt (refine' colour_no ?C ?p0 ?p1 ?p2 ?p3 ?p4 ?p5 ?p6 ?_; (case C => walk_at "mine cx"); (case p0 => walk_at "mine in"); (case p1 => walk_at "mine in"); (case p2 => walk_at "mine ar"); (case p3 => walk_at "mine ar"); (case p4 => walk_at "mine ar"); (case p5 => walk_at "mine ar"); (case p6 => walk_at "mine ar"); intro h9 tk9 F9 N9; (try dsimp only); (try k_fold))))
local macro_rules | `(tactic| walk_at "call ref") => `(tactic| (k_here; k_dflt (refine' colour_no ?C ?p0 ?p1 ?p2 ?p3 ?p4 ?p5 ?p6 ?_; (case C => walk_at "mine cx"); (case p0 => walk_at "mine in"); (case p1 => walk_at "mine in"); (case p2 => walk_at "mine ar"); (case p3 => walk_at "mine ar"); (case p4 => walk_at "mine ar"); (case p5 => walk_at "mine ar"); (case p6 => walk_at "mine ar"); intro h9 tk9 F9 N9; (try dsimp only); (try k_fold))))
local macro_rules | `(tactic| walk_at "call ref cons nil") => `(tactic| (k_here; k_dflt (refine' colour_ok ?C ?p0 ?p1 ?p2 ?p3 ?p4 ?p5 ?p6 ?p7 ?p8 ?p9 ?p10 ?p11 ?p12 ?p13 ?p14 ?p15 ?p16 ?p17 ?p18 ?p19 ?p20 ?p21 ?_; (case C => walk_at "mine cx"); (case p0 => walk_at "mine in"); (case p1 => walk_at "mine in"); (case p2 => walk_at "mine in"); (case p3 => walk_at "mine ar"); (case p4 => walk_at "mine ar"); (case p5 => walk_at "mine ar"); (case p6 => walk_at "mine ar"); (case p7 => walk_at "mine ar"); (case p8 => walk_at "mine ar"); (case p9 => walk_at "mine ar"); (case p10 => walk_at "mine ar"); (case p11 => walk_at "mine ar"); (case p12 => walk_at "mine ar"); (case p13 => walk_at "mine ar"); (case p14 => walk_at "mine ar"); (case p15 => walk_at "mine ar"); (case p16 => walk_at "mine ar"); (case p17 => walk_at "mine ar"); (case p18 => walk_at "mine ar"); (case p19 => walk_at "mine ar"); (case p20 => walk_at "mine ar"); (case p21 => walk_at "mine ar"); intro p9 t9 u9 v9 w9 h9 tk9 m9 F9 N9; (try dsimp only); (try k_fold))))
local macro_rules | `(tactic| walk_at "call ref") => `(tactic| (k_here; k_dflt (refine' colour_ok ?C ?p0 ?p1 ?p2 ?p3 ?p4 ?p5 ?p6 ?p7 ?p8 ?p9 ?p10 ?p11 ?p12 ?p13 ?p14 ?p15 ?p16 ?p17 ?p18 ?p19 ?p20 ?p21 ?_; (case C => walk_at "mine cx"); (case p0 => walk_at "mine in"); (case p1 => walk_at "mine in"); (case p2 => walk_at "mine in"); (case p3 => walk_at "mine ar"); (case p4 => walk_at "mine ar"); (case p5 => walk_at "mine ar"); (case p6 => walk_at "mine ar"); (case p7 => walk_at "mine ar"); (case p8 => walk_at "mine ar"); (case p9 => walk_at "mine ar"); (case p10 => walk_at "mine ar"); (case p11 => walk_at "mine ar"); (case p12 => walk_at "mine ar"); (case p13 => walk_at "mine ar"); (case p14 => walk_at "mine ar"); (case p15 => walk_at "mine ar"); (case p16 => walk_at "mine ar"); (case p17 => walk_at "mine ar"); (case p18 => walk_at "mine ar"); (case p19 => walk_at "mine ar"); (case p20 => walk_at "mine ar"); (case p21 => walk_at "mine ar"); intro p9 t9 u9 v9 w9 h9 tk9 m9 F9 N9; (try dsimp only); (try k_fold))))
local macro_rules | `(tactic| walk_at "call ref cons nil") => `(tactic| (k_here; k_dflt (refine' lcol_no ?C ?p0 ?p1 ?p2 ?p3 ?_; (case C => walk_at "mine cx"); (case p0 => walk_at "mine mem"); (case p1 => walk_at "mine mem"); (case p2 => walk_at "mine mem"); (case p3 => walk_at "mine ar"); intro r9 t9 u9 v9 w9 h9 tk9 F9 N9; (try dsimp only); (try k_fold))))
local macro_rules | `(tactic| walk_at "call ref") => `(tactic| (k_here; k_dflt (refine' lcol_no ?C ?p0 ?p1 ?p2 ?p3 ?_; (case C => walk_at "mine cx"); (case p0 => walk_at "mine mem"); (case p1 => walk_at "mine mem"); (case p2 => walk_at "mine mem"); (case p3 => walk_at "mine ar"); intro r9 t9 u9 v9 w9 h9 tk9 F9 N9; (try dsimp only); (try k_fold))))
local macro_rules | `(tactic| walk_at "call ref cons nil") => `(tactic| (k_here; k_dflt (refine' lcol_ok ?C ?p0 ?p1 ?p2 ?p3 ?p4 ?p5 ?p6 ?p7 ?p8 ?p9 ?p10 ?p11 ?p12 ?p13 ?p14 ?_; (case C => walk_at "mine cx"); (case p0 => walk_at "mine in"); (case p1 => walk_at "mine mem"); (case p2 => walk_at "mine mem"); (case p3 => walk_at "mine mem"); (case p4 => walk_at "mine mem"); (case p5 => walk_at "mine ar"); (case p6 => walk_at "mine ar"); (case p7 => walk_at "mine ar"); (case p8 => walk_at "mine ar"); (case p9 => walk_at "mine ar"); (case p10 => walk_at "mine ar"); (case p11 => walk_at "mine ar"); (case p12 => walk_at "mine ar"); (case p13 => walk_at "mine ar"); (case p14 => walk_at "mine ar"); intro r9 t9 u9 v9 w9 h9 tk9 F9 N9; (try dsimp only); (try k_fold))))
local macro_rules | `(tactic| walk_at "call ref") => `(tactic| (k_here; k_dflt (refine' lcol_ok ?C ?p0 ?p1 ?p2 ?p3 ?p4 ?p5 ?p6 ?p7 ?p8 ?p9 ?p10 ?p11 ?p12 ?p13 ?p14 ?_; (case C => walk_at "mine cx"); (case p0 => walk_at "mine in"); (case p1 => walk_at "mine mem"); (case p2 => walk_at "mine mem"); (case p3 => walk_at "mine mem"); (case p4 => walk_at "mine mem"); (case p5 => walk_at "mine ar"); (case p6 => walk_at "mine ar"); (case p7 => walk_at "mine ar"); (case p8 => walk_at "mine ar"); (case p9 => walk_at "mine ar"); (case p10 => walk_at "mine ar"); (case p11 => walk_at "mine ar"); (case p12 => walk_at "mine ar"); (case p13 => walk_at "mine ar"); (case p14 => walk_at "mine ar"); intro r9 t9 u9 v9 w9 h9 tk9 F9 N9; (try dsimp only); (try k_fold))))
local macro_rules | `(tactic| walk_at "mine ints") => `(tactic| exact .cons _ _ (.cons _ _ (.cons _ _ (.cons _ _ .nil))))
local macro_rules | `(tactic| walk_at "mine room") => `(tactic| (refine Nat.lt_of_le_of_lt ?_ (by assumption); (try simp only [units_deeper]); (try dsimp only [ktrTop]); omega))
local macro_rules | `(tactic| walk_at "compareOp NotEq ref ref") => `(tactic| (k_here; k_dflt (refine' ne_same_N ?N ?a ?b ?i ?j ?u ?_; (case N => k_asm); (case a => k_mem); (case b => k_mem); (case i => walk_at "mine ints"); (case j => walk_at "mine ints"); (case u => walk_at "mine room"); k_whole)))
local macro_rules | `(tactic| walk_at "compareOp NotEq ref ref") => `(tactic| (k_here; k_dflt (refine' ne_same_K ?F ?X ?l ?N ?b ?i ?j ?u ?_; (case F => k_asm); (case X => k_asm); (case l => k_is); (case N => k_asm); (case b => k_mem); (case i => walk_at "mine ints"); (case j => walk_at "mine ints"); (case u => walk_at "mine room"); k_whole)))
theorem right_ok {cv hl sl dl z1 z2 : Addr} {Wd Ht : Nat} {left top : Int} {a b c d e f p1 q1 p2 q2 : Int} {t1 t2 t3 t4 t5 t6 u1 v1 u2 v2 : Tok} {kh ks kd : Nat} {ds : List Value} (C : Cx w mean mg mb dp un 9 cs outer A₀ base h₀ L m s.heap news)
  (K : CanIn w news cv Wd Ht left top (Wd * Ht)) (lW0 : 0 < Wd) (lW : Wd ≤ 4) (lH0 : 0 < Ht) (lH : Ht ≤ 3)
  (hh : (hl, six a b c d e f t1 t2 t3 t4 t5 t6 kh) ∈ news) (hs : (sl, lstn [.ref z1, .ref z2] ks) ∈ news) (h1 : (z1, pr p1 q1 u1 v1) ∈ news) (h2 : (z2, pr p2 q2 u2 v2) ∈ news)
  (hd : (dl, lstn ds kd) ∈ news) (hds : ∀ (i : Nat) v, ds[i]? = some v → ∃ r x y t u, v = .ref r ∧ (r, pr x y t u) ∈ news ∧ (2 * x + 1).natAbs ≤ 21 ∧ (2 * y + 1).natAbs ≤ 21)
  (ba : a.natAbs ≤ 4) (bb : b.natAbs ≤ 4) (bc : c.natAbs ≤ 4) (bd : d.natAbs ≤ 4) (be : e.natAbs ≤ 4) (bf : f.natAbs ≤ 4) (bp1 : -11 ≤ p1 ∧ p1 ≤ 11) (bp2 : -11 ≤ p2 ∧ p2 ≤ 11) (bq1 : 0 < q1 ∧ q1 ≤ 7) (bq2 : 0 < q2 ∧ q2 ≤ 7)
  (ret : ∀ h' tk', Fr h₀ L h' m → News h₀ L h' news → Q (.bool true) { s with heap := h', toks := tk' }) :
  wpAny (model PySem.Challenge.pw_pf0192_01 w) (ktrTop dp un gd cn cs L ca ccd cl outer) (call (.ref 407) [.ref cv, .ref hl, .ref sl, .ref dl]) Q E s := by
  obtain ⟨B, F, X, N, T, hk, hdp, hun⟩ := C
  refine wpAny_call ?_
  k_dflt (refine' code_def (binds := [(Str.ofString "canvas", Value.ref cv), (Str.ofString "halves", Value.ref hl), (Str.ofString "sides", Value.ref sl), (Str.ofString "dots", Value.ref dl)]) ?k1 ?k2 ?k3 ?k4 ?k5 ?kA ?kF ?kK ?k6 ?k7 ?k8 ?k9 ?kB ?_ ?c2 ?c3 ?c4 ?c5; walk_at "mine enter")
  k_steps
  refine Stop.mk ?_
  refine' lmat_ok ?C hh ?_
  case C => walk_at "mine cx"
  intro mt n1 h9 tk9 F9 N9 s1 M1
  replace hh := s1 _ hh
  replace hs := s1 _ hs
  replace h1 := s1 _ h1
  replace h2 := s1 _ h2
  replace hd := s1 _ hd
  replace hds : ∀ (i : Nat) v, ds[i]? = some v → ∃ r x y t u, v = .ref r ∧ (r, pr x y t u) ∈ n1 ∧ (2 * x + 1).natAbs ≤ 21 ∧ (2 * y + 1).natAbs ≤ 21 := fun i v hv => by
    obtain ⟨r, x, y, t, u, e1, e2, e3⟩ := hds i v hv
    exact ⟨r, x, y, t, u, e1, s1 _ e2, e3⟩
  replace K := K.mono s1
  k_steps
  refine Stop.mk ?_
  (rename News _ _ _ ((_, _) :: (_, _) :: _) => N8)
  refine' pattern_new ?C ?w ?h ?_
  case C => walk_at "mine cx"
  case w => k_mem
  case h => k_mem
  intro z n2 h8 tk8 F8 N7 s2 P2
  have s3 : ∀ p ∈ n1, p ∈ n2 := fun p hp => s2 p (.tail _ (.tail _ hp))
  replace hh := s3 _ hh
  replace hs := s3 _ hs
  replace h1 := s3 _ h1
  replace h2 := s3 _ h2
  replace hd := s3 _ hd
  replace hds : ∀ (i : Nat) v, ds[i]? = some v → ∃ r x y t u, v = .ref r ∧ (r, pr x y t u) ∈ n2 ∧ (2 * x + 1).natAbs ≤ 21 ∧ (2 * y + 1).natAbs ≤ 21 := fun i v hv => by
    obtain ⟨r, x, y, t, u, e1, e2, e3⟩ := hds i v hv
    exact ⟨r, x, y, t, u, e1, s3 _ e2, e3⟩
  replace K := K.mono s3
  replace M1 := M1.mono s3
  replace s1 : ∀ p ∈ news, p ∈ n2 := fun p hp => s3 p (s1 p hp)
  clear s2 s3 N8
  k_steps
  refine Stop.mk ?_
  (rename News _ _ _ _ => N6)
  (rename Fr _ _ _ _ => F6)
  obtain ⟨Lp, rfl⟩ := nameL F6
  refine For_turns F6 ?_
  k_steps
  refine Stop.mk ?_
  obtain ⟨M9, eM, F5⟩ := nameM F6
  clear F6
  refine iter_listTurns (vs := ds) rfl F5 N6 hd rfl rfl fun I hI => ?_
  refine items_inv (fun i m' n' => n' = n2 ∧ ∃ v1 v2, m' = fun y => if y = Str.ofString "y" then v1 else if y = Str.ofString "x" then v2 else M9 y) ?_ ?_ _ 0 _ _ List.drop_zero (Nat.zero_le _) ⟨rfl, _, _, map2_id _ _ _⟩
  · rintro i0 a0 v0 m' n' h tk hx ha ⟨rfl, w1, w2, rfl⟩ F1
    refine AllObj.cons fun ol hol => AllObj.nil fun N1 => ?_
    obtain ⟨v3, hv3, rfl⟩ := val_item hx
    obtain rfl : v0 = v3 := ha
    obtain ⟨r, x, y, t, u, rfl, hr, bx, by'⟩ := hds _ _ hv3
    have N2 : News _ Lp _ ((I, ol) :: n') := N1
    have F2 : Fr _ Lp _ _ := F1
    clear N1 F1 N6 F5 hx hv3
    subst eM
    have P3 := P2
    obtain ⟨dx, rw, rh, o1, o2, o3, o4, tw, uw, th, uh, hz, hdx, -⟩ := P2
    have sW := side_bd bq1.1 bq1.2 bp1.1 bp1.2
    have sH := side_bd bq2.1 bq2.2 bp2.1 bp2.2
    have hRI : ∀ p ∈ n', ∀ q ∈ [(I, ol)], p.1 ≠ q.1 := fun p hp q hq => by
      rw [List.mem_singleton.mp hq]
      exact Nat.ne_of_lt (hI p hp)
    by_cases hp : p1 ≤ 0 ∨ p2 ≤ 0
    · have hn : (Rat.divInt p1 q1).num ≤ 0 ∨ (Rat.divInt p2 q2).num ≤ 0 := hp.imp (fun h => num_npos h bq1.1) (fun h => num_npos h bq2.1)
      k_steps
      refine Stop.mk ?_
      (rename News _ _ _ _ => N5)
      refine ⟨_, _, _, n', rfl, by assumption, nSub N5 ?_, hRI, ⟨hd, trivial⟩, rfl, _, _, map2⟩
      intro p hp
      simp only [List.mem_append, List.mem_cons, List.not_mem_nil, or_false] at hp ⊢
      rcases hp with h | h <;> simp only [h, true_or, or_true]
    · have hp1 : 0 < p1 := by omega
      have hp2 : 0 < p2 := by omega
      have hn1 := num_pos hp1 bq1.1
      have hn2 := num_pos hp2 bq2.1
      have sa := Bd.half ba
      have sb := Bd.half bb
      have sc := Bd.half bc
      have sd := Bd.half bd
      have se := Bd.half be
      have sf := Bd.half bf
      obtain ⟨i, ei, hi⟩ := cut_range (X := (a * (2 * x + 1) + c * (2 * y + 1) + 2 * e) * q1) (Y := 4 * p1) (many := (Wd : Int)) (by omega) (by omega)
      obtain ⟨j, ej, hj⟩ := cut_range (X := (b * (2 * x + 1) + d * (2 * y + 1) + 2 * f) * q2) (Y := 4 * p2) (many := (Ht : Int)) (by omega) (by omega)
      have ci : cutR (Rat.divInt a 2 * mid x + Rat.divInt c 2 * mid y + Rat.divInt e 2) (Rat.divInt p1 q1) (Wd : Int) = (i : Int) := by rw [place_eq, cut_eq hp1 bq1.1]; exact ei
      have cj : cutR (Rat.divInt b 2 * mid x + Rat.divInt d 2 * mid y + Rat.divInt f 2) (Rat.divInt p2 q2) (Ht : Int) = (j : Int) := by rw [place_eq, cut_eq hp2 bq2.1]; exact ej
      have hij : j * Wd + i < Wd * Ht := by
        have h1 : j + 1 ≤ Ht := by omega
        have h2 := Nat.mul_le_mul_right Wd h1
        rw [Nat.succ_mul, Nat.mul_comm Ht Wd] at h2
        omega
      k_steps
      refine Stop.mk ?_
      (rename News _ _ _ _ => N5)
      refine ⟨_, _, _, n', rfl, by assumption, nSub N5 ?_, hRI, ⟨hd, trivial⟩, rfl, _, _, map2⟩
      intro p hp
      simp only [List.mem_append, List.mem_cons, List.not_mem_nil, or_false] at hp ⊢
      rcases hp with h | h <;> simp only [h, true_or, or_true]
  · rintro m' n' h tk ⟨rfl, w1, w2, rfl⟩ F1 N1
    have N2 : News _ Lp _ n' := N1
    have F2 : Fr _ Lp _ _ := F1
    clear N1 F1 N6 F5
    subst eM
    k_steps
    (rename News _ _ _ _ => N5)
    exact ret _ _ (by assumption) (nSub N5 s1)
end
theorem pull (a : Str) (v : Value) {M : Str → Option Value} (h : M a = some v) : M = fun y => if y = a then some v else M y := by
  funext y
  by_cases h1 : y = a
  · rw [if_pos h1, h1, h]
  · rw [if_neg h1]
theorem nameScript {h : Heap} {a : Addr} {vs : List Value} {ns : List Int} (_ : h.IsList a vs.toArray) (_ : IntsAre vs ns) : ∃ x y z, x = a ∧ y = vs ∧ z = ns := ⟨a, vs, ns, rfl, rfl, rfl⟩
theorem nameSrc {h₀ h : Heap} {L l : Addr} {a b : Int} {ta tb : Tok} {k : Nat} {n : List (Addr × Obj)} (_ : News h₀ L h ((l, src a b ta tb k) :: n)) : ∃ a' b' ta' tb' k', a' = a ∧ b' = b ∧ ta' = ta ∧ tb' = tb ∧ k' = k := ⟨a, b, ta, tb, k, rfl, rfl, rfl, rfl, rfl⟩
theorem pack {h₀ h : Heap} {L sl z1 z2 D r9 I : Addr} {v1 v2 : Value} {ks : Nat} {o2 o3 o4 o5 oI : Obj} {cell x9 : Addr × Obj} {A : List (Addr × Obj)} (N : News h₀ L h ((sl, lstn [v1, v2] ks) :: (z2, o2) :: (z1, o3) :: x9 :: (D, o4) :: (r9, o5) :: cell :: (I, oI) :: A))
    (a1 : @Ne Nat sl r9) (a2 : @Ne Nat z2 r9) (a3 : @Ne Nat z1 r9) (a4 : @Ne Nat D r9) (a5 : @Ne Nat I r9) (a6 : ∀ p ∈ A, p.1 ≠ r9) :
    ∃ sl' z1' z2' ks' B, News h₀ L h ((r9, o5) :: cell :: B) ∧ (∀ p ∈ B, p.1 ≠ r9) ∧ ((sl', lstn [v1, v2] ks') ∈ B ∧ sl' = sl) ∧ ((z2', o2) ∈ B ∧ z2' = z2) ∧ ((z1', o3) ∈ B ∧ z1' = z1) ∧ (D, o4) ∈ B ∧ (I, oI) ∈ B ∧ ∀ p ∈ A, p ∈ B := by
  refine ⟨sl, z1, z2, ks, (sl, lstn [v1, v2] ks) :: (z2, o2) :: (z1, o3) :: (D, o4) :: (I, oI) :: A, nSub N fun p hp => ?_, fun p hp => ?_, ⟨.head _, rfl⟩, ⟨.tail _ (.head _), rfl⟩, ⟨.tail _ (.tail _ (.head _)), rfl⟩, .tail _ (.tail _ (.tail _ (.head _))), .tail _ (.tail _ (.tail _ (.tail _ (.head _)))), fun p hp => .tail _ (.tail _ (.tail _ (.tail _ (.tail _ hp))))⟩
  · simp only [List.mem_cons] at hp ⊢
    rcases hp with h | h | h | h | h | h | h | h <;> simp only [h, true_or, or_true]
  · simp only [List.mem_cons] at hp
    rcases hp with rfl | rfl | rfl | rfl | rfl | h
    · exact a1
    · exact a2
    · exact a3
    · exact a4
    · exact a5
    · exact a6 p h
def DotJ (r9 : Addr) (cell : Addr × Obj) (B : List (Addr × Obj)) (i : Nat) (ys : List Value) (nw : List (Addr × Obj)) : Prop :=
  ∃ added a b ta tb k, SrcOk a b ∧ nw = (r9, src a b ta tb k) :: cell :: (added ++ B) ∧ ys.length = i ∧ (∀ p ∈ added ++ B, p.1 ≠ r9) ∧ ∀ (j : Nat) v, ys[j]? = some v → ∃ r x y t u, v = .ref r ∧ (r, pr x y t u) ∈ added ∧ (2 * x + 1).natAbs ≤ 21 ∧ (2 * y + 1).natAbs ≤ 21
theorem dotEnd {h₀ : Heap} {L : Addr} {m : Str → Option Value} {s₁ : Shared} {T9 I C D r9 : Addr} {oI oC oD o' : Obj} {x y a b : Int} {t u ta tb : Tok} {k i : Nat} {cell : Addr × Obj} {added B : List (Addr × Obj)} {h' : Heap} {tk : Nat} {ys : List Value}
    (F : Fr h₀ L h' m) (N : News h₀ L h' ((T9, pr x y t u) :: (I, oI) :: (C, oC) :: (D, oD) :: (r9, src a b ta tb k) :: cell :: (added ++ B))) (off : LCg.Off3 I C D ((r9, o') :: cell :: (added ++ B)))
    (l : I < T9 ∧ C < T9 ∧ D < T9 ∧ r9 < T9) (ok : SrcOk a b) (hlen : ys.length = i) (hAB : ∀ p ∈ added ++ B, p.1 ≠ r9)
    (hit : ∀ (j : Nat) v, ys[j]? = some v → ∃ r x y t u, v = .ref r ∧ (r, pr x y t u) ∈ added ∧ (2 * x + 1).natAbs ≤ 21 ∧ (2 * y + 1).natAbs ≤ 21) (bx : (2 * x + 1).natAbs ≤ 21) (by' : (2 * y + 1).natAbs ≤ 21) :
    LCg.CompEnd h₀ L m s₁ I oI C oC D oD (fun _ => True) (fun y nw => DotJ r9 cell B (i + 1) (ys ++ [y]) nw) (.ref T9) { s₁ with heap := h', toks := tk } := by
  obtain ⟨q, qc, q'⟩ := off
  refine LCg.CompEnd.intro F N ((r9, src a b ta tb k) :: cell :: (((T9, pr x y t u) :: added) ++ B)) (fun p hp => ?_) ⟨q, qc, ⟨Ne.symm (Nat.ne_of_lt l.1), Ne.symm (Nat.ne_of_lt l.2.1), Ne.symm (Nat.ne_of_lt l.2.2.1)⟩, q'⟩ trivial ?_
  · simp only [List.mem_append, List.mem_cons] at hp ⊢
    rcases hp with h | h | h | h | h | (h | h) | h <;> simp only [h, true_or, or_true]
  · refine ⟨(T9, pr x y t u) :: added, a, b, ta, tb, k, ok, rfl, by rw [List.length_append, hlen]; rfl, fun p hp => ?_, items_snoc (fun j v hj => ?_) ⟨T9, x, y, t, u, rfl, .head _, bx, by'⟩⟩
    · rcases List.mem_cons.mp hp with rfl | hp
      · exact Ne.symm (Nat.ne_of_lt l.2.2.2)
      · exact hAB p hp
    · obtain ⟨r, x, y, t, u, w1, w2, w3⟩ := hit j v hj
      exact ⟨r, x, y, t, u, w1, .tail _ w2, w3⟩
theorem nameLt {x y : Int} (_ : x < y) : ∃ x', x' = x := ⟨x, rfl⟩
theorem one_nums {dt db p q : Int} (ht0 : 0 ≤ dt) (ht : dt < 99) (hb0 : 0 ≤ db) (hb : db < 6) (hp0 : 0 < p) (hp5 : p ≤ 5) (hq0 : 0 < q) (hq7 : q ≤ 7) :
    (0 < (1 + db) * p ∧ (1 + db) * p < 1000000000) ∧ (0 < q * (1 + db) ∧ q * (1 + db) < 1000000000) ∧ (0 < 1 + db ∧ 1 + db < 1000) ∧ (-1000 < q ∧ q < 1000) ∧ Bd (Rat.divInt (dt - 49) (1 + db)) 1408 32 ∧ Bd (Rat.divInt p q) 11 7 ∧ 0 < (Rat.divInt p q).num := by
  have hpy : 0 < (1 + db) * p := Int.mul_pos (by omega) hp0
  have hqy : 0 < q * (1 + db) := Int.mul_pos hq0 (by omega)
  have hpy2 : (1 + db) * p ≤ 6 * 5 := Int.mul_le_mul (by omega) hp5 (by omega) (by decide)
  have hqy2 : q * (1 + db) ≤ 7 * 6 := Int.mul_le_mul hq7 (by omega) (by omega) (by decide)
  exact ⟨⟨hpy, by omega⟩, ⟨hqy, by omega⟩, ⟨by omega, by omega⟩, ⟨by omega, by omega⟩, Bd.of (by omega) (by omega) (by omega), side_bd hq0 hq7 (by omega) (by omega), num_pos hp0 hq0⟩
theorem turn_sub {p1 p2 p3 p4 p5 p6 p7 p8 p9 cell Io : Addr × Obj} {A B : List (Addr × Obj)} (h : Io ∈ B) : ∀ p ∈ [Io] ++ [cell], p ∈ p1 :: p2 :: p3 :: p4 :: p5 :: p6 :: p7 :: p8 :: p9 :: cell :: (A ++ B) := fun p hp => by
  simp only [List.mem_append, List.mem_cons, List.not_mem_nil, or_false] at hp ⊢
  rcases hp with rfl | rfl <;> simp only [h, true_or, or_true]
theorem nameR {h : Heap} {r : Addr} {a b c : Int} {t u v : Tok} (_ : IsRange h r a b c t u v) : ∃ x, x = b := ⟨b, rfl⟩
section
local macro_rules | `(tactic| walk_at "exec Assign cons ListComp") => `(tactic| (k_here; (with_reducible show wpAny _ _ (exec (Stmt.Assign [Expr.Name _ _] _ _) _) _ _ _); k_dflt (refine LCg.Assign_ListComp_U (F₀ := by k_asm) (by rfl) (by with_unfolding_all rfl) (by with_unfolding_all rfl) (by decide) (by rfl) (by decide) (by rfl) (by rfl) (by rfl) ?_)))
local macro_rules | `(tactic| walk_at "exec Assign cons ListComp") => `(tactic| (k_here; (with_reducible show wpAny _ _ (exec (Stmt.Assign [Expr.Attribute _ _ _] _ _) _) _ _ _); with_reducible refine plainObj_wpAny_Assign_Attribute ?_ ?_; rotate_left; with_unfolding_all rfl))
local macro_rules | `(tactic| walk_at "eval ListComp") => `(tactic| (k_here; k_dflt (refine LCg.ListComp_U (F₀ := by k_asm) (by with_unfolding_all rfl) (by decide) (by rfl) (by decide) (by rfl) ?_)))
local macro_rules | `(tactic| walk_at "CompSrc") => `(tactic| refine stop ?_)
local macro_rules | `(tactic| walk_at "CompEnd") => `(tactic| refine stop ?_)
local macro_rules | `(tactic| walk_at "mine upd") => `(tactic| (intro o9; k_upd))
local macro_rules | `(tactic| walk_at "mine dec") => `(tactic| exact Nat.le_of_ble_eq_true rfl)
local macro_rules | `(tactic| walk_at "mine ne") => `(tactic| (refine neN ?_; (try dsimp only); omega))
local macro_rules | `(tactic| walk_at "call ref cons nil") => `(tactic| (k_here; k_dflt (refine' take_ok ?C ?p0 ?p1 ?p2 ?p3 ?_; (case C => walk_at "mine cx"); (case p0 => walk_at "mine upd"); (case p1 => walk_at "mine ar"); (case p2 => walk_at "mine ar"); (case p3 => walk_at "mine ar"); intro d9 a9 b9 t9 u9 k9 v9 h9 tk9 lo9 hi9 ok9 F9 N9; (try dsimp only at N9); (try dsimp only); (try k_fold))))
local macro_rules | `(tactic| walk_at "call ref") => `(tactic| (k_here; k_dflt (refine' take_ok ?C ?p0 ?p1 ?p2 ?p3 ?_; (case C => walk_at "mine cx"); (case p0 => walk_at "mine upd"); (case p1 => walk_at "mine ar"); (case p2 => walk_at "mine ar"); (case p3 => walk_at "mine ar"); intro d9 a9 b9 t9 u9 k9 v9 h9 tk9 lo9 hi9 ok9 F9 N9; (try dsimp only at N9); (try dsimp only); (try k_fold))))
local macro_rules | `(tactic| walk_at "call ref cons nil") => `(tactic| (k_here; k_dflt (refine' canvas_i ?C ?p0 ?p1 ?p2 ?p3 ?_; (case C => walk_at "mine cx"); (case p0 => walk_at "mine ar"); (case p1 => walk_at "mine ar"); (case p2 => walk_at "mine ar"); (case p3 => walk_at "mine ar"); intro c9 added9 Wd9 Ht9 h9 tk9 eW9 eH9 F9 N9 dis9 can9; (try dsimp only); (try k_fold))))
local macro_rules | `(tactic| walk_at "call ref") => `(tactic| (k_here; k_dflt (refine' canvas_i ?C ?p0 ?p1 ?p2 ?p3 ?_; (case C => walk_at "mine cx"); (case p0 => walk_at "mine ar"); (case p1 => walk_at "mine ar"); (case p2 => walk_at "mine ar"); (case p3 => walk_at "mine ar"); intro c9 added9 Wd9 Ht9 h9 tk9 eW9 eH9 F9 N9 dis9 can9; (try dsimp only); (try k_fold))))
local macro_rules | `(tactic| walk_at "mine in") => `(tactic| exact can_top (by with_reducible assumption))
local macro_rules | `(tactic| walk_at "call ref cons nil") => `(tactic| (k_here; k_dflt (refine' places_ok ?C ?p0 ?p1 ?p2 ?p3 ?p4 ?p5 ?_; (case C => walk_at "mine cx"); (case p0 => walk_at "mine in"); (case p1 => walk_at "mine ar"); (case p2 => walk_at "mine ar"); (case p3 => walk_at "mine ar"); (case p4 => walk_at "mine ar"); (case p5 => walk_at "mine ar"); intro r9 pl9 vs9 k9 h9 tk9 F9 N9 new9 lt9 len9 it9; (try dsimp only); (try k_fold))))
local macro_rules | `(tactic| walk_at "call ref") => `(tactic| (k_here; k_dflt (refine' places_ok ?C ?p0 ?p1 ?p2 ?p3 ?p4 ?p5 ?_; (case C => walk_at "mine cx"); (case p0 => walk_at "mine in"); (case p1 => walk_at "mine ar"); (case p2 => walk_at "mine ar"); (case p3 => walk_at "mine ar"); (case p4 => walk_at "mine ar"); (case p5 => walk_at "mine ar"); intro r9 pl9 vs9 k9 h9 tk9 F9 N9 new9 lt9 len9 it9; (try dsimp only); (try k_fold))))
local macro_rules | `(tactic| walk_at "ItemsRest") => `(tactic| refine stop ?_)
local macro_rules | `(tactic| walk_at "UnrEndW") => `(tactic| refine stop ?_)
local macro_rules | `(tactic| walk_at "call type:enumerate") => `(tactic| refine stop ?_)
local macro_rules | `(tactic| walk_at "call ref cons nil") => `(tactic| ((with_reducible show wpAny _ _ (call (Value.ref 241) _) _ _ _); refine stop ?_))
local macro_rules | `(tactic| walk_at "call ref cons nil") => `(tactic| ((with_reducible show wpAny _ _ (call (Value.ref 407) _) _ _ _); refine stop ?_))
local macro_rules | `(tactic| walk_at "exec For Tuple Call cons nil") => `(tactic| refine stop ?_)
local macro_rules | `(tactic| walk_at "exec For Name Call cons nil") => `(tactic| refine stop ?_)
local macro_rules | `(tactic| walk_at "pyIter ref") => `(tactic| refine stop ?_)
local macro_rules | `(tactic| walk_at "mine as") => `(tactic| assumption)
local macro_rules | `(tactic| walk_at "call ref cons nil") => `(tactic| (k_here; k_dflt (refine' pool_ok ?C ?p0 ?p1 ?p2 ?p3 ?p4 ?_; (case C => walk_at "mine cx"); (case p0 => walk_at "mine as"); (case p1 => walk_at "mine as"); (case p2 => walk_at "mine ar"); (case p3 => walk_at "mine ar"); (case p4 => walk_at "mine ar"); intro r9 a9 b9 t9 u9 k9 h9 tk9 ok9 F9 N9 l9; (try k_lt l9); (try dsimp only); (try k_fold))))
local macro_rules | `(tactic| walk_at "call ref") => `(tactic| (k_here; k_dflt (refine' pool_ok ?C ?p0 ?p1 ?p2 ?p3 ?p4 ?_; (case C => walk_at "mine cx"); (case p0 => walk_at "mine as"); (case p1 => walk_at "mine as"); (case p2 => walk_at "mine ar"); (case p3 => walk_at "mine ar"); (case p4 => walk_at "mine ar"); intro r9 a9 b9 t9 u9 k9 h9 tk9 ok9 F9 N9 l9; (try k_lt l9); (try dsimp only); (try k_fold))))
local macro_rules | `(tactic| walk_at "call ref cons nil") => `(tactic| ((with_reducible show wpAny _ _ (call (Value.ref 386) _) _ _ _); refine stop ?_))
local macro_rules | `(tactic| walk_at "call ref cons nil") => `(tactic| (k_here; k_dflt (refine' side_ok ?C ?p0 ?p1 ?_; (case C => walk_at "mine cx"); (case p0 => walk_at "mine upd"); (case p1 => walk_at "mine ar"); intro r9 p9 q9 t9 u9 a9 b9 v9 w9 k9 h9 tk9 x1 x2 x3 x4 ok9 l9 F9 N9; (try dsimp only at N9); (try dsimp only); (try k_fold))))
local macro_rules | `(tactic| walk_at "call ref") => `(tactic| (k_here; k_dflt (refine' side_ok ?C ?p0 ?p1 ?_; (case C => walk_at "mine cx"); (case p0 => walk_at "mine upd"); (case p1 => walk_at "mine ar"); intro r9 p9 q9 t9 u9 a9 b9 v9 w9 k9 h9 tk9 x1 x2 x3 x4 ok9 l9 F9 N9; (try dsimp only at N9); (try dsimp only); (try k_fold))))
local macro_rules | `(tactic| walk_at "call ref cons nil") => `(tactic| (k_here; k_dflt (refine' one_ok ?C ?p0 ?p1 ?p2 ?p3 ?p4 ?_; (case C => walk_at "mine cx"); (case p0 => walk_at "mine ne"); (case p1 => walk_at "mine upd"); (case p2 => walk_at "mine ar"); (case p3 => walk_at "mine dec"); (case p4 => walk_at "mine dec"); intro w9 a9 b9 t9 u9 k9 h9 tk9 m9 ok9 F9 N9; (try dsimp only at N9); refine stop ?_; (try dsimp only); (try k_fold))))
local macro_rules | `(tactic| walk_at "call ref") => `(tactic| (k_here; k_dflt (refine' one_ok ?C ?p0 ?p1 ?p2 ?p3 ?p4 ?_; (case C => walk_at "mine cx"); (case p0 => walk_at "mine ne"); (case p1 => walk_at "mine upd"); (case p2 => walk_at "mine ar"); (case p3 => walk_at "mine dec"); (case p4 => walk_at "mine dec"); intro w9 a9 b9 t9 u9 k9 h9 tk9 m9 ok9 F9 N9; (try dsimp only at N9); refine stop ?_; (try dsimp only); (try k_fold))))
local macro_rules | `(tactic| walk_at "call ref cons nil") => `(tactic| (k_here; k_dflt (refine' rest_ok ?C ?p0 ?p1 ?p2 ?p3 ?p4 ?p5 ?p6 ?_; (case C => walk_at "mine cx"); (case p0 => walk_at "mine mem"); (case p1 => walk_at "mine ar"); (case p2 => walk_at "mine ar"); (case p3 => walk_at "mine ar"); (case p4 => walk_at "mine ar"); (case p5 => walk_at "mine ar"); (case p6 => walk_at "mine ar"); intro r9 t9 u9 h9 tk9 F9 N9 l9; (try dsimp only); (try k_fold))))
local macro_rules | `(tactic| walk_at "call ref") => `(tactic| (k_here; k_dflt (refine' rest_ok ?C ?p0 ?p1 ?p2 ?p3 ?p4 ?p5 ?p6 ?_; (case C => walk_at "mine cx"); (case p0 => walk_at "mine mem"); (case p1 => walk_at "mine ar"); (case p2 => walk_at "mine ar"); (case p3 => walk_at "mine ar"); (case p4 => walk_at "mine ar"); (case p5 => walk_at "mine ar"); (case p6 => walk_at "mine ar"); intro r9 t9 u9 h9 tk9 F9 N9 l9; (try dsimp only); (try k_fold))))
local macro_rules | `(tactic| walk_at "call ref cons nil") => `(tactic| (k_here; k_dflt (refine' frac_ok ?C ?p0 ?p1 ?_; (case C => walk_at "mine cx"); (case p0 => walk_at "mine ar"); (case p1 => walk_at "mine ar"); intro r9 t9 u9 h9 tk9 F9 N9 l9; (try dsimp only); (try k_fold))))
local macro_rules | `(tactic| walk_at "call ref") => `(tactic| (k_here; k_dflt (refine' frac_ok ?C ?p0 ?p1 ?_; (case C => walk_at "mine cx"); (case p0 => walk_at "mine ar"); (case p1 => walk_at "mine ar"); intro r9 t9 u9 h9 tk9 F9 N9 l9; (try dsimp only); (try k_fold))))
local macro_rules | `(tactic| walk_at "call ref cons nil") => `(tactic| (k_here; k_dflt (refine' within_ok ?C ?p0 ?p1 ?p2 ?p3 ?p4 ?_; (case C => walk_at "mine cx"); (case p0 => walk_at "mine mem"); (case p1 => walk_at "mine mem"); (case p2 => walk_at "mine ar"); (case p3 => walk_at "mine ar"); (case p4 => walk_at "mine ar"); intro r9 t9 u9 h9 tk9 F9 N9 l9; (try dsimp only); (try k_fold))))
local macro_rules | `(tactic| walk_at "call ref") => `(tactic| (k_here; k_dflt (refine' within_ok ?C ?p0 ?p1 ?p2 ?p3 ?p4 ?_; (case C => walk_at "mine cx"); (case p0 => walk_at "mine mem"); (case p1 => walk_at "mine mem"); (case p2 => walk_at "mine ar"); (case p3 => walk_at "mine ar"); (case p4 => walk_at "mine ar"); intro r9 t9 u9 h9 tk9 F9 N9 l9; (try dsimp only); (try k_fold))))
local macro_rules | `(tactic| walk_at "compareOp NotEq ref ref") => `(tactic| refine stop ?_)
theorem side3 {v : Value} {x1 x2 x3 : Addr} {a1 b1 a2 b2 a3 b3 : Tok} {n : List (Addr × Obj)} (m : v ∈ [Value.ref x1, Value.ref x2, Value.ref x3]) (h1 : (x1, pr 3 1 a1 b1) ∈ n) (h2 : (x2, pr 5 2 a2 b2) ∈ n) (h3 : (x3, pr 2 7 a3 b3) ∈ n) :
    ∃ z p q t u, v = .ref z ∧ (z, pr p q t u) ∈ n ∧ (z, rt (Rat.divInt p q) t u) ∈ n ∧ 0 < p ∧ p ≤ 5 ∧ 0 < q ∧ q ≤ 7 := by
  have key : ∀ p q : Int, ∀ t u, 0 < q → ((Int.gcd p q : Nat) : Int) = 1 → rt (Rat.divInt p q) t u = pr p q t u := fun p q t u hq hg => by
    show tup [.int (Rat.divInt p q).num t, .int ((Rat.divInt p q).den : Int) u] = tup [.int p t, .int q u]
    rw [divInt_num hq, divInt_den hq, hg, Int.ediv_one, Int.ediv_one]
  simp only [List.mem_cons, List.not_mem_nil, or_false] at m
  rcases m with rfl | rfl | rfl
  · exact ⟨x1, 3, 1, _, _, rfl, h1, (key 3 1 _ _ (by decide) (by decide)).symm ▸ h1, by decide, by decide, by decide, by decide⟩
  · exact ⟨x2, 5, 2, _, _, rfl, h2, (key 5 2 _ _ (by decide) (by decide)).symm ▸ h2, by decide, by decide, by decide, by decide⟩
  · exact ⟨x3, 2, 7, _, _, rfl, h3, (key 2 7 _ _ (by decide) (by decide)).symm ▸ h3, by decide, by decide, by decide, by decide⟩
theorem three_get {a b c v : Value} {i : Nat} (h : [a, b, c][i]? = some v) : v = a ∨ v = b ∨ v = c := by
  rcases i with _ | _ | _ | i
  · exact .inl (Option.some.inj h).symm
  · exact .inr (.inl (Option.some.inj h).symm)
  · exact .inr (.inr (Option.some.inj h).symm)
  · exact absurd h (by simp)
theorem one_pick {v : Value} {x1 x2 x3 : Addr} {a1 b1 a2 b2 a3 b3 : Tok} {h₀ h : Heap} {L : Addr} {n : List (Addr × Obj)} (N : News h₀ L h ((x3, pr 2 7 a3 b3) :: (x2, pr 5 2 a2 b2) :: (x1, pr 3 1 a1 b1) :: n)) (m : v ∈ [Value.ref x1, Value.ref x2, Value.ref x3]) :
    ∃ z p q t u, v = .ref z ∧ News h₀ L h ((z, pr p q t u) :: (z, rt (Rat.divInt p q) t u) :: n) ∧ 0 < p ∧ p ≤ 5 ∧ 0 < q ∧ q ≤ 7 := by
  obtain ⟨z, p, q, t, u, e, hz, hr, r⟩ := side3 m (.tail _ (.tail _ (.head _))) (.tail _ (.head _)) (.head _)
  exact ⟨z, p, q, t, u, e, nPick N hz (nPick N hr (nTail (nTail (nTail N)))), r⟩
local macro_rules | `(tactic| walk_at "mine law") => `(tactic| (k_fill; intro w s₀ s₁ mg mb G Y fa o pm cd doc dV kV ho hd hcd hD hmg hg args vals as hpre hlay hrd hwl hlo; have KX := kIn_of Y; have X := (Ground.X G).1; have V := (Ground.X G).2; refine Ground.open G ?_; intro T B D TE TW; (try (refine guard_noD D (by decide +kernel) ?_; clear D)); obtain ⟨_, _, M⟩ := bmod_of_top T; have TA := at_of_top T; (try (obtain ⟨_, _, he, B0⟩ := based_of_top T rfl hmg ho hd; have he' : cd = _ := he; subst he'; clear he)); clear hmg; wrow_args hpre hlay hrd hwl hlo; refine enter_call ?_; w_top on; (try refine codeAny_mono ?_ (fun _ _ g => GoodW.toG g)); have K0 := below_caller (Top.heap T); w_call any ho hd hcd hD T F; clear hd TA; k_drop))
theorem law_t : PySem.Challenge.rw_pf0192_01.Holds := by
  refine Hx.hd ?_
  walk_at "mine law"
  k_steps
  (rename Shared => s₁)
  (rename World => w)
  refine Stop.mk ?_
  (rename News _ _ _ _ => N9)
  (rename Fr _ _ _ _ => F9)
  (rename CanIn _ _ _ _ _ _ _ _ => can9)
  (rename ∀ p ∈ _, ∀ q ∈ _, Prod.fst p ≠ Prod.fst q => dis9)
  obtain ⟨dc, lc, o1, o2, o3, o4, o5, i1, i2, i3, i4, hc, hdc⟩ := can_cls can9
  have N8 := nPick N9 (List.mem_append_left _ hc) (nPick N9 (List.mem_append_left _ hdc) N9)
  clear N9
  refine For_turns F9 ?_
  k_steps
  refine Stop.mk ?_
  (rename News _ _ _ _ => N9)
  (rename Fr _ _ _ _ => F9)
  (rename ∀ q v, _ → ∃ r t u, _ => it9)
  (rename ∀ p ∈ _, ∀ q ∈ _, Prod.fst q < Prod.fst p => new9)
  (rename ∀ q ∈ _, Prod.fst q < _ => lt9)
  (rename List.length _ = _ => len9)
  obtain ⟨r9, rfl⟩ := name1 N9
  obtain ⟨A9, c9, Wd, Ht, rfl, rfl, rfl, rfl⟩ := nameCan can9
  obtain ⟨pl9, rfl⟩ := nameNew new9
  obtain ⟨vs9, rfl⟩ := nameLen len9
  obtain ⟨R9, N6, offR, hr9, hB, it8⟩ := reshape N9 lt9 new9 dis9 it9
  clear N9 N8 it9 new9 lt9 dis9
  obtain ⟨M9, eM, F8⟩ := nameM F9
  clear F9
  refine ktu_enum rfl F8 N6 (List.mem_append_right _ hr9) rfl rfl rfl fun I hI => ?_
  refine items_inv (fun i m' n' => ∃ A v1 v2 v3, m' = (fun y => if y = Str.ofString "y" then v1 else if y = Str.ofString "x" then v2 else if y = Str.ofString "number" then v3 else M9 y) ∧ n' = A ++ R9 ∧ (∀ q ∈ A, ∀ q' ∈ R9, q.1 ≠ q'.1) ∧ (∀ q ∈ A, q.1 ≠ I + 1 ∧ q.1 ≠ I) ∧ CanIn w A c9 Wd Ht _ _ i) ?_ ?_ _ 0 _ _ List.drop_zero (Nat.zero_le _) ⟨A9, _, _, _, map3_id _ _ _ _, rfl, offR, fun q hq => ⟨Nat.ne_of_lt (Nat.lt_succ_of_lt (hI q (List.mem_append_left _ hq))), Nat.ne_of_lt (hI q (List.mem_append_left _ hq))⟩, can9⟩
  · rintro i a v m' n' h tk hx ha ⟨A, v1, v2, v3, rfl, rfl, hd, hdI, hcan⟩ F1
    refine AllObj.cons fun oe he => AllObj.cons fun ol hl => AllObj.nil fun N1 => ?_
    obtain ⟨v0, hv0, rfl⟩ := enum_item hx
    obtain ⟨T, t, rfl, hT⟩ := ha
    have hi := (List.getElem?_eq_some_iff.mp hv0).1
    obtain ⟨j, i0, rfl, hi0, hj⟩ := cell_split (len9 ▸ hi)
    obtain ⟨r, t1, t2, rfl, hr⟩ := it8 _ _ hv0
    rw [(cell_div hi0).1, (cell_div hi0).2] at hr
    obtain ⟨dc, lc, o1, o2, o3, o4, o5, i1, i2, i3, i4, hc, hdc⟩ := can_cls hcan
    replace N1 : News _ s₁.heap.objs.size _ ((I + 1, oe) :: (I, ol) :: (A ++ R9)) := N1
    have N2 : News _ s₁.heap.objs.size _ ((r, pr _ _ t1 t2) :: (c9, instObj 277 dc) :: (dc, _) :: (I + 1, oe) :: (I, ol) :: (A ++ R9)) := nPick N1 (.tail _ (.tail _ (List.mem_append_right _ hr))) (nPick N1 (.tail _ (.tail _ (List.mem_append_left _ hc))) (nPick N1 (.tail _ (.tail _ (List.mem_append_left _ hdc))) N1))
    have F2 : Fr _ s₁.heap.objs.size _ _ := F1
    clear N1 F1 N6 F8
    subst eM
    k_steps
    refine Stop.mk ?_
    (rename News _ _ _ _ => N5)
    (rename Fr _ _ _ _ => F5)
    (rename _ ∧ _ ∧ _ ∧ _ ∧ _ ∧ AllLt _ _ => l5)
    refine' put_ok (R := (I + 1, oe) :: (I, ol) :: R9) (Cx.mk ?B ?F ?X ?N ?T ?hk ?hdp ?hun) hcan ?x ?y hi0 hj ?wW ?wH ?wd ?we ?_
    case F => exact F5
    case N => exact putN N5
    case B => k_asm
    case X => k_asm
    case T => k_asm
    case hk => rfl
    case hdp => (try simp only [depth_deeper]); decide
    case hun => (try simp only [units_deeper]); decide
    case x => omega
    case y => omega
    case wW => omega
    case wH => omega
    case wd =>
      intro q hq q' hq'
      rcases List.mem_cons.mp hq' with rfl | hq'
      · exact (hdI q hq).1
      rcases List.mem_cons.mp hq' with rfl | hq'
      · exact (hdI q hq).2
      exact hd q hq q' hq'
    case we =>
      intro q' hq'
      rcases List.mem_cons.mp hq' with rfl | hq'
      · exact Ne.symm (Nat.ne_of_lt l5.2.2.2.1)
      rcases List.mem_cons.mp hq' with rfl | hq'
      · exact Ne.symm (Nat.ne_of_lt l5.2.2.2.2.1)
      exact Ne.symm (Nat.ne_of_lt (ktn_ltOf l5.2.2.2.2.2 q' (List.mem_append_right _ hq')))
    intro A' h' tk' F6 N6 d6 can6
    clear N5 F5
    k_steps
    refine Stop.mk ?_
    refine ⟨_, _, _, A' ++ R9, rfl, by assumption, nSub N6 ?_, ?_, ⟨List.mem_append_right _ hr9, trivial⟩, A', _, _, _, map3, rfl, fun q hq q' hq' => d6 q hq q' (.tail _ (.tail _ hq')), fun q hq => ⟨d6 q hq _ (.head _), d6 q hq _ (.tail _ (.head _))⟩, can6⟩
    · intro p hp
      simp only [List.mem_append, List.mem_cons, List.not_mem_nil, or_false] at hp ⊢
      rcases hp with (h | h) | h | h <;> simp only [h, true_or, or_true]
    · intro p hp q hq
      have hRI : ∀ p ∈ R9, p.1 ≠ I + 1 ∧ p.1 ≠ I := fun p hp => ⟨Nat.ne_of_lt (Nat.lt_succ_of_lt (hI p (List.mem_append_right _ hp))), Nat.ne_of_lt (hI p (List.mem_append_right _ hp))⟩
      have hpq : p.1 ≠ I + 1 ∧ p.1 ≠ I := by
        rcases List.mem_append.mp hp with hp | hp
        · exact ⟨d6 p hp _ (.head _), d6 p hp _ (.tail _ (.head _))⟩
        · exact hRI p hp
      rcases List.mem_cons.mp hq with rfl | hq
      · exact hpq.1
      · rw [List.mem_singleton.mp hq]; exact hpq.2
  · rintro m' n' h tk ⟨A, v1, v2, v3, rfl, rfl, hd, hdI, hcan⟩ F1 N1
    rw [enumItems_length, len9] at hcan
    have N2 : News _ s₁.heap.objs.size _ (A ++ R9) := N1
    have F2 : Fr _ s₁.heap.objs.size _ _ := F1
    clear N1 F1 N6 F8
    subst eM
    k_steps
    refine Stop.mk ?_
    refine' right_ok (Wd := Wd) (Ht := Ht) ?zC ?zK ?z1 ?z2 ?z3 ?z4 ?zh ?zs ?zh1 ?zh2 ?zd ?zds ?y1 ?y2 ?y3 ?y4 ?y5 ?y6 ?x1 ?x2 ?x3 ?x4 ?_
    case zC => walk_at "mine cx"
    case zK => exact hcan.mono (by intro p hp; simp only [List.mem_cons, List.mem_append, hp, true_or, or_true])
    case z1 => omega
    case z2 => omega
    case z3 => omega
    case z4 => omega
    case zh => k_mem
    case zs => k_mem
    case zh1 => k_mem
    case zh2 => k_mem
    case zd => k_mem
    case zds =>
      intro i v hv
      rcases three_get hv with ev | ev | ev
      · exact ⟨_, _, _, _, _, ev, by k_mem, by decide, by decide⟩
      · exact ⟨_, _, _, _, _, ev, by k_mem, by decide, by decide⟩
      · exact ⟨_, _, _, _, _, ev, by k_mem, by decide, by decide⟩
    case y1 => decide
    case y2 => decide
    case y3 => decide
    case y4 => decide
    case y5 => decide
    case y6 => decide
    case x1 => decide
    case x2 => decide
    case x3 => decide
    case x4 => decide
    intro h7 tk7 F7 N7
    k_steps
    refine Stop.mk ?_
    (rename News _ _ _ _ => N9)
    (rename Fr _ _ _ _ => F9)
    have N8 := nSub N9 (n' := [(s₁.heap.objs.size + 1, _)]) (fun p hp => by
      have := hB p hp
      simp only [List.mem_cons, List.mem_append, this, or_true])
    clear N9 hcan can9 hB it8 hr9 offR hd hdI hI len9
    (rename CellsAre _ _ _ => X0)
    obtain ⟨oc0, ec0, d0⟩ := CellsAre.one X0
    rw [ec0] at N8
    (rename Heap.IsList _ _ _ => hL)
    (rename IntsAre _ _ => hI)
    obtain ⟨sc, vs, ns, rfl, rfl, rfl⟩ := nameScript hL hI
    refine For_turns F9 ?_
    k_steps
    refine Stop.mk ?_
    (rename IsRange _ _ _ _ _ _ _ _ => R9)
    (rename News _ _ _ _ => N9)
    (rename Fr _ _ _ _ => F9)
    obtain ⟨bb, eb⟩ := nameR R9
    rw [← eb] at R9
    have hbb : 1 ≤ bb ∧ bb ≤ 2 := by
      rw [eb]
      constructor <;> (repeat' split) <;> omega
    refine iter_rangeTurns (n := bb.toNat) rfl R9 (small_one (by omega) (by omega) (by omega) (by omega)) (by rw [rangeSize_nat]; omega) F9 N9 fun I hI => ?_
    refine items_inv (fun i m' n' => ∃ (M : Str → Option Value) (oc : Obj), m' = (fun y => if y = Str.ofString "script" then some (.ref sc) else M y) ∧ n' = [(s₁.heap.objs.size + 1, oc)] ∧ ∃ v, oc.data = Data.cell v) ?_ ?_ _ 0 _ _ List.drop_zero (Nat.zero_le _) ⟨_, _, pull (Str.ofString "script") (.ref sc) (by rfl), rfl, _, d0⟩
    · rintro i a v m' n' h tk hx ha ⟨M, oc, rfl, rfl, cv, hoc⟩ F1
      refine AllObj.cons fun ol hol => AllObj.nil fun N1 => ?_
      have hi := (List.getElem?_eq_some_iff.mp hx).1
      rw [List.length_map, List.length_range] at hi
      obtain ⟨t, rfl⟩ : ∃ t, v = .int (0 + (i : Int)) t := by
        have e : a = Itm.tok fun t => .int (0 + (i : Int)) t := by
          rw [List.getElem?_map, List.getElem?_range hi] at hx
          exact (Option.some.inj hx).symm
        subst e
        exact ha
      have hk2 : (0 : Int) ≤ 0 + (i : Int) ∧ 0 + (i : Int) < 2 := by omega
      have hIn : @LT.lt Nat _ (s₁.heap.objs.size + 1) I := hI _ (.head _)
      have N2 : News _ s₁.heap.objs.size _ [(I, ol), (s₁.heap.objs.size + 1, oc)] := N1
      have F2 : Fr _ s₁.heap.objs.size _ _ := F1
      clear N1 F1 N9 F9 ha hx R9
      k_steps
      refine Stop.mk ?_
      (rename News _ _ _ _ => N9)
      (rename SrcOk _ _ => ok9)
      (rename Obj.data _ = Data.cell _ => d9)
      obtain ⟨r9, rfl⟩ := name1 N9
      obtain ⟨o8, rfl⟩ := name3 N9
      obtain ⟨a8, b8, ta8, tb8, k8, rfl, rfl, rfl, rfl, rfl⟩ := nameSrc N9
      (rename _ < r9 ∧ _ => hl9)
      refine' picture0 (a := a8) (b := b8) (ta := ta8) (tb := tb8) (k := k8) (rest := [(I, ol), (s₁.heap.objs.size + 1, o8)]) ?zC ?zoff ok9 ?_
      case zoff =>
        intro p hp
        simp only [List.mem_cons, List.not_mem_nil, or_false] at hp
        rcases hp with rfl | rfl
        · exact Nat.ne_of_lt hl9.1
        · exact Nat.ne_of_lt hl9.2
      case zC => walk_at "mine cx"
      intro c A Wd2 Ht2 left2 top2 a' b' ta' tb' k' h' tk' w1 w2 w3 w4 ok8 F8 N8 dis8 can8
      have hAr : ∀ p ∈ A, p.1 ≠ r9 := fun p hp => dis8 p hp _ (.head _)
      have hAc : ∀ p ∈ A, p.1 ≠ s₁.heap.objs.size + 1 := fun p hp => dis8 p hp _ (.tail _ (.tail _ (.head _)))
      have hAI : ∀ p ∈ A, p.1 ≠ I := fun p hp => dis8 p hp _ (.tail _ (.head _))
      clear N9
      k_steps
      refine Stop.mk ?_
      (rename News _ _ _ _ => N9)
      (rename Fr _ _ _ _ => F9)
      (rename IsRange _ _ _ _ _ _ _ _ => R9)
      have N7 := nSub N9 (n' := (r9, src a' b' ta' tb' k') :: (s₁.heap.objs.size + 1, o8) :: (I, ol) :: A) (fun p hp => by
        simp only [List.mem_cons, List.mem_append, List.not_mem_nil, or_false] at hp ⊢
        rcases hp with h | h | h | h <;> simp only [h, true_or, or_true])
      refine LCg.CompSrc.range (n := 6) rfl F9 N7 R9 (small_one (by decide) (by decide) (by decide) (by decide)) (by rw [rangeSize_nat]; rfl) (by rw [PySem.sizeLine_eq]; decide) fun g => ?_
      refine comp_inv (fun i ys nw => ∃ a b ta tb k, SrcOk a b ∧ nw = (r9, src a b ta tb k) :: (s₁.heap.objs.size + 1, o8) :: (I, ol) :: A ∧ ys.length = i ∧ ∀ (j : Nat) v, ys[j]? = some v → ∃ x t, v = .int x t ∧ x.natAbs ≤ 4) ?_ ?_ _ 0 [] _ (Nat.zero_add _) ⟨_, _, _, _, _, ok8, rfl, rfl, fun j v h => by simp at h⟩
      · rintro i2 ys nw v I2 oI C oC D m₂ h tk E' hi2 ⟨a, b, ta, tb, k, ok, rfl, rfl, hit⟩ hP hC hx F1 N1 off ne
        obtain ⟨⟨q1, q2, q3⟩, -⟩ := id off
        k_steps
        refine Stop.mk ?_
        (rename News _ _ _ _ => N5)
        (rename SrcOk _ _ => ok5)
        exact LCg.CompEnd.intro (by assumption) N5 ((r9, src _ _ _ _ _) :: (s₁.heap.objs.size + 1, o8) :: (I, ol) :: A) (fun p hp => hp) off trivial ⟨_, _, _, _, _, ok5, rfl, by simp, items_snoc hit ⟨_, _, rfl, by omega⟩⟩
      · rintro ys nw ⟨a, b, ta, tb, k, ok, rfl, hlen, hit⟩ D h' tk' F' N' off'
        obtain ⟨q1, -⟩ := id off'
        obtain ⟨y0, y1, y2, y3, y4, y5, rfl⟩ := list6 (ys := ys) hlen
        obtain ⟨e0, b0, rfl, m0⟩ := hit 0 _ rfl
        obtain ⟨e1, b1, rfl, m1⟩ := hit 1 _ rfl
        obtain ⟨e2, b2, rfl, m2⟩ := hit 2 _ rfl
        obtain ⟨e3, b3, rfl, m3⟩ := hit 3 _ rfl
        obtain ⟨e4, b4, rfl, m4⟩ := hit 4 _ rfl
        obtain ⟨e5, b5, rfl, m5⟩ := hit 5 _ rfl
        clear hit N9 F9 R9 N7 off'
        k_steps
        refine Stop.mk ?_
        (rename News _ _ _ _ => N9)
        (rename Fr _ _ _ _ => F9)
        (rename IsRange _ _ _ _ _ _ _ _ => R9)
        (rename SrcOk _ _ => ok7)
        have hl1 := hl9.1
        obtain ⟨sl, z1, z2, ks, B9, N7, hB9, hsl, hz2, hz1, hhl, hI9, hA9⟩ := pack N9 (by omega) (by omega) (by omega) (by omega) (by omega) hAr
        have hcr : @LT.lt Nat _ (s₁.heap.objs.size + 1) r9 := hl9.2
        refine LCg.CompSrc.range (n := 10) rfl F9 N7 R9 (small_one (by decide) (by decide) (by decide) (by decide)) (by rw [rangeSize_nat]; rfl) (by rw [PySem.sizeLine_eq]; decide) fun g => ?_
        refine comp_inv (DotJ r9 (s₁.heap.objs.size + 1, o8) B9) ?_ ?_ _ 0 [] _ (Nat.zero_add _) ⟨[], _, _, _, _, _, ok7, rfl, rfl, hB9, fun j v h => by simp at h⟩
        · rintro i2 ys nw v I2 oI C oC D2 m₂ h tk E' hi2 ⟨added, a, b, ta, tb, k, ok, rfl, hlen2, hAB, hit⟩ hP hC hx F1 N1 off ne
          obtain ⟨⟨y1, y2, y3⟩, y4, y5⟩ := id off
          clear N9 F9 R9 N7
          k_steps
          refine Stop.mk ?_
          (rename News _ _ _ _ => N5)
          (rename SrcOk _ _ => ok5)
          (rename _ < _ ∧ _ < _ ∧ _ < _ ∧ _ < _ ∧ _ < _ ∧ AllLt _ _ => l5)
          exact dotEnd (by assumption) N5 off ⟨l5.1, l5.2.1, l5.2.2.1, l5.2.2.2.1⟩ ok5 hlen2 hAB hit (by omega) (by omega)
        · rintro ys nw ⟨added, a, b, ta, tb, k, ok6, rfl, hlen6, hAB, hit6⟩ D2 h' tk' F' N' off'
          obtain ⟨y1, -⟩ := id off'
          obtain ⟨hsl, rfl⟩ := hsl
          obtain ⟨hz1, rfl⟩ := hz1
          obtain ⟨hz2, rfl⟩ := hz2
          clear N9 F9 R9 N7 off'
          k_steps
          refine Stop.mk ?_
          have inB : ∀ p ∈ B9, p ∈ (D2, LCg.lst ys) :: (r9, src a b ta tb k) :: (s₁.heap.objs.size + 1, o8) :: (added ++ B9) := fun p hp => .tail _ (.tail _ (.tail _ (List.mem_append_right _ hp)))
          have inD : ∀ p ∈ added, p ∈ (D2, LCg.lst ys) :: (r9, src a b ta tb k) :: (s₁.heap.objs.size + 1, o8) :: (added ++ B9) := fun p hp => .tail _ (.tail _ (.tail _ (List.mem_append_left _ hp)))
          refine' right_ok (Wd := Wd2) (Ht := Ht2) (left := left2) (top := top2) (news := (D2, LCg.lst ys) :: (r9, src a b ta tb k) :: (s₁.heap.objs.size + 1, o8) :: (added ++ B9)) ?zC ?zK ?z1 ?z2 ?z3 ?z4 (inB _ hhl) (inB _ hsl) (inB _ hz1) (inB _ hz2) ?zd ?zds m0 m1 m2 m3 m4 m5 ?x1 ?x2 ?x3 ?x4 ?_
          case zC => walk_at "mine cx"
          case zK => exact can8.mono (fun p hp => inB p (hA9 p hp))
          case z1 => exact w1
          case z2 => exact w2
          case z3 => exact w3
          case z4 => exact w4
          case zd => exact .head _
          case zds =>
            intro i v hv
            obtain ⟨r, x, y, t, u, g1, g2, g3, g4⟩ := hit6 i v hv
            exact ⟨r, x, y, t, u, g1, inD _ g2, g3, g4⟩
          case x1 => omega
          case x2 => omega
          case x3 => omega
          case x4 => omega
          intro h7 tk7 F7 N7
          clear N' F'
          k_steps
          refine Stop.mk ?_
          (rename News _ _ _ _ => N5)
          (rename SrcOk _ _ => ok5)
          (rename _ < (99 : Int) => hb99)
          (rename _ < (6 : Int) => hb6)
          (rename (_ : Value) ∈ (_ : List Value) => m9)
          obtain ⟨dt, rfl⟩ := nameLt hb99
          obtain ⟨db, rfl⟩ := nameLt hb6
          (rename (0 : Int) ≤ db => hb0)
          (rename (0 : Int) ≤ dt => ht0)
          obtain ⟨z, p, q, tz, uz, rfl, N4, hp0, hp5, hq0, hq7⟩ := one_pick N5 m9
          obtain ⟨⟨s1, s2⟩, ⟨s3, s4⟩, ⟨s5, s6⟩, ⟨s7, s8⟩, sa9, sb9, sn9⟩ := one_nums ht0 hb99 hb0 hb6 hp0 hp5 hq0 hq7
          have s9 : -1000 < q ∧ q < 1000 := ⟨s7, s8⟩
          clear N5
          k_steps
          refine Stop.mk ?_
          (rename News _ _ _ _ => N3)
          rw [within_eq s5 hp0 hq0] at N3
          refine ne_same_N N3 (.tail _ (.head _)) (.head _) (.cons _ _ (.cons _ _ .nil)) (.cons _ _ (.cons _ _ .nil)) (by (try simp only [units_deeper]); decide) ?_
          k_steps
          refine Stop.mk ?_
          (rename News _ _ _ _ => N2)
          refine ⟨_, _, _, [(s₁.heap.objs.size + 1, o8)], rfl, by assumption, nSub N2 (turn_sub hI9), fun p hp q hq => by rw [List.mem_singleton.mp hp, List.mem_singleton.mp hq]; exact Nat.ne_of_lt hIn, trivial, _, o8, pull (Str.ofString "script") (.ref sc) (by rfl), rfl, _, d9⟩
    · rintro m' n' h tk ⟨M, oc, rfl, rfl, cv, hoc⟩ F1 N1
      have N2 : News _ s₁.heap.objs.size _ [(s₁.heap.objs.size + 1, oc)] := N1
      have F2 : Fr _ s₁.heap.objs.size _ _ := F1
      clear N1 F1 N9 F9 R9
      k_steps
end
end
end Mine
set_option maxRecDepth 100000 in
set_option maxHeartbeats 8000000 in
theorem PySem.Challenge.cw_pf0192_01_holds : PySem.Challenge.rw_pf0192_01.Holds :=
  Mine.law_t
