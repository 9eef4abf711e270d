import PyProof.Rows.All
import Wide.All
import OpenK.AllK
import Wide.FinOn
import PySem.Challenge.RW_xm0721_01
set_option Elab.async false
set_option rowWalk.seconds 0
set_option compiler.extract_closed false
set_option linter.unusedVariables false
set_option maxRecDepth 100000
set_option maxHeartbeats 8000000
namespace Mine
section
open PySem PySem.W PySem.Calls PyProof.Rows
namespace hd
def cell (l : List Stmt) (n : Nat) : Stmt := l.getD n (.Pass ⟨0, 0, 0, 0⟩)
def inner (s : Stmt) : List Stmt := match s with | .ClassDef _ _ _ b .. => b | .FunctionDef _ _ b .. => b | _ => []
def dargs (s : Stmt) : Arguments := match s with | .FunctionDef _ a .. => a | _ => default
def dscope (s : Stmt) : Scope := match s with | .FunctionDef _ _ _ _ _ _ c .. => c | _ => default

noncomputable def heap_39 : Params → Frag := (fun (a0 : Arguments) (_ : dargs (cell (PySem.Program.main PySem.Challenge.pw_xm0721_01).body 0) = a0) (b0 : List Stmt) (_ : inner (cell (PySem.Program.main PySem.Challenge.pw_xm0721_01).body 0) = b0) (c0 : Scope) (_ : dscope (cell (PySem.Program.main PySem.Challenge.pw_xm0721_01).body 0) = c0) (a1 : Arguments) (_ : dargs (cell (inner (cell (PySem.Program.main PySem.Challenge.pw_xm0721_01).body 2)) 0) = a1) (b1 : List Stmt) (_ : inner (cell (inner (cell (PySem.Program.main PySem.Challenge.pw_xm0721_01).body 2)) 0) = b1) (c1 : Scope) (_ : dscope (cell (inner (cell (PySem.Program.main PySem.Challenge.pw_xm0721_01).body 2)) 0) = c1) (a2 : Arguments) (_ : dargs (cell (PySem.Program.main PySem.Challenge.pw_xm0721_01).body 6) = a2) (b2 : List Stmt) (_ : inner (cell (PySem.Program.main PySem.Challenge.pw_xm0721_01).body 6) = b2) (c2 : Scope) (_ : dscope (cell (PySem.Program.main PySem.Challenge.pw_xm0721_01).body 6) = c2) (a3 : Arguments) (_ : dargs (cell (PySem.Program.main PySem.Challenge.pw_xm0721_01).body 7) = a3) (b3 : List Stmt) (_ : inner (cell (PySem.Program.main PySem.Challenge.pw_xm0721_01).body 7) = b3) (c3 : Scope) (_ : dscope (cell (PySem.Program.main PySem.Challenge.pw_xm0721_01).body 7) = c3) (a4 : Arguments) (_ : dargs (cell (PySem.Program.main PySem.Challenge.pw_xm0721_01).body 9) = a4) (b4 : List Stmt) (_ : inner (cell (PySem.Program.main PySem.Challenge.pw_xm0721_01).body 9) = b4) (c4 : Scope) (_ : dscope (cell (PySem.Program.main PySem.Challenge.pw_xm0721_01).body 9) = c4) (a5 : Arguments) (_ : dargs (cell (inner (cell (PySem.Program.main PySem.Challenge.pw_xm0721_01).body 11)) 0) = a5) (b5 : List Stmt) (_ : inner (cell (inner (cell (PySem.Program.main PySem.Challenge.pw_xm0721_01).body 11)) 0) = b5) (c5 : Scope) (_ : dscope (cell (inner (cell (PySem.Program.main PySem.Challenge.pw_xm0721_01).body 11)) 0) = c5) (a6 : Arguments) (_ : dargs (cell (inner (cell (PySem.Program.main PySem.Challenge.pw_xm0721_01).body 11)) 1) = a6) (b6 : List Stmt) (_ : inner (cell (inner (cell (PySem.Program.main PySem.Challenge.pw_xm0721_01).body 11)) 1) = b6) (c6 : Scope) (_ : dscope (cell (inner (cell (PySem.Program.main PySem.Challenge.pw_xm0721_01).body 11)) 1) = c6) (a7 : Arguments) (_ : dargs (cell (PySem.Program.main PySem.Challenge.pw_xm0721_01).body 12) = a7) (b7 : List Stmt) (_ : inner (cell (PySem.Program.main PySem.Challenge.pw_xm0721_01).body 12) = b7) (c7 : Scope) (_ : dscope (cell (PySem.Program.main PySem.Challenge.pw_xm0721_01).body 12) = c7) (a8 : Arguments) (_ : dargs (cell (inner (cell (PySem.Program.main PySem.Challenge.pw_xm0721_01).body 14)) 0) = a8) (b8 : List Stmt) (_ : inner (cell (inner (cell (PySem.Program.main PySem.Challenge.pw_xm0721_01).body 14)) 0) = b8) (c8 : Scope) (_ : dscope (cell (inner (cell (PySem.Program.main PySem.Challenge.pw_xm0721_01).body 14)) 0) = c8) (a9 : Arguments) (_ : dargs (cell (inner (cell (PySem.Program.main PySem.Challenge.pw_xm0721_01).body 14)) 1) = a9) (b9 : List Stmt) (_ : inner (cell (inner (cell (PySem.Program.main PySem.Challenge.pw_xm0721_01).body 14)) 1) = b9) (c9 : Scope) (_ : dscope (cell (inner (cell (PySem.Program.main PySem.Challenge.pw_xm0721_01).body 14)) 1) = c9) (a10 : Arguments) (_ : dargs (cell (inner (cell (PySem.Program.main PySem.Challenge.pw_xm0721_01).body 14)) 2) = a10) (b10 : List Stmt) (_ : inner (cell (inner (cell (PySem.Program.main PySem.Challenge.pw_xm0721_01).body 14)) 2) = b10) (c10 : Scope) (_ : dscope (cell (inner (cell (PySem.Program.main PySem.Challenge.pw_xm0721_01).body 14)) 2) = c10) (a11 : Arguments) (_ : dargs (cell (inner (cell (PySem.Program.main PySem.Challenge.pw_xm0721_01).body 14)) 3) = a11) (b11 : List Stmt) (_ : inner (cell (inner (cell (PySem.Program.main PySem.Challenge.pw_xm0721_01).body 14)) 3) = b11) (c11 : Scope) (_ : dscope (cell (inner (cell (PySem.Program.main PySem.Challenge.pw_xm0721_01).body 14)) 3) = c11) (a12 : Arguments) (_ : dargs (cell (inner (cell (PySem.Program.main PySem.Challenge.pw_xm0721_01).body 14)) 4) = a12) (b12 : List Stmt) (_ : inner (cell (inner (cell (PySem.Program.main PySem.Challenge.pw_xm0721_01).body 14)) 4) = b12) (c12 : Scope) (_ : dscope (cell (inner (cell (PySem.Program.main PySem.Challenge.pw_xm0721_01).body 14)) 4) = c12) (a13 : Arguments) (_ : dargs (cell (inner (cell (PySem.Program.main PySem.Challenge.pw_xm0721_01).body 16)) 0) = a13) (b13 : List Stmt) (_ : inner (cell (inner (cell (PySem.Program.main PySem.Challenge.pw_xm0721_01).body 16)) 0) = b13) (c13 : Scope) (_ : dscope (cell (inner (cell (PySem.Program.main PySem.Challenge.pw_xm0721_01).body 16)) 0) = c13) (a14 : Arguments) (_ : dargs (cell (inner (cell (PySem.Program.main PySem.Challenge.pw_xm0721_01).body 16)) 1) = a14) (b14 : List Stmt) (_ : inner (cell (inner (cell (PySem.Program.main PySem.Challenge.pw_xm0721_01).body 16)) 1) = b14) (c14 : Scope) (_ : dscope (cell (inner (cell (PySem.Program.main PySem.Challenge.pw_xm0721_01).body 16)) 1) = c14) (a15 : Arguments) (_ : dargs (cell (inner (cell (PySem.Program.main PySem.Challenge.pw_xm0721_01).body 16)) 2) = a15) (b15 : List Stmt) (_ : inner (cell (inner (cell (PySem.Program.main PySem.Challenge.pw_xm0721_01).body 16)) 2) = b15) (c15 : Scope) (_ : dscope (cell (inner (cell (PySem.Program.main PySem.Challenge.pw_xm0721_01).body 16)) 2) = c15) (a16 : Arguments) (_ : dargs (cell (inner (cell (PySem.Program.main PySem.Challenge.pw_xm0721_01).body 16)) 3) = a16) (b16 : List Stmt) (_ : inner (cell (inner (cell (PySem.Program.main PySem.Challenge.pw_xm0721_01).body 16)) 3) = b16) (c16 : Scope) (_ : dscope (cell (inner (cell (PySem.Program.main PySem.Challenge.pw_xm0721_01).body 16)) 3) = c16) (a17 : Arguments) (_ : dargs (cell (inner (cell (PySem.Program.main PySem.Challenge.pw_xm0721_01).body 16)) 4) = a17) (b17 : List Stmt) (_ : inner (cell (inner (cell (PySem.Program.main PySem.Challenge.pw_xm0721_01).body 16)) 4) = b17) (c17 : Scope) (_ : dscope (cell (inner (cell (PySem.Program.main PySem.Challenge.pw_xm0721_01).body 16)) 4) = c17) (a18 : Arguments) (_ : dargs (cell (inner (cell (PySem.Program.main PySem.Challenge.pw_xm0721_01).body 16)) 5) = a18) (b18 : List Stmt) (_ : inner (cell (inner (cell (PySem.Program.main PySem.Challenge.pw_xm0721_01).body 16)) 5) = b18) (c18 : Scope) (_ : dscope (cell (inner (cell (PySem.Program.main PySem.Challenge.pw_xm0721_01).body 16)) 5) = c18) (a19 : Arguments) (_ : dargs (cell (inner (cell (PySem.Program.main PySem.Challenge.pw_xm0721_01).body 16)) 6) = a19) (b19 : List Stmt) (_ : inner (cell (inner (cell (PySem.Program.main PySem.Challenge.pw_xm0721_01).body 16)) 6) = b19) (c19 : Scope) (_ : dscope (cell (inner (cell (PySem.Program.main PySem.Challenge.pw_xm0721_01).body 16)) 6) = c19) (a20 : Arguments) (_ : dargs (cell (inner (cell (PySem.Program.main PySem.Challenge.pw_xm0721_01).body 17)) 0) = a20) (b20 : List Stmt) (_ : inner (cell (inner (cell (PySem.Program.main PySem.Challenge.pw_xm0721_01).body 17)) 0) = b20) (c20 : Scope) (_ : dscope (cell (inner (cell (PySem.Program.main PySem.Challenge.pw_xm0721_01).body 17)) 0) = c20) (a21 : Arguments) (_ : dargs (cell (inner (cell (PySem.Program.main PySem.Challenge.pw_xm0721_01).body 17)) 1) = a21) (b21 : List Stmt) (_ : inner (cell (inner (cell (PySem.Program.main PySem.Challenge.pw_xm0721_01).body 17)) 1) = b21) (c21 : Scope) (_ : dscope (cell (inner (cell (PySem.Program.main PySem.Challenge.pw_xm0721_01).body 17)) 1) = c21) (a22 : Arguments) (_ : dargs (cell (inner (cell (PySem.Program.main PySem.Challenge.pw_xm0721_01).body 17)) 2) = a22) (b22 : List Stmt) (_ : inner (cell (inner (cell (PySem.Program.main PySem.Challenge.pw_xm0721_01).body 17)) 2) = b22) (c22 : Scope) (_ : dscope (cell (inner (cell (PySem.Program.main PySem.Challenge.pw_xm0721_01).body 17)) 2) = c22) (a23 : Arguments) (_ : dargs (cell (inner (cell (PySem.Program.main PySem.Challenge.pw_xm0721_01).body 17)) 3) = a23) (b23 : List Stmt) (_ : inner (cell (inner (cell (PySem.Program.main PySem.Challenge.pw_xm0721_01).body 17)) 3) = b23) (c23 : Scope) (_ : dscope (cell (inner (cell (PySem.Program.main PySem.Challenge.pw_xm0721_01).body 17)) 3) = c23) (a24 : Arguments) (_ : dargs (cell (inner (cell (PySem.Program.main PySem.Challenge.pw_xm0721_01).body 17)) 4) = a24) (b24 : List Stmt) (_ : inner (cell (inner (cell (PySem.Program.main PySem.Challenge.pw_xm0721_01).body 17)) 4) = b24) (c24 : Scope) (_ : dscope (cell (inner (cell (PySem.Program.main PySem.Challenge.pw_xm0721_01).body 17)) 4) = c24) (a25 : Arguments) (_ : dargs (cell (PySem.Program.main PySem.Challenge.pw_xm0721_01).body 19) = a25) (b25 : List Stmt) (_ : inner (cell (PySem.Program.main PySem.Challenge.pw_xm0721_01).body 19) = b25) (c25 : Scope) (_ : dscope (cell (PySem.Program.main PySem.Challenge.pw_xm0721_01).body 19) = c25) (a26 : Arguments) (_ : dargs (cell (PySem.Program.main PySem.Challenge.pw_xm0721_01).body 20) = a26) (b26 : List Stmt) (_ : inner (cell (PySem.Program.main PySem.Challenge.pw_xm0721_01).body 20) = b26) (c26 : Scope) (_ : dscope (cell (PySem.Program.main PySem.Challenge.pw_xm0721_01).body 20) = c26) (a27 : Arguments) (_ : dargs (cell (PySem.Program.main PySem.Challenge.pw_xm0721_01).body 21) = a27) (b27 : List Stmt) (_ : inner (cell (PySem.Program.main PySem.Challenge.pw_xm0721_01).body 21) = b27) (c27 : Scope) (_ : dscope (cell (PySem.Program.main PySem.Challenge.pw_xm0721_01).body 21) = c27) (a28 : Arguments) (_ : dargs (cell (PySem.Program.main PySem.Challenge.pw_xm0721_01).body 22) = a28) (b28 : List Stmt) (_ : inner (cell (PySem.Program.main PySem.Challenge.pw_xm0721_01).body 22) = b28) (c28 : Scope) (_ : dscope (cell (PySem.Program.main PySem.Challenge.pw_xm0721_01).body 22) = c28) (a29 : Arguments) (_ : dargs (cell (PySem.Program.main PySem.Challenge.pw_xm0721_01).body 23) = a29) (b29 : List Stmt) (_ : inner (cell (PySem.Program.main PySem.Challenge.pw_xm0721_01).body 23) = b29) (c29 : Scope) (_ : dscope (cell (PySem.Program.main PySem.Challenge.pw_xm0721_01).body 23) = c29) (a30 : Arguments) (_ : dargs (cell (PySem.Program.main PySem.Challenge.pw_xm0721_01).body 24) = a30) (b30 : List Stmt) (_ : inner (cell (PySem.Program.main PySem.Challenge.pw_xm0721_01).body 24) = b30) (c30 : Scope) (_ : dscope (cell (PySem.Program.main PySem.Challenge.pw_xm0721_01).body 24) = c30) (a31 : Arguments) (_ : dargs (cell (PySem.Program.main PySem.Challenge.pw_xm0721_01).body 25) = a31) (b31 : List Stmt) (_ : inner (cell (PySem.Program.main PySem.Challenge.pw_xm0721_01).body 25) = b31) (c31 : Scope) (_ : dscope (cell (PySem.Program.main PySem.Challenge.pw_xm0721_01).body 25) = c31) (a32 : Arguments) (_ : dargs (cell (PySem.Program.main PySem.Challenge.pw_xm0721_01).body 26) = a32) (b32 : List Stmt) (_ : inner (cell (PySem.Program.main PySem.Challenge.pw_xm0721_01).body 26) = b32) (c32 : Scope) (_ : dscope (cell (PySem.Program.main PySem.Challenge.pw_xm0721_01).body 26) = c32) => (fun P : Params => 
  ((nat_lit 2), (PySem.Obj.mk PySem.Value.none Option.none (PySem.Data.dict (List.toArray [(PySem.DictEntry.mk (PySem.PyData.keyHash P (PySem.Str.ofString "type.__subclasses__.Exception.0")) (PySem.Value.str (PySem.Str.ofString "type.__subclasses__.Exception.0") 221) (PySem.Value.int 38 0)), (PySem.DictEntry.mk (PySem.PyData.keyHash P (PySem.Str.ofString "type.__subclasses__.Exception.n")) (PySem.Value.str (PySem.Str.ofString "type.__subclasses__.Exception.n") 222) (PySem.Value.int 1 0))]) 2) (List.toArray []))) ::
  ((nat_lit 3), (PySem.Obj.mk (PySem.Value.type "dict") Option.none (PySem.Data.dict (List.toArray [(PySem.DictEntry.mk (PySem.PyData.keyHash P (PySem.Str.ofString "__name__")) (PySem.Value.str (PySem.Str.ofString "__name__") 165) (PySem.Value.str (PySem.Str.ofString "law_xm0721_01") 562)), (PySem.DictEntry.mk (PySem.PyData.keyHash P (PySem.Str.ofString "__doc__")) (PySem.Value.str (PySem.Str.ofString "__doc__") 166) PySem.Value.none), (PySem.DictEntry.mk (PySem.PyData.keyHash P (PySem.Str.ofString "__package__")) (PySem.Value.str (PySem.Str.ofString "__package__") 167) PySem.Value.none), (PySem.DictEntry.mk (PySem.PyData.keyHash P (PySem.Str.ofString "__loader__")) (PySem.Value.str (PySem.Str.ofString "__loader__") 168) (PySem.Value.builtin "__main__.__loader__#opaque")), (PySem.DictEntry.mk (PySem.PyData.keyHash P (PySem.Str.ofString "__spec__")) (PySem.Value.str (PySem.Str.ofString "__spec__") 169) PySem.Value.none), (PySem.DictEntry.mk (PySem.PyData.keyHash P (PySem.Str.ofString "__annotations__")) (PySem.Value.str (PySem.Str.ofString "__annotations__") 170) (PySem.Value.ref 6)), (PySem.DictEntry.mk (PySem.PyData.keyHash P (PySem.Str.ofString "__builtins__")) (PySem.Value.str (PySem.Str.ofString "__builtins__") 171) (PySem.Value.ref 4)), (PySem.DictEntry.mk (PySem.PyData.keyHash P (PySem.Str.ofString "__file__")) (PySem.Value.str (PySem.Str.ofString "__file__") 173) (PySem.Value.str (PySem.Str.ofString "/claim/cut.py") 172)), (PySem.DictEntry.mk (PySem.PyData.keyHash P (PySem.Str.ofString "__cached__")) (PySem.Value.str (PySem.Str.ofString "__cached__") 174) PySem.Value.none), (PySem.DictEntry.mk (PySem.PyData.keyHash P (PySem.Str.ofString "_wall")) (PySem.Value.str (PySem.Str.ofString "_wall") 193) (PySem.Value.ref 21)), (PySem.DictEntry.mk (PySem.PyData.keyHash P (PySem.Str.ofString "MillError")) (PySem.Value.str (PySem.Str.ofString "MillError") 224) (PySem.Value.ref 38)), (PySem.DictEntry.mk (PySem.PyData.keyHash P (PySem.Str.ofString "HintFault")) (PySem.Value.str (PySem.Str.ofString "HintFault") 240) (PySem.Value.ref 51)), (PySem.DictEntry.mk (PySem.PyData.keyHash P (PySem.Str.ofString "ONE14")) (PySem.Value.str (PySem.Str.ofString "ONE14") 244) (PySem.Value.int 16384 243)), (PySem.DictEntry.mk (PySem.PyData.keyHash P (PySem.Str.ofString "muldiv")) (PySem.Value.str (PySem.Str.ofString "muldiv") 254) (PySem.Value.ref 60)), (PySem.DictEntry.mk (PySem.PyData.keyHash P (PySem.Str.ofString "wrap32")) (PySem.Value.str (PySem.Str.ofString "wrap32") 261) (PySem.Value.ref 67)), (PySem.DictEntry.mk (PySem.PyData.keyHash P (PySem.Str.ofString "do_distance")) (PySem.Value.str (PySem.Str.ofString "do_distance") 273) (PySem.Value.ref 74)), (PySem.DictEntry.mk (PySem.PyData.keyHash P (PySem.Str.ofString "Rounding")) (PySem.Value.str (PySem.Str.ofString "Rounding") 315) (PySem.Value.ref 98)), (PySem.DictEntry.mk (PySem.PyData.keyHash P (PySem.Str.ofString "named")) (PySem.Value.str (PySem.Str.ofString "named") 326) (PySem.Value.ref 109)), (PySem.DictEntry.mk (PySem.PyData.keyHash P (PySem.Str.ofString "GraphicsState")) (PySem.Value.str (PySem.Str.ofString "GraphicsState") 407) (PySem.Value.ref 154)), (PySem.DictEntry.mk (PySem.PyData.keyHash P (PySem.Str.ofString "HintStack")) (PySem.Value.str (PySem.Str.ofString "HintStack") 483) (PySem.Value.ref 217)), (PySem.DictEntry.mk (PySem.PyData.keyHash P (PySem.Str.ofString "HintWork")) (PySem.Value.str (PySem.Str.ofString "HintWork") 561) (PySem.Value.ref 268)), (PySem.DictEntry.mk (PySem.PyData.keyHash P (PySem.Str.ofString "_law_pool")) (PySem.Value.str (PySem.Str.ofString "_law_pool") 572) (PySem.Value.ref 279)), (PySem.DictEntry.mk (PySem.PyData.keyHash P (PySem.Str.ofString "_law_take")) (PySem.Value.str (PySem.Str.ofString "_law_take") 581) (PySem.Value.ref 286)), (PySem.DictEntry.mk (PySem.PyData.keyHash P (PySem.Str.ofString "_law_one")) (PySem.Value.str (PySem.Str.ofString "_law_one") 589) (PySem.Value.ref 293)), (PySem.DictEntry.mk (PySem.PyData.keyHash P (PySem.Str.ofString "_law_is_near")) (PySem.Value.str (PySem.Str.ofString "_law_is_near") 599) (PySem.Value.ref 300)), (PySem.DictEntry.mk (PySem.PyData.keyHash P (PySem.Str.ofString "_law_place")) (PySem.Value.str (PySem.Str.ofString "_law_place") 607) (PySem.Value.ref 307)), (PySem.DictEntry.mk (PySem.PyData.keyHash P (PySem.Str.ofString "_law_deed_right")) (PySem.Value.str (PySem.Str.ofString "_law_deed_right") 622) (PySem.Value.ref 314)), (PySem.DictEntry.mk (PySem.PyData.keyHash P (PySem.Str.ofString "_law_is_refused")) (PySem.Value.str (PySem.Str.ofString "_law_is_refused") 630) (PySem.Value.ref 321)), (PySem.DictEntry.mk (PySem.PyData.keyHash P (PySem.Str.ofString "law")) (PySem.Value.str (PySem.Str.ofString "law") 642) (PySem.Value.ref 328))]) 29) (List.toArray []))) ::
  ((nat_lit 15), (PySem.Obj.mk (PySem.Value.type "tuple") Option.none (PySem.Data.seq (List.toArray []) 0) (List.toArray []))) ::
  ((nat_lit 17), (PySem.Obj.mk (PySem.Value.type "tuple") Option.none (PySem.Data.seq (List.toArray [(PySem.Value.str (PySem.Str.ofString "k") 190)]) 0) (List.toArray []))) ::
  ((nat_lit 18), (PySem.Obj.mk (PySem.Value.type "tuple") Option.none (PySem.Data.seq (List.toArray []) 0) (List.toArray []))) ::
  ((nat_lit 20), (PySem.Obj.mk (PySem.Value.type "code") Option.none (PySem.Data.fields (List.toArray [(PySem.Value.str (PySem.Str.ofString "_wall") 187), (PySem.Value.str (PySem.Str.ofString "_wall") 188), (PySem.Value.str (PySem.Str.ofString "/claim/cut.py") 189), (PySem.Value.int 1 0), (PySem.Value.int 1 0), (PySem.Value.int 0 0), (PySem.Value.int 0 0), (PySem.Value.int 3 0), (PySem.Value.ref 15), (PySem.Value.bool Bool.true), (PySem.Value.int 181 0), (PySem.Value.ref 16), PySem.Value.none, (PySem.Value.ref 17), (PySem.Value.ref 18), (PySem.Value.ref 19), (PySem.Value.int 191 0), (PySem.Value.int 1 0), (PySem.Value.str (PySem.Str.ofString "/claim/cut.py") 192)])) (List.toArray []))) ::
  ((nat_lit 21), (PySem.Obj.mk (PySem.Value.type "function") Option.none (PySem.Data.func (PySem.FuncData.mk (PySem.Str.ofString "_wall") (PySem.Str.ofString "_wall") a0 (PySem.FuncBody.stmts b0) c0 3 [] PySem.Value.none PySem.Value.none PySem.Value.none (PySem.Value.str (PySem.Str.ofString "__main__") 164) Option.none (PySem.Value.ref 20) PySem.Value.none 0)) (List.toArray []))) ::
  ((nat_lit 22), (PySem.Obj.mk (PySem.Value.type "tuple") Option.none (PySem.Data.seq (List.toArray [(PySem.Value.type "Exception")]) 0) (List.toArray []))) ::
  ((nat_lit 29), (PySem.Obj.mk (PySem.Value.type "tuple") Option.none (PySem.Data.seq (List.toArray []) 0) (List.toArray []))) ::
  ((nat_lit 31), (PySem.Obj.mk (PySem.Value.type "tuple") Option.none (PySem.Data.seq (List.toArray [(PySem.Value.str (PySem.Str.ofString "self") 211), (PySem.Value.str (PySem.Str.ofString "message") 212)]) 0) (List.toArray []))) ::
  ((nat_lit 32), (PySem.Obj.mk (PySem.Value.type "tuple") Option.none (PySem.Data.seq (List.toArray []) 0) (List.toArray []))) ::
  ((nat_lit 34), (PySem.Obj.mk (PySem.Value.type "code") Option.none (PySem.Data.fields (List.toArray [(PySem.Value.str (PySem.Str.ofString "__init__") 208), (PySem.Value.str (PySem.Str.ofString "MillError.__init__") 209), (PySem.Value.str (PySem.Str.ofString "/claim/cut.py") 210), (PySem.Value.int 7 0), (PySem.Value.int 2 0), (PySem.Value.int 0 0), (PySem.Value.int 0 0), (PySem.Value.int 3 0), (PySem.Value.ref 29), (PySem.Value.bool Bool.true), (PySem.Value.int 181 0), (PySem.Value.ref 30), PySem.Value.none, (PySem.Value.ref 31), (PySem.Value.ref 32), (PySem.Value.ref 33), (PySem.Value.int 213 0), (PySem.Value.int 7 0), (PySem.Value.str (PySem.Str.ofString "/claim/cut.py") 214)])) (List.toArray []))) ::
  ((nat_lit 35), (PySem.Obj.mk (PySem.Value.type "function") Option.none (PySem.Data.func (PySem.FuncData.mk (PySem.Str.ofString "__init__") (PySem.Str.ofString "MillError.__init__") a1 (PySem.FuncBody.stmts b1) c1 3 [] PySem.Value.none PySem.Value.none PySem.Value.none (PySem.Value.str (PySem.Str.ofString "outlinemill.errors") 194) Option.none (PySem.Value.ref 34) PySem.Value.none 0)) (List.toArray []))) ::
  ((nat_lit 36), (PySem.Obj.mk (PySem.Value.type "tuple") Option.none (PySem.Data.seq (List.toArray [(PySem.Value.str (PySem.Str.ofString "message") 216)]) 0) (List.toArray []))) ::
  ((nat_lit 37), (PySem.Obj.mk (PySem.Value.type "dict") Option.none (PySem.Data.dict (List.toArray [(PySem.DictEntry.mk (PySem.PyData.keyHash P (PySem.Str.ofString "__module__")) (PySem.Value.str (PySem.Str.ofString "__module__") 203) (PySem.Value.str (PySem.Str.ofString "outlinemill.errors") 194)), (PySem.DictEntry.mk (PySem.PyData.keyHash P (PySem.Str.ofString "__firstlineno__")) (PySem.Value.str (PySem.Str.ofString "__firstlineno__") 207) (PySem.Value.int 5 206)), (PySem.DictEntry.mk (PySem.PyData.keyHash P (PySem.Str.ofString "__init__")) (PySem.Value.str (PySem.Str.ofString "__init__") 215) (PySem.Value.ref 35)), (PySem.DictEntry.mk (PySem.PyData.keyHash P (PySem.Str.ofString "__static_attributes__")) (PySem.Value.str (PySem.Str.ofString "__static_attributes__") 217) (PySem.Value.ref 36)), (PySem.DictEntry.mk (PySem.PyData.keyHash P (PySem.Str.ofString "__weakref__")) (PySem.Value.str (PySem.Str.ofString "__weakref__") 219) (PySem.Value.ref 39)), (PySem.DictEntry.mk (PySem.PyData.keyHash P (PySem.Str.ofString "__doc__")) (PySem.Value.str (PySem.Str.ofString "__doc__") 220) PySem.Value.none)]) 3) (List.toArray []))) ::
  ((nat_lit 38), (PySem.Obj.mk (PySem.Value.type "type") Option.none (PySem.Data.cls (PySem.ClassData.mk (PySem.Str.ofString "MillError") [(PySem.Value.type "Exception")] [(PySem.Value.ref 38), (PySem.Value.type "Exception"), (PySem.Value.type "BaseException"), (PySem.Value.type "object")] 37 (PySem.Str.ofString "MillError") Bool.true [] [(PySem.Value.ref 51)] Bool.false Option.none Bool.false)) (List.toArray [(Option.some (PySem.Value.ref 22)), Option.none, (Option.some (PySem.Value.str (PySem.Str.ofString "MillError") 196)), (Option.some (PySem.Value.str (PySem.Str.ofString "MillError") 204)), (Option.some (PySem.Value.builtin "Exception.__new__")), (Option.some (PySem.Value.bool Bool.true))]))) ::
  ((nat_lit 39), (PySem.Obj.mk (PySem.Value.type "getset_descriptor") Option.none (PySem.Data.fields (List.toArray [(PySem.Value.str (PySem.Str.ofString "__weakref__") 218), (PySem.Value.ref 38), (PySem.Value.builtin "ExceptionGroup.__weakref__"), PySem.Value.none])) (List.toArray []))) ::
  ((nat_lit 42), (PySem.Obj.mk (PySem.Value.type "tuple") Option.none (PySem.Data.seq (List.toArray [(PySem.Value.ref 38)]) 0) (List.toArray []))) ::
  ((nat_lit 49), (PySem.Obj.mk (PySem.Value.type "tuple") Option.none (PySem.Data.seq (List.toArray []) 0) (List.toArray []))) ::
  ((nat_lit 50), (PySem.Obj.mk (PySem.Value.type "dict") Option.none (PySem.Data.dict (List.toArray [(PySem.DictEntry.mk (PySem.PyData.keyHash P (PySem.Str.ofString "__module__")) (PySem.Value.str (PySem.Str.ofString "__module__") 232) (PySem.Value.str (PySem.Str.ofString "outlinemill.errors") 194)), (PySem.DictEntry.mk (PySem.PyData.keyHash P (PySem.Str.ofString "__firstlineno__")) (PySem.Value.str (PySem.Str.ofString "__firstlineno__") 236) (PySem.Value.int 9 235)), (PySem.DictEntry.mk (PySem.PyData.keyHash P (PySem.Str.ofString "__static_attributes__")) (PySem.Value.str (PySem.Str.ofString "__static_attributes__") 237) (PySem.Value.ref 49)), (PySem.DictEntry.mk (PySem.PyData.keyHash P (PySem.Str.ofString "__doc__")) (PySem.Value.str (PySem.Str.ofString "__doc__") 238) PySem.Value.none)]) 2) (List.toArray []))) ::
  ((nat_lit 51), (PySem.Obj.mk (PySem.Value.type "type") Option.none (PySem.Data.cls (PySem.ClassData.mk (PySem.Str.ofString "HintFault") [(PySem.Value.ref 38)] [(PySem.Value.ref 51), (PySem.Value.ref 38), (PySem.Value.type "Exception"), (PySem.Value.type "BaseException"), (PySem.Value.type "object")] 50 (PySem.Str.ofString "HintFault") Bool.true [] [] Bool.false Option.none Bool.false)) (List.toArray [(Option.some (PySem.Value.ref 42)), Option.none, (Option.some (PySem.Value.str (PySem.Str.ofString "HintFault") 225)), (Option.some (PySem.Value.str (PySem.Str.ofString "HintFault") 233)), (Option.some (PySem.Value.builtin "Exception.__new__")), (Option.some (PySem.Value.bool Bool.true))]))) ::
  ((nat_lit 54), (PySem.Obj.mk (PySem.Value.type "tuple") Option.none (PySem.Data.seq (List.toArray []) 0) (List.toArray []))) ::
  ((nat_lit 56), (PySem.Obj.mk (PySem.Value.type "tuple") Option.none (PySem.Data.seq (List.toArray [(PySem.Value.str (PySem.Str.ofString "a") 248), (PySem.Value.str (PySem.Str.ofString "b") 249), (PySem.Value.str (PySem.Str.ofString "c") 250), (PySem.Value.str (PySem.Str.ofString "top") 251)]) 0) (List.toArray []))) ::
  ((nat_lit 57), (PySem.Obj.mk (PySem.Value.type "tuple") Option.none (PySem.Data.seq (List.toArray []) 0) (List.toArray []))) ::
  ((nat_lit 59), (PySem.Obj.mk (PySem.Value.type "code") Option.none (PySem.Data.fields (List.toArray [(PySem.Value.str (PySem.Str.ofString "muldiv") 245), (PySem.Value.str (PySem.Str.ofString "muldiv") 246), (PySem.Value.str (PySem.Str.ofString "/claim/cut.py") 247), (PySem.Value.int 13 0), (PySem.Value.int 3 0), (PySem.Value.int 0 0), (PySem.Value.int 0 0), (PySem.Value.int 3 0), (PySem.Value.ref 54), (PySem.Value.bool Bool.true), (PySem.Value.int 181 0), (PySem.Value.ref 55), PySem.Value.none, (PySem.Value.ref 56), (PySem.Value.ref 57), (PySem.Value.ref 58), (PySem.Value.int 252 0), (PySem.Value.int 13 0), (PySem.Value.str (PySem.Str.ofString "/claim/cut.py") 253)])) (List.toArray []))) ::
  ((nat_lit 60), (PySem.Obj.mk (PySem.Value.type "function") Option.none (PySem.Data.func (PySem.FuncData.mk (PySem.Str.ofString "muldiv") (PySem.Str.ofString "muldiv") a2 (PySem.FuncBody.stmts b2) c2 3 [] PySem.Value.none PySem.Value.none PySem.Value.none (PySem.Value.str (PySem.Str.ofString "outlinemill.hint_numbers") 241) Option.none (PySem.Value.ref 59) PySem.Value.none 0)) (List.toArray []))) ::
  ((nat_lit 61), (PySem.Obj.mk (PySem.Value.type "tuple") Option.none (PySem.Data.seq (List.toArray []) 0) (List.toArray []))) ::
  ((nat_lit 63), (PySem.Obj.mk (PySem.Value.type "tuple") Option.none (PySem.Data.seq (List.toArray [(PySem.Value.str (PySem.Str.ofString "n") 258)]) 0) (List.toArray []))) ::
  ((nat_lit 64), (PySem.Obj.mk (PySem.Value.type "tuple") Option.none (PySem.Data.seq (List.toArray []) 0) (List.toArray []))) ::
  ((nat_lit 66), (PySem.Obj.mk (PySem.Value.type "code") Option.none (PySem.Data.fields (List.toArray [(PySem.Value.str (PySem.Str.ofString "wrap32") 255), (PySem.Value.str (PySem.Str.ofString "wrap32") 256), (PySem.Value.str (PySem.Str.ofString "/claim/cut.py") 257), (PySem.Value.int 20 0), (PySem.Value.int 1 0), (PySem.Value.int 0 0), (PySem.Value.int 0 0), (PySem.Value.int 3 0), (PySem.Value.ref 61), (PySem.Value.bool Bool.true), (PySem.Value.int 181 0), (PySem.Value.ref 62), PySem.Value.none, (PySem.Value.ref 63), (PySem.Value.ref 64), (PySem.Value.ref 65), (PySem.Value.int 259 0), (PySem.Value.int 20 0), (PySem.Value.str (PySem.Str.ofString "/claim/cut.py") 260)])) (List.toArray []))) ::
  ((nat_lit 67), (PySem.Obj.mk (PySem.Value.type "function") Option.none (PySem.Data.func (PySem.FuncData.mk (PySem.Str.ofString "wrap32") (PySem.Str.ofString "wrap32") a3 (PySem.FuncBody.stmts b3) c3 3 [] PySem.Value.none PySem.Value.none PySem.Value.none (PySem.Value.str (PySem.Str.ofString "outlinemill.hint_numbers") 241) Option.none (PySem.Value.ref 66) PySem.Value.none 0)) (List.toArray []))) ::
  ((nat_lit 68), (PySem.Obj.mk (PySem.Value.type "tuple") Option.none (PySem.Data.seq (List.toArray []) 0) (List.toArray []))) ::
  ((nat_lit 70), (PySem.Obj.mk (PySem.Value.type "tuple") Option.none (PySem.Data.seq (List.toArray [(PySem.Value.str (PySem.Str.ofString "work") 267), (PySem.Value.str (PySem.Str.ofString "code") 268), (PySem.Value.str (PySem.Str.ofString "number") 269), (PySem.Value.str (PySem.Str.ofString "state") 270)]) 0) (List.toArray []))) ::
  ((nat_lit 71), (PySem.Obj.mk (PySem.Value.type "tuple") Option.none (PySem.Data.seq (List.toArray []) 0) (List.toArray []))) ::
  ((nat_lit 73), (PySem.Obj.mk (PySem.Value.type "code") Option.none (PySem.Data.fields (List.toArray [(PySem.Value.str (PySem.Str.ofString "do_distance") 264), (PySem.Value.str (PySem.Str.ofString "do_distance") 265), (PySem.Value.str (PySem.Str.ofString "/claim/cut.py") 266), (PySem.Value.int 23 0), (PySem.Value.int 2 0), (PySem.Value.int 0 0), (PySem.Value.int 0 0), (PySem.Value.int 3 0), (PySem.Value.ref 68), (PySem.Value.bool Bool.true), (PySem.Value.int 181 0), (PySem.Value.ref 69), PySem.Value.none, (PySem.Value.ref 70), (PySem.Value.ref 71), (PySem.Value.ref 72), (PySem.Value.int 271 0), (PySem.Value.int 23 0), (PySem.Value.str (PySem.Str.ofString "/claim/cut.py") 272)])) (List.toArray []))) ::
  ((nat_lit 74), (PySem.Obj.mk (PySem.Value.type "function") Option.none (PySem.Data.func (PySem.FuncData.mk (PySem.Str.ofString "do_distance") (PySem.Str.ofString "do_distance") a4 (PySem.FuncBody.stmts b4) c4 3 [] PySem.Value.none PySem.Value.none PySem.Value.none (PySem.Value.str (PySem.Str.ofString "outlinemill.hint_vectors") 262) Option.none (PySem.Value.ref 73) PySem.Value.none 0)) (List.toArray []))) ::
  ((nat_lit 82), (PySem.Obj.mk (PySem.Value.type "tuple") Option.none (PySem.Data.seq (List.toArray []) 0) (List.toArray []))) ::
  ((nat_lit 84), (PySem.Obj.mk (PySem.Value.type "tuple") Option.none (PySem.Data.seq (List.toArray [(PySem.Value.str (PySem.Str.ofString "self") 291), (PySem.Value.str (PySem.Str.ofString "period") 292), (PySem.Value.str (PySem.Str.ofString "phase") 293), (PySem.Value.str (PySem.Str.ofString "threshold") 294)]) 0) (List.toArray []))) ::
  ((nat_lit 85), (PySem.Obj.mk (PySem.Value.type "tuple") Option.none (PySem.Data.seq (List.toArray []) 0) (List.toArray []))) ::
  ((nat_lit 87), (PySem.Obj.mk (PySem.Value.type "code") Option.none (PySem.Data.fields (List.toArray [(PySem.Value.str (PySem.Str.ofString "__init__") 288), (PySem.Value.str (PySem.Str.ofString "Rounding.__init__") 289), (PySem.Value.str (PySem.Str.ofString "/claim/cut.py") 290), (PySem.Value.int 42 0), (PySem.Value.int 4 0), (PySem.Value.int 0 0), (PySem.Value.int 0 0), (PySem.Value.int 3 0), (PySem.Value.ref 82), (PySem.Value.bool Bool.true), (PySem.Value.int 181 0), (PySem.Value.ref 83), PySem.Value.none, (PySem.Value.ref 84), (PySem.Value.ref 85), (PySem.Value.ref 86), (PySem.Value.int 295 0), (PySem.Value.int 42 0), (PySem.Value.str (PySem.Str.ofString "/claim/cut.py") 296)])) (List.toArray []))) ::
  ((nat_lit 88), (PySem.Obj.mk (PySem.Value.type "function") Option.none (PySem.Data.func (PySem.FuncData.mk (PySem.Str.ofString "__init__") (PySem.Str.ofString "Rounding.__init__") a5 (PySem.FuncBody.stmts b5) c5 3 [] PySem.Value.none PySem.Value.none PySem.Value.none (PySem.Value.str (PySem.Str.ofString "outlinemill.hint_rounds") 274) Option.none (PySem.Value.ref 87) PySem.Value.none 0)) (List.toArray []))) ::
  ((nat_lit 89), (PySem.Obj.mk (PySem.Value.type "tuple") Option.none (PySem.Data.seq (List.toArray []) 0) (List.toArray []))) ::
  ((nat_lit 91), (PySem.Obj.mk (PySem.Value.type "tuple") Option.none (PySem.Data.seq (List.toArray [(PySem.Value.str (PySem.Str.ofString "self") 301)]) 0) (List.toArray []))) ::
  ((nat_lit 92), (PySem.Obj.mk (PySem.Value.type "tuple") Option.none (PySem.Data.seq (List.toArray []) 0) (List.toArray []))) ::
  ((nat_lit 94), (PySem.Obj.mk (PySem.Value.type "code") Option.none (PySem.Data.fields (List.toArray [(PySem.Value.str (PySem.Str.ofString "row") 298), (PySem.Value.str (PySem.Str.ofString "Rounding.row") 299), (PySem.Value.str (PySem.Str.ofString "/claim/cut.py") 300), (PySem.Value.int 47 0), (PySem.Value.int 1 0), (PySem.Value.int 0 0), (PySem.Value.int 0 0), (PySem.Value.int 3 0), (PySem.Value.ref 89), (PySem.Value.bool Bool.true), (PySem.Value.int 181 0), (PySem.Value.ref 90), PySem.Value.none, (PySem.Value.ref 91), (PySem.Value.ref 92), (PySem.Value.ref 93), (PySem.Value.int 302 0), (PySem.Value.int 47 0), (PySem.Value.str (PySem.Str.ofString "/claim/cut.py") 303)])) (List.toArray []))) ::
  ((nat_lit 95), (PySem.Obj.mk (PySem.Value.type "function") Option.none (PySem.Data.func (PySem.FuncData.mk (PySem.Str.ofString "row") (PySem.Str.ofString "Rounding.row") a6 (PySem.FuncBody.stmts b6) c6 3 [] PySem.Value.none PySem.Value.none PySem.Value.none (PySem.Value.str (PySem.Str.ofString "outlinemill.hint_rounds") 274) Option.none (PySem.Value.ref 94) PySem.Value.none 0)) (List.toArray []))) ::
  ((nat_lit 96), (PySem.Obj.mk (PySem.Value.type "tuple") Option.none (PySem.Data.seq (List.toArray [(PySem.Value.str (PySem.Str.ofString "period") 305), (PySem.Value.str (PySem.Str.ofString "phase") 306), (PySem.Value.str (PySem.Str.ofString "threshold") 307)]) 0) (List.toArray []))) ::
  ((nat_lit 97), (PySem.Obj.mk (PySem.Value.type "dict") Option.none (PySem.Data.dict (List.toArray [(PySem.DictEntry.mk (PySem.PyData.keyHash P (PySem.Str.ofString "__module__")) (PySem.Value.str (PySem.Str.ofString "__module__") 283) (PySem.Value.str (PySem.Str.ofString "outlinemill.hint_rounds") 274)), (PySem.DictEntry.mk (PySem.PyData.keyHash P (PySem.Str.ofString "__firstlineno__")) (PySem.Value.str (PySem.Str.ofString "__firstlineno__") 287) (PySem.Value.int 40 286)), (PySem.DictEntry.mk (PySem.PyData.keyHash P (PySem.Str.ofString "__init__")) (PySem.Value.str (PySem.Str.ofString "__init__") 297) (PySem.Value.ref 88)), (PySem.DictEntry.mk (PySem.PyData.keyHash P (PySem.Str.ofString "row")) (PySem.Value.str (PySem.Str.ofString "row") 304) (PySem.Value.ref 95)), (PySem.DictEntry.mk (PySem.PyData.keyHash P (PySem.Str.ofString "__static_attributes__")) (PySem.Value.str (PySem.Str.ofString "__static_attributes__") 308) (PySem.Value.ref 96)), (PySem.DictEntry.mk (PySem.PyData.keyHash P (PySem.Str.ofString "__dict__")) (PySem.Value.str (PySem.Str.ofString "__dict__") 310) (PySem.Value.ref 99)), (PySem.DictEntry.mk (PySem.PyData.keyHash P (PySem.Str.ofString "__weakref__")) (PySem.Value.str (PySem.Str.ofString "__weakref__") 312) (PySem.Value.ref 100)), (PySem.DictEntry.mk (PySem.PyData.keyHash P (PySem.Str.ofString "__doc__")) (PySem.Value.str (PySem.Str.ofString "__doc__") 313) PySem.Value.none)]) 4) (List.toArray []))) ::
  ((nat_lit 98), (PySem.Obj.mk (PySem.Value.type "type") Option.none (PySem.Data.cls (PySem.ClassData.mk (PySem.Str.ofString "Rounding") [(PySem.Value.type "object")] [(PySem.Value.ref 98), (PySem.Value.type "object")] 97 (PySem.Str.ofString "Rounding") Bool.true [] [] Bool.false Option.none Bool.false)) (List.toArray [Option.none, Option.none, (Option.some (PySem.Value.str (PySem.Str.ofString "Rounding") 276)), (Option.some (PySem.Value.str (PySem.Str.ofString "Rounding") 284)), (Option.some (PySem.Value.builtin "object.__new__")), (Option.some (PySem.Value.bool Bool.true))]))) ::
  ((nat_lit 99), (PySem.Obj.mk (PySem.Value.type "getset_descriptor") Option.none (PySem.Data.fields (List.toArray [(PySem.Value.str (PySem.Str.ofString "__dict__") 309), (PySem.Value.ref 98), (PySem.Value.builtin "function.__dict__"), (PySem.Value.builtin "function.__dict__#set")])) (List.toArray []))) ::
  ((nat_lit 100), (PySem.Obj.mk (PySem.Value.type "getset_descriptor") Option.none (PySem.Data.fields (List.toArray [(PySem.Value.str (PySem.Str.ofString "__weakref__") 311), (PySem.Value.ref 98), (PySem.Value.builtin "ExceptionGroup.__weakref__"), PySem.Value.none])) (List.toArray []))) ::
  ((nat_lit 103), (PySem.Obj.mk (PySem.Value.type "tuple") Option.none (PySem.Data.seq (List.toArray []) 0) (List.toArray []))) ::
  ((nat_lit 105), (PySem.Obj.mk (PySem.Value.type "tuple") Option.none (PySem.Data.seq (List.toArray [(PySem.Value.str (PySem.Str.ofString "word") 319), (PySem.Value.str (PySem.Str.ofString "rows") 320), (PySem.Value.str (PySem.Str.ofString "period") 321), (PySem.Value.str (PySem.Str.ofString "phase") 322), (PySem.Value.str (PySem.Str.ofString "threshold") 323)]) 0) (List.toArray []))) ::
  ((nat_lit 106), (PySem.Obj.mk (PySem.Value.type "tuple") Option.none (PySem.Data.seq (List.toArray []) 0) (List.toArray []))) ::
  ((nat_lit 108), (PySem.Obj.mk (PySem.Value.type "code") Option.none (PySem.Data.fields (List.toArray [(PySem.Value.str (PySem.Str.ofString "named") 316), (PySem.Value.str (PySem.Str.ofString "named") 317), (PySem.Value.str (PySem.Str.ofString "/claim/cut.py") 318), (PySem.Value.int 49 0), (PySem.Value.int 1 0), (PySem.Value.int 0 0), (PySem.Value.int 0 0), (PySem.Value.int 3 0), (PySem.Value.ref 103), (PySem.Value.bool Bool.true), (PySem.Value.int 181 0), (PySem.Value.ref 104), PySem.Value.none, (PySem.Value.ref 105), (PySem.Value.ref 106), (PySem.Value.ref 107), (PySem.Value.int 324 0), (PySem.Value.int 49 0), (PySem.Value.str (PySem.Str.ofString "/claim/cut.py") 325)])) (List.toArray []))) ::
  ((nat_lit 109), (PySem.Obj.mk (PySem.Value.type "function") Option.none (PySem.Data.func (PySem.FuncData.mk (PySem.Str.ofString "named") (PySem.Str.ofString "named") a7 (PySem.FuncBody.stmts b7) c7 3 [] PySem.Value.none PySem.Value.none PySem.Value.none (PySem.Value.str (PySem.Str.ofString "outlinemill.hint_rounds") 274) Option.none (PySem.Value.ref 108) PySem.Value.none 0)) (List.toArray []))) ::
  ((nat_lit 117), (PySem.Obj.mk (PySem.Value.type "tuple") Option.none (PySem.Data.seq (List.toArray []) 0) (List.toArray []))) ::
  ((nat_lit 119), (PySem.Obj.mk (PySem.Value.type "tuple") Option.none (PySem.Data.seq (List.toArray [(PySem.Value.str (PySem.Str.ofString "self") 344)]) 0) (List.toArray []))) ::
  ((nat_lit 120), (PySem.Obj.mk (PySem.Value.type "tuple") Option.none (PySem.Data.seq (List.toArray []) 0) (List.toArray []))) ::
  ((nat_lit 122), (PySem.Obj.mk (PySem.Value.type "code") Option.none (PySem.Data.fields (List.toArray [(PySem.Value.str (PySem.Str.ofString "__init__") 341), (PySem.Value.str (PySem.Str.ofString "GraphicsState.__init__") 342), (PySem.Value.str (PySem.Str.ofString "/claim/cut.py") 343), (PySem.Value.int 58 0), (PySem.Value.int 1 0), (PySem.Value.int 0 0), (PySem.Value.int 0 0), (PySem.Value.int 3 0), (PySem.Value.ref 117), (PySem.Value.bool Bool.true), (PySem.Value.int 181 0), (PySem.Value.ref 118), PySem.Value.none, (PySem.Value.ref 119), (PySem.Value.ref 120), (PySem.Value.ref 121), (PySem.Value.int 345 0), (PySem.Value.int 58 0), (PySem.Value.str (PySem.Str.ofString "/claim/cut.py") 346)])) (List.toArray []))) ::
  ((nat_lit 123), (PySem.Obj.mk (PySem.Value.type "function") Option.none (PySem.Data.func (PySem.FuncData.mk (PySem.Str.ofString "__init__") (PySem.Str.ofString "GraphicsState.__init__") a8 (PySem.FuncBody.stmts b8) c8 3 [] PySem.Value.none PySem.Value.none PySem.Value.none (PySem.Value.str (PySem.Str.ofString "outlinemill.hint_state") 327) Option.none (PySem.Value.ref 122) PySem.Value.none 0)) (List.toArray []))) ::
  ((nat_lit 124), (PySem.Obj.mk (PySem.Value.type "tuple") Option.none (PySem.Data.seq (List.toArray []) 0) (List.toArray []))) ::
  ((nat_lit 126), (PySem.Obj.mk (PySem.Value.type "tuple") Option.none (PySem.Data.seq (List.toArray [(PySem.Value.str (PySem.Str.ofString "self") 351)]) 0) (List.toArray []))) ::
  ((nat_lit 127), (PySem.Obj.mk (PySem.Value.type "tuple") Option.none (PySem.Data.seq (List.toArray []) 0) (List.toArray []))) ::
  ((nat_lit 129), (PySem.Obj.mk (PySem.Value.type "code") Option.none (PySem.Data.fields (List.toArray [(PySem.Value.str (PySem.Str.ofString "free_dot") 348), (PySem.Value.str (PySem.Str.ofString "GraphicsState.free_dot") 349), (PySem.Value.str (PySem.Str.ofString "/claim/cut.py") 350), (PySem.Value.int 78 0), (PySem.Value.int 1 0), (PySem.Value.int 0 0), (PySem.Value.int 0 0), (PySem.Value.int 3 0), (PySem.Value.ref 124), (PySem.Value.bool Bool.true), (PySem.Value.int 181 0), (PySem.Value.ref 125), PySem.Value.none, (PySem.Value.ref 126), (PySem.Value.ref 127), (PySem.Value.ref 128), (PySem.Value.int 352 0), (PySem.Value.int 78 0), (PySem.Value.str (PySem.Str.ofString "/claim/cut.py") 353)])) (List.toArray []))) ::
  ((nat_lit 130), (PySem.Obj.mk (PySem.Value.type "function") Option.none (PySem.Data.func (PySem.FuncData.mk (PySem.Str.ofString "free_dot") (PySem.Str.ofString "GraphicsState.free_dot") a9 (PySem.FuncBody.stmts b9) c9 3 [] PySem.Value.none PySem.Value.none PySem.Value.none (PySem.Value.str (PySem.Str.ofString "outlinemill.hint_state") 327) Option.none (PySem.Value.ref 129) PySem.Value.none 0)) (List.toArray []))) ::
  ((nat_lit 131), (PySem.Obj.mk (PySem.Value.type "tuple") Option.none (PySem.Data.seq (List.toArray []) 0) (List.toArray []))) ::
  ((nat_lit 133), (PySem.Obj.mk (PySem.Value.type "tuple") Option.none (PySem.Data.seq (List.toArray [(PySem.Value.str (PySem.Str.ofString "self") 358), (PySem.Value.str (PySem.Str.ofString "dx") 359), (PySem.Value.str (PySem.Str.ofString "dy") 360)]) 0) (List.toArray []))) ::
  ((nat_lit 134), (PySem.Obj.mk (PySem.Value.type "tuple") Option.none (PySem.Data.seq (List.toArray []) 0) (List.toArray []))) ::
  ((nat_lit 136), (PySem.Obj.mk (PySem.Value.type "code") Option.none (PySem.Data.fields (List.toArray [(PySem.Value.str (PySem.Str.ofString "projected") 355), (PySem.Value.str (PySem.Str.ofString "GraphicsState.projected") 356), (PySem.Value.str (PySem.Str.ofString "/claim/cut.py") 357), (PySem.Value.int 81 0), (PySem.Value.int 3 0), (PySem.Value.int 0 0), (PySem.Value.int 0 0), (PySem.Value.int 3 0), (PySem.Value.ref 131), (PySem.Value.bool Bool.true), (PySem.Value.int 181 0), (PySem.Value.ref 132), PySem.Value.none, (PySem.Value.ref 133), (PySem.Value.ref 134), (PySem.Value.ref 135), (PySem.Value.int 361 0), (PySem.Value.int 81 0), (PySem.Value.str (PySem.Str.ofString "/claim/cut.py") 362)])) (List.toArray []))) ::
  ((nat_lit 137), (PySem.Obj.mk (PySem.Value.type "function") Option.none (PySem.Data.func (PySem.FuncData.mk (PySem.Str.ofString "projected") (PySem.Str.ofString "GraphicsState.projected") a10 (PySem.FuncBody.stmts b10) c10 3 [] PySem.Value.none PySem.Value.none PySem.Value.none (PySem.Value.str (PySem.Str.ofString "outlinemill.hint_state") 327) Option.none (PySem.Value.ref 136) PySem.Value.none 0)) (List.toArray []))) ::
  ((nat_lit 138), (PySem.Obj.mk (PySem.Value.type "tuple") Option.none (PySem.Data.seq (List.toArray []) 0) (List.toArray []))) ::
  ((nat_lit 140), (PySem.Obj.mk (PySem.Value.type "tuple") Option.none (PySem.Data.seq (List.toArray [(PySem.Value.str (PySem.Str.ofString "self") 367), (PySem.Value.str (PySem.Str.ofString "dx") 368), (PySem.Value.str (PySem.Str.ofString "dy") 369)]) 0) (List.toArray []))) ::
  ((nat_lit 141), (PySem.Obj.mk (PySem.Value.type "tuple") Option.none (PySem.Data.seq (List.toArray []) 0) (List.toArray []))) ::
  ((nat_lit 143), (PySem.Obj.mk (PySem.Value.type "code") Option.none (PySem.Data.fields (List.toArray [(PySem.Value.str (PySem.Str.ofString "dual_projected") 364), (PySem.Value.str (PySem.Str.ofString "GraphicsState.dual_projected") 365), (PySem.Value.str (PySem.Str.ofString "/claim/cut.py") 366), (PySem.Value.int 84 0), (PySem.Value.int 3 0), (PySem.Value.int 0 0), (PySem.Value.int 0 0), (PySem.Value.int 3 0), (PySem.Value.ref 138), (PySem.Value.bool Bool.true), (PySem.Value.int 181 0), (PySem.Value.ref 139), PySem.Value.none, (PySem.Value.ref 140), (PySem.Value.ref 141), (PySem.Value.ref 142), (PySem.Value.int 370 0), (PySem.Value.int 84 0), (PySem.Value.str (PySem.Str.ofString "/claim/cut.py") 371)])) (List.toArray []))) ::
  ((nat_lit 144), (PySem.Obj.mk (PySem.Value.type "function") Option.none (PySem.Data.func (PySem.FuncData.mk (PySem.Str.ofString "dual_projected") (PySem.Str.ofString "GraphicsState.dual_projected") a11 (PySem.FuncBody.stmts b11) c11 3 [] PySem.Value.none PySem.Value.none PySem.Value.none (PySem.Value.str (PySem.Str.ofString "outlinemill.hint_state") 327) Option.none (PySem.Value.ref 143) PySem.Value.none 0)) (List.toArray []))) ::
  ((nat_lit 145), (PySem.Obj.mk (PySem.Value.type "tuple") Option.none (PySem.Data.seq (List.toArray []) 0) (List.toArray []))) ::
  ((nat_lit 147), (PySem.Obj.mk (PySem.Value.type "tuple") Option.none (PySem.Data.seq (List.toArray [(PySem.Value.str (PySem.Str.ofString "self") 376), (PySem.Value.str (PySem.Str.ofString "points") 377), (PySem.Value.str (PySem.Str.ofString "widths") 378)]) 0) (List.toArray []))) ::
  ((nat_lit 148), (PySem.Obj.mk (PySem.Value.type "tuple") Option.none (PySem.Data.seq (List.toArray []) 0) (List.toArray []))) ::
  ((nat_lit 150), (PySem.Obj.mk (PySem.Value.type "code") Option.none (PySem.Data.fields (List.toArray [(PySem.Value.str (PySem.Str.ofString "row") 373), (PySem.Value.str (PySem.Str.ofString "GraphicsState.row") 374), (PySem.Value.str (PySem.Str.ofString "/claim/cut.py") 375), (PySem.Value.int 87 0), (PySem.Value.int 1 0), (PySem.Value.int 0 0), (PySem.Value.int 0 0), (PySem.Value.int 3 0), (PySem.Value.ref 145), (PySem.Value.bool Bool.true), (PySem.Value.int 181 0), (PySem.Value.ref 146), PySem.Value.none, (PySem.Value.ref 147), (PySem.Value.ref 148), (PySem.Value.ref 149), (PySem.Value.int 379 0), (PySem.Value.int 87 0), (PySem.Value.str (PySem.Str.ofString "/claim/cut.py") 380)])) (List.toArray []))) ::
  ((nat_lit 151), (PySem.Obj.mk (PySem.Value.type "function") Option.none (PySem.Data.func (PySem.FuncData.mk (PySem.Str.ofString "row") (PySem.Str.ofString "GraphicsState.row") a12 (PySem.FuncBody.stmts b12) c12 3 [] PySem.Value.none PySem.Value.none PySem.Value.none (PySem.Value.str (PySem.Str.ofString "outlinemill.hint_state") 327) Option.none (PySem.Value.ref 150) PySem.Value.none 0)) (List.toArray []))) ::
  ((nat_lit 152), (PySem.Obj.mk (PySem.Value.type "tuple") Option.none (PySem.Data.seq (List.toArray [(PySem.Value.str (PySem.Str.ofString "auto_flip") 382), (PySem.Value.str (PySem.Str.ofString "cut_in") 383), (PySem.Value.str (PySem.Str.ofString "delta_base") 384), (PySem.Value.str (PySem.Str.ofString "delta_shift") 385), (PySem.Value.str (PySem.Str.ofString "dual") 386), (PySem.Value.str (PySem.Str.ofString "freedom") 387), (PySem.Value.str (PySem.Str.ofString "loop") 388), (PySem.Value.str (PySem.Str.ofString "minimum") 389), (PySem.Value.str (PySem.Str.ofString "projection") 390), (PySem.Value.str (PySem.Str.ofString "rounding") 391), (PySem.Value.str (PySem.Str.ofString "rp0") 392), (PySem.Value.str (PySem.Str.ofString "rp1") 393), (PySem.Value.str (PySem.Str.ofString "rp2") 394), (PySem.Value.str (PySem.Str.ofString "single_cut_in") 395), (PySem.Value.str (PySem.Str.ofString "single_width") 396), (PySem.Value.str (PySem.Str.ofString "zp0") 397), (PySem.Value.str (PySem.Str.ofString "zp1") 398), (PySem.Value.str (PySem.Str.ofString "zp2") 399)]) 0) (List.toArray []))) ::
  ((nat_lit 153), (PySem.Obj.mk (PySem.Value.type "dict") Option.none (PySem.Data.dict (List.toArray [(PySem.DictEntry.mk (PySem.PyData.keyHash P (PySem.Str.ofString "__module__")) (PySem.Value.str (PySem.Str.ofString "__module__") 336) (PySem.Value.str (PySem.Str.ofString "outlinemill.hint_state") 327)), (PySem.DictEntry.mk (PySem.PyData.keyHash P (PySem.Str.ofString "__firstlineno__")) (PySem.Value.str (PySem.Str.ofString "__firstlineno__") 340) (PySem.Value.int 56 339)), (PySem.DictEntry.mk (PySem.PyData.keyHash P (PySem.Str.ofString "__init__")) (PySem.Value.str (PySem.Str.ofString "__init__") 347) (PySem.Value.ref 123)), (PySem.DictEntry.mk (PySem.PyData.keyHash P (PySem.Str.ofString "free_dot")) (PySem.Value.str (PySem.Str.ofString "free_dot") 354) (PySem.Value.ref 130)), (PySem.DictEntry.mk (PySem.PyData.keyHash P (PySem.Str.ofString "projected")) (PySem.Value.str (PySem.Str.ofString "projected") 363) (PySem.Value.ref 137)), (PySem.DictEntry.mk (PySem.PyData.keyHash P (PySem.Str.ofString "dual_projected")) (PySem.Value.str (PySem.Str.ofString "dual_projected") 372) (PySem.Value.ref 144)), (PySem.DictEntry.mk (PySem.PyData.keyHash P (PySem.Str.ofString "row")) (PySem.Value.str (PySem.Str.ofString "row") 381) (PySem.Value.ref 151)), (PySem.DictEntry.mk (PySem.PyData.keyHash P (PySem.Str.ofString "__static_attributes__")) (PySem.Value.str (PySem.Str.ofString "__static_attributes__") 400) (PySem.Value.ref 152)), (PySem.DictEntry.mk (PySem.PyData.keyHash P (PySem.Str.ofString "__dict__")) (PySem.Value.str (PySem.Str.ofString "__dict__") 402) (PySem.Value.ref 155)), (PySem.DictEntry.mk (PySem.PyData.keyHash P (PySem.Str.ofString "__weakref__")) (PySem.Value.str (PySem.Str.ofString "__weakref__") 404) (PySem.Value.ref 156)), (PySem.DictEntry.mk (PySem.PyData.keyHash P (PySem.Str.ofString "__doc__")) (PySem.Value.str (PySem.Str.ofString "__doc__") 405) PySem.Value.none)]) 4) (List.toArray []))) ::
  ((nat_lit 154), (PySem.Obj.mk (PySem.Value.type "type") Option.none (PySem.Data.cls (PySem.ClassData.mk (PySem.Str.ofString "GraphicsState") [(PySem.Value.type "object")] [(PySem.Value.ref 154), (PySem.Value.type "object")] 153 (PySem.Str.ofString "GraphicsState") Bool.true [] [] Bool.false Option.none Bool.false)) (List.toArray [Option.none, Option.none, (Option.some (PySem.Value.str (PySem.Str.ofString "GraphicsState") 329)), (Option.some (PySem.Value.str (PySem.Str.ofString "GraphicsState") 337)), (Option.some (PySem.Value.builtin "object.__new__")), (Option.some (PySem.Value.bool Bool.true))]))) ::
  ((nat_lit 155), (PySem.Obj.mk (PySem.Value.type "getset_descriptor") Option.none (PySem.Data.fields (List.toArray [(PySem.Value.str (PySem.Str.ofString "__dict__") 401), (PySem.Value.ref 154), (PySem.Value.builtin "function.__dict__"), (PySem.Value.builtin "function.__dict__#set")])) (List.toArray []))) ::
  ((nat_lit 156), (PySem.Obj.mk (PySem.Value.type "getset_descriptor") Option.none (PySem.Data.fields (List.toArray [(PySem.Value.str (PySem.Str.ofString "__weakref__") 403), (PySem.Value.ref 154), (PySem.Value.builtin "ExceptionGroup.__weakref__"), PySem.Value.none])) (List.toArray []))) ::
  ((nat_lit 166), (PySem.Obj.mk (PySem.Value.type "tuple") Option.none (PySem.Data.seq (List.toArray []) 0) (List.toArray []))) ::
  ((nat_lit 168), (PySem.Obj.mk (PySem.Value.type "tuple") Option.none (PySem.Data.seq (List.toArray [(PySem.Value.str (PySem.Str.ofString "self") 425), (PySem.Value.str (PySem.Str.ofString "most") 426)]) 0) (List.toArray []))) ::
  ((nat_lit 169), (PySem.Obj.mk (PySem.Value.type "tuple") Option.none (PySem.Data.seq (List.toArray []) 0) (List.toArray []))) ::
  ((nat_lit 171), (PySem.Obj.mk (PySem.Value.type "code") Option.none (PySem.Data.fields (List.toArray [(PySem.Value.str (PySem.Str.ofString "__init__") 422), (PySem.Value.str (PySem.Str.ofString "HintStack.__init__") 423), (PySem.Value.str (PySem.Str.ofString "/claim/cut.py") 424), (PySem.Value.int 94 0), (PySem.Value.int 2 0), (PySem.Value.int 0 0), (PySem.Value.int 0 0), (PySem.Value.int 3 0), (PySem.Value.ref 166), (PySem.Value.bool Bool.true), (PySem.Value.int 181 0), (PySem.Value.ref 167), PySem.Value.none, (PySem.Value.ref 168), (PySem.Value.ref 169), (PySem.Value.ref 170), (PySem.Value.int 427 0), (PySem.Value.int 94 0), (PySem.Value.str (PySem.Str.ofString "/claim/cut.py") 428)])) (List.toArray []))) ::
  ((nat_lit 172), (PySem.Obj.mk (PySem.Value.type "function") Option.none (PySem.Data.func (PySem.FuncData.mk (PySem.Str.ofString "__init__") (PySem.Str.ofString "HintStack.__init__") a13 (PySem.FuncBody.stmts b13) c13 3 [] PySem.Value.none PySem.Value.none PySem.Value.none (PySem.Value.str (PySem.Str.ofString "outlinemill.hint_work") 408) Option.none (PySem.Value.ref 171) PySem.Value.none 0)) (List.toArray []))) ::
  ((nat_lit 173), (PySem.Obj.mk (PySem.Value.type "tuple") Option.none (PySem.Data.seq (List.toArray []) 0) (List.toArray []))) ::
  ((nat_lit 175), (PySem.Obj.mk (PySem.Value.type "tuple") Option.none (PySem.Data.seq (List.toArray [(PySem.Value.str (PySem.Str.ofString "self") 433), (PySem.Value.str (PySem.Str.ofString "number") 434)]) 0) (List.toArray []))) ::
  ((nat_lit 176), (PySem.Obj.mk (PySem.Value.type "tuple") Option.none (PySem.Data.seq (List.toArray []) 0) (List.toArray []))) ::
  ((nat_lit 178), (PySem.Obj.mk (PySem.Value.type "code") Option.none (PySem.Data.fields (List.toArray [(PySem.Value.str (PySem.Str.ofString "push") 430), (PySem.Value.str (PySem.Str.ofString "HintStack.push") 431), (PySem.Value.str (PySem.Str.ofString "/claim/cut.py") 432), (PySem.Value.int 98 0), (PySem.Value.int 2 0), (PySem.Value.int 0 0), (PySem.Value.int 0 0), (PySem.Value.int 3 0), (PySem.Value.ref 173), (PySem.Value.bool Bool.true), (PySem.Value.int 181 0), (PySem.Value.ref 174), PySem.Value.none, (PySem.Value.ref 175), (PySem.Value.ref 176), (PySem.Value.ref 177), (PySem.Value.int 435 0), (PySem.Value.int 98 0), (PySem.Value.str (PySem.Str.ofString "/claim/cut.py") 436)])) (List.toArray []))) ::
  ((nat_lit 179), (PySem.Obj.mk (PySem.Value.type "function") Option.none (PySem.Data.func (PySem.FuncData.mk (PySem.Str.ofString "push") (PySem.Str.ofString "HintStack.push") a14 (PySem.FuncBody.stmts b14) c14 3 [] PySem.Value.none PySem.Value.none PySem.Value.none (PySem.Value.str (PySem.Str.ofString "outlinemill.hint_work") 408) Option.none (PySem.Value.ref 178) PySem.Value.none 0)) (List.toArray []))) ::
  ((nat_lit 180), (PySem.Obj.mk (PySem.Value.type "tuple") Option.none (PySem.Data.seq (List.toArray []) 0) (List.toArray []))) ::
  ((nat_lit 182), (PySem.Obj.mk (PySem.Value.type "tuple") Option.none (PySem.Data.seq (List.toArray [(PySem.Value.str (PySem.Str.ofString "self") 441)]) 0) (List.toArray []))) ::
  ((nat_lit 183), (PySem.Obj.mk (PySem.Value.type "tuple") Option.none (PySem.Data.seq (List.toArray []) 0) (List.toArray []))) ::
  ((nat_lit 185), (PySem.Obj.mk (PySem.Value.type "code") Option.none (PySem.Data.fields (List.toArray [(PySem.Value.str (PySem.Str.ofString "pop") 438), (PySem.Value.str (PySem.Str.ofString "HintStack.pop") 439), (PySem.Value.str (PySem.Str.ofString "/claim/cut.py") 440), (PySem.Value.int 103 0), (PySem.Value.int 1 0), (PySem.Value.int 0 0), (PySem.Value.int 0 0), (PySem.Value.int 3 0), (PySem.Value.ref 180), (PySem.Value.bool Bool.true), (PySem.Value.int 181 0), (PySem.Value.ref 181), PySem.Value.none, (PySem.Value.ref 182), (PySem.Value.ref 183), (PySem.Value.ref 184), (PySem.Value.int 442 0), (PySem.Value.int 103 0), (PySem.Value.str (PySem.Str.ofString "/claim/cut.py") 443)])) (List.toArray []))) ::
  ((nat_lit 186), (PySem.Obj.mk (PySem.Value.type "function") Option.none (PySem.Data.func (PySem.FuncData.mk (PySem.Str.ofString "pop") (PySem.Str.ofString "HintStack.pop") a15 (PySem.FuncBody.stmts b15) c15 3 [] PySem.Value.none PySem.Value.none PySem.Value.none (PySem.Value.str (PySem.Str.ofString "outlinemill.hint_work") 408) Option.none (PySem.Value.ref 185) PySem.Value.none 0)) (List.toArray []))) ::
  ((nat_lit 187), (PySem.Obj.mk (PySem.Value.type "tuple") Option.none (PySem.Data.seq (List.toArray []) 0) (List.toArray []))) ::
  ((nat_lit 189), (PySem.Obj.mk (PySem.Value.type "tuple") Option.none (PySem.Data.seq (List.toArray [(PySem.Value.str (PySem.Str.ofString "self") 448)]) 0) (List.toArray []))) ::
  ((nat_lit 190), (PySem.Obj.mk (PySem.Value.type "tuple") Option.none (PySem.Data.seq (List.toArray []) 0) (List.toArray []))) ::
  ((nat_lit 192), (PySem.Obj.mk (PySem.Value.type "code") Option.none (PySem.Data.fields (List.toArray [(PySem.Value.str (PySem.Str.ofString "pop_count") 445), (PySem.Value.str (PySem.Str.ofString "HintStack.pop_count") 446), (PySem.Value.str (PySem.Str.ofString "/claim/cut.py") 447), (PySem.Value.int 108 0), (PySem.Value.int 1 0), (PySem.Value.int 0 0), (PySem.Value.int 0 0), (PySem.Value.int 3 0), (PySem.Value.ref 187), (PySem.Value.bool Bool.true), (PySem.Value.int 181 0), (PySem.Value.ref 188), PySem.Value.none, (PySem.Value.ref 189), (PySem.Value.ref 190), (PySem.Value.ref 191), (PySem.Value.int 449 0), (PySem.Value.int 108 0), (PySem.Value.str (PySem.Str.ofString "/claim/cut.py") 450)])) (List.toArray []))) ::
  ((nat_lit 193), (PySem.Obj.mk (PySem.Value.type "function") Option.none (PySem.Data.func (PySem.FuncData.mk (PySem.Str.ofString "pop_count") (PySem.Str.ofString "HintStack.pop_count") a16 (PySem.FuncBody.stmts b16) c16 3 [] PySem.Value.none PySem.Value.none PySem.Value.none (PySem.Value.str (PySem.Str.ofString "outlinemill.hint_work") 408) Option.none (PySem.Value.ref 192) PySem.Value.none 0)) (List.toArray []))) ::
  ((nat_lit 194), (PySem.Obj.mk (PySem.Value.type "tuple") Option.none (PySem.Data.seq (List.toArray []) 0) (List.toArray []))) ::
  ((nat_lit 196), (PySem.Obj.mk (PySem.Value.type "tuple") Option.none (PySem.Data.seq (List.toArray [(PySem.Value.str (PySem.Str.ofString "self") 455), (PySem.Value.str (PySem.Str.ofString "many") 456)]) 0) (List.toArray []))) ::
  ((nat_lit 197), (PySem.Obj.mk (PySem.Value.type "tuple") Option.none (PySem.Data.seq (List.toArray []) 0) (List.toArray []))) ::
  ((nat_lit 199), (PySem.Obj.mk (PySem.Value.type "code") Option.none (PySem.Data.fields (List.toArray [(PySem.Value.str (PySem.Str.ofString "peek") 452), (PySem.Value.str (PySem.Str.ofString "HintStack.peek") 453), (PySem.Value.str (PySem.Str.ofString "/claim/cut.py") 454), (PySem.Value.int 111 0), (PySem.Value.int 2 0), (PySem.Value.int 0 0), (PySem.Value.int 0 0), (PySem.Value.int 3 0), (PySem.Value.ref 194), (PySem.Value.bool Bool.true), (PySem.Value.int 181 0), (PySem.Value.ref 195), PySem.Value.none, (PySem.Value.ref 196), (PySem.Value.ref 197), (PySem.Value.ref 198), (PySem.Value.int 457 0), (PySem.Value.int 111 0), (PySem.Value.str (PySem.Str.ofString "/claim/cut.py") 458)])) (List.toArray []))) ::
  ((nat_lit 200), (PySem.Obj.mk (PySem.Value.type "function") Option.none (PySem.Data.func (PySem.FuncData.mk (PySem.Str.ofString "peek") (PySem.Str.ofString "HintStack.peek") a17 (PySem.FuncBody.stmts b17) c17 3 [] PySem.Value.none PySem.Value.none PySem.Value.none (PySem.Value.str (PySem.Str.ofString "outlinemill.hint_work") 408) Option.none (PySem.Value.ref 199) PySem.Value.none 0)) (List.toArray []))) ::
  ((nat_lit 201), (PySem.Obj.mk (PySem.Value.type "tuple") Option.none (PySem.Data.seq (List.toArray []) 0) (List.toArray []))) ::
  ((nat_lit 203), (PySem.Obj.mk (PySem.Value.type "tuple") Option.none (PySem.Data.seq (List.toArray [(PySem.Value.str (PySem.Str.ofString "self") 463)]) 0) (List.toArray []))) ::
  ((nat_lit 204), (PySem.Obj.mk (PySem.Value.type "tuple") Option.none (PySem.Data.seq (List.toArray []) 0) (List.toArray []))) ::
  ((nat_lit 206), (PySem.Obj.mk (PySem.Value.type "code") Option.none (PySem.Data.fields (List.toArray [(PySem.Value.str (PySem.Str.ofString "depth") 460), (PySem.Value.str (PySem.Str.ofString "HintStack.depth") 461), (PySem.Value.str (PySem.Str.ofString "/claim/cut.py") 462), (PySem.Value.int 114 0), (PySem.Value.int 1 0), (PySem.Value.int 0 0), (PySem.Value.int 0 0), (PySem.Value.int 3 0), (PySem.Value.ref 201), (PySem.Value.bool Bool.true), (PySem.Value.int 181 0), (PySem.Value.ref 202), PySem.Value.none, (PySem.Value.ref 203), (PySem.Value.ref 204), (PySem.Value.ref 205), (PySem.Value.int 464 0), (PySem.Value.int 114 0), (PySem.Value.str (PySem.Str.ofString "/claim/cut.py") 465)])) (List.toArray []))) ::
  ((nat_lit 207), (PySem.Obj.mk (PySem.Value.type "function") Option.none (PySem.Data.func (PySem.FuncData.mk (PySem.Str.ofString "depth") (PySem.Str.ofString "HintStack.depth") a18 (PySem.FuncBody.stmts b18) c18 3 [] PySem.Value.none PySem.Value.none PySem.Value.none (PySem.Value.str (PySem.Str.ofString "outlinemill.hint_work") 408) Option.none (PySem.Value.ref 206) PySem.Value.none 0)) (List.toArray []))) ::
  ((nat_lit 208), (PySem.Obj.mk (PySem.Value.type "tuple") Option.none (PySem.Data.seq (List.toArray []) 0) (List.toArray []))) ::
  ((nat_lit 210), (PySem.Obj.mk (PySem.Value.type "tuple") Option.none (PySem.Data.seq (List.toArray [(PySem.Value.str (PySem.Str.ofString "self") 470)]) 0) (List.toArray []))) ::
  ((nat_lit 211), (PySem.Obj.mk (PySem.Value.type "tuple") Option.none (PySem.Data.seq (List.toArray []) 0) (List.toArray []))) ::
  ((nat_lit 213), (PySem.Obj.mk (PySem.Value.type "code") Option.none (PySem.Data.fields (List.toArray [(PySem.Value.str (PySem.Str.ofString "clear") 467), (PySem.Value.str (PySem.Str.ofString "HintStack.clear") 468), (PySem.Value.str (PySem.Str.ofString "/claim/cut.py") 469), (PySem.Value.int 117 0), (PySem.Value.int 1 0), (PySem.Value.int 0 0), (PySem.Value.int 0 0), (PySem.Value.int 3 0), (PySem.Value.ref 208), (PySem.Value.bool Bool.true), (PySem.Value.int 181 0), (PySem.Value.ref 209), PySem.Value.none, (PySem.Value.ref 210), (PySem.Value.ref 211), (PySem.Value.ref 212), (PySem.Value.int 471 0), (PySem.Value.int 117 0), (PySem.Value.str (PySem.Str.ofString "/claim/cut.py") 472)])) (List.toArray []))) ::
  ((nat_lit 214), (PySem.Obj.mk (PySem.Value.type "function") Option.none (PySem.Data.func (PySem.FuncData.mk (PySem.Str.ofString "clear") (PySem.Str.ofString "HintStack.clear") a19 (PySem.FuncBody.stmts b19) c19 3 [] PySem.Value.none PySem.Value.none PySem.Value.none (PySem.Value.str (PySem.Str.ofString "outlinemill.hint_work") 408) Option.none (PySem.Value.ref 213) PySem.Value.none 0)) (List.toArray []))) ::
  ((nat_lit 215), (PySem.Obj.mk (PySem.Value.type "tuple") Option.none (PySem.Data.seq (List.toArray [(PySem.Value.str (PySem.Str.ofString "most") 474), (PySem.Value.str (PySem.Str.ofString "numbers") 475)]) 0) (List.toArray []))) ::
  ((nat_lit 216), (PySem.Obj.mk (PySem.Value.type "dict") Option.none (PySem.Data.dict (List.toArray [(PySem.DictEntry.mk (PySem.PyData.keyHash P (PySem.Str.ofString "__module__")) (PySem.Value.str (PySem.Str.ofString "__module__") 417) (PySem.Value.str (PySem.Str.ofString "outlinemill.hint_work") 408)), (PySem.DictEntry.mk (PySem.PyData.keyHash P (PySem.Str.ofString "__firstlineno__")) (PySem.Value.str (PySem.Str.ofString "__firstlineno__") 421) (PySem.Value.int 92 420)), (PySem.DictEntry.mk (PySem.PyData.keyHash P (PySem.Str.ofString "__init__")) (PySem.Value.str (PySem.Str.ofString "__init__") 429) (PySem.Value.ref 172)), (PySem.DictEntry.mk (PySem.PyData.keyHash P (PySem.Str.ofString "push")) (PySem.Value.str (PySem.Str.ofString "push") 437) (PySem.Value.ref 179)), (PySem.DictEntry.mk (PySem.PyData.keyHash P (PySem.Str.ofString "pop")) (PySem.Value.str (PySem.Str.ofString "pop") 444) (PySem.Value.ref 186)), (PySem.DictEntry.mk (PySem.PyData.keyHash P (PySem.Str.ofString "pop_count")) (PySem.Value.str (PySem.Str.ofString "pop_count") 451) (PySem.Value.ref 193)), (PySem.DictEntry.mk (PySem.PyData.keyHash P (PySem.Str.ofString "peek")) (PySem.Value.str (PySem.Str.ofString "peek") 459) (PySem.Value.ref 200)), (PySem.DictEntry.mk (PySem.PyData.keyHash P (PySem.Str.ofString "depth")) (PySem.Value.str (PySem.Str.ofString "depth") 466) (PySem.Value.ref 207)), (PySem.DictEntry.mk (PySem.PyData.keyHash P (PySem.Str.ofString "clear")) (PySem.Value.str (PySem.Str.ofString "clear") 473) (PySem.Value.ref 214)), (PySem.DictEntry.mk (PySem.PyData.keyHash P (PySem.Str.ofString "__static_attributes__")) (PySem.Value.str (PySem.Str.ofString "__static_attributes__") 476) (PySem.Value.ref 215)), (PySem.DictEntry.mk (PySem.PyData.keyHash P (PySem.Str.ofString "__dict__")) (PySem.Value.str (PySem.Str.ofString "__dict__") 478) (PySem.Value.ref 218)), (PySem.DictEntry.mk (PySem.PyData.keyHash P (PySem.Str.ofString "__weakref__")) (PySem.Value.str (PySem.Str.ofString "__weakref__") 480) (PySem.Value.ref 219)), (PySem.DictEntry.mk (PySem.PyData.keyHash P (PySem.Str.ofString "__doc__")) (PySem.Value.str (PySem.Str.ofString "__doc__") 481) PySem.Value.none)]) 4) (List.toArray []))) ::
  ((nat_lit 217), (PySem.Obj.mk (PySem.Value.type "type") Option.none (PySem.Data.cls (PySem.ClassData.mk (PySem.Str.ofString "HintStack") [(PySem.Value.type "object")] [(PySem.Value.ref 217), (PySem.Value.type "object")] 216 (PySem.Str.ofString "HintStack") Bool.true [] [] Bool.false Option.none Bool.false)) (List.toArray [Option.none, Option.none, (Option.some (PySem.Value.str (PySem.Str.ofString "HintStack") 410)), (Option.some (PySem.Value.str (PySem.Str.ofString "HintStack") 418)), (Option.some (PySem.Value.builtin "object.__new__")), (Option.some (PySem.Value.bool Bool.true))]))) ::
  ((nat_lit 218), (PySem.Obj.mk (PySem.Value.type "getset_descriptor") Option.none (PySem.Data.fields (List.toArray [(PySem.Value.str (PySem.Str.ofString "__dict__") 477), (PySem.Value.ref 217), (PySem.Value.builtin "function.__dict__"), (PySem.Value.builtin "function.__dict__#set")])) (List.toArray []))) ::
  ((nat_lit 219), (PySem.Obj.mk (PySem.Value.type "getset_descriptor") Option.none (PySem.Data.fields (List.toArray [(PySem.Value.str (PySem.Str.ofString "__weakref__") 479), (PySem.Value.ref 217), (PySem.Value.builtin "ExceptionGroup.__weakref__"), PySem.Value.none])) (List.toArray []))) ::
  ((nat_lit 229), (PySem.Obj.mk (PySem.Value.type "tuple") Option.none (PySem.Data.seq (List.toArray [(PySem.Value.int 1 499), (PySem.Value.int 1 500)]) 0) (List.toArray []))) ::
  ((nat_lit 230), (PySem.Obj.mk (PySem.Value.type "tuple") Option.none (PySem.Data.seq (List.toArray [(PySem.Value.int 64 496), (PySem.Value.int 12 497), (PySem.Value.int 768 498), (PySem.Value.ref 229)]) 0) (List.toArray []))) ::
  ((nat_lit 231), (PySem.Obj.mk (PySem.Value.type "tuple") Option.none (PySem.Data.seq (List.toArray []) 0) (List.toArray []))) ::
  ((nat_lit 233), (PySem.Obj.mk (PySem.Value.type "tuple") Option.none (PySem.Data.seq (List.toArray [(PySem.Value.str (PySem.Str.ofString "self") 504), (PySem.Value.str (PySem.Str.ofString "zones") 505), (PySem.Value.str (PySem.Str.ofString "cvt") 506), (PySem.Value.str (PySem.Str.ofString "stack_most") 507), (PySem.Value.str (PySem.Str.ofString "ppem") 508), (PySem.Value.str (PySem.Str.ofString "point_size") 509), (PySem.Value.str (PySem.Str.ofString "scale") 510)]) 0) (List.toArray []))) ::
  ((nat_lit 234), (PySem.Obj.mk (PySem.Value.type "tuple") Option.none (PySem.Data.seq (List.toArray []) 0) (List.toArray []))) ::
  ((nat_lit 236), (PySem.Obj.mk (PySem.Value.type "code") Option.none (PySem.Data.fields (List.toArray [(PySem.Value.str (PySem.Str.ofString "__init__") 501), (PySem.Value.str (PySem.Str.ofString "HintWork.__init__") 502), (PySem.Value.str (PySem.Str.ofString "/claim/cut.py") 503), (PySem.Value.int 121 0), (PySem.Value.int 7 0), (PySem.Value.int 0 0), (PySem.Value.int 0 0), (PySem.Value.int 3 0), (PySem.Value.ref 231), (PySem.Value.bool Bool.true), (PySem.Value.int 181 0), (PySem.Value.ref 232), PySem.Value.none, (PySem.Value.ref 233), (PySem.Value.ref 234), (PySem.Value.ref 235), (PySem.Value.int 511 0), (PySem.Value.int 121 0), (PySem.Value.str (PySem.Str.ofString "/claim/cut.py") 512)])) (List.toArray []))) ::
  ((nat_lit 237), (PySem.Obj.mk (PySem.Value.type "function") Option.none (PySem.Data.func (PySem.FuncData.mk (PySem.Str.ofString "__init__") (PySem.Str.ofString "HintWork.__init__") a20 (PySem.FuncBody.stmts b20) c20 3 [] (PySem.Value.ref 230) PySem.Value.none PySem.Value.none (PySem.Value.str (PySem.Str.ofString "outlinemill.hint_work") 408) Option.none (PySem.Value.ref 236) PySem.Value.none 0)) (List.toArray []))) ::
  ((nat_lit 238), (PySem.Obj.mk (PySem.Value.type "tuple") Option.none (PySem.Data.seq (List.toArray []) 0) (List.toArray []))) ::
  ((nat_lit 240), (PySem.Obj.mk (PySem.Value.type "tuple") Option.none (PySem.Data.seq (List.toArray [(PySem.Value.str (PySem.Str.ofString "self") 517), (PySem.Value.str (PySem.Str.ofString "number") 518)]) 0) (List.toArray []))) ::
  ((nat_lit 241), (PySem.Obj.mk (PySem.Value.type "tuple") Option.none (PySem.Data.seq (List.toArray []) 0) (List.toArray []))) ::
  ((nat_lit 243), (PySem.Obj.mk (PySem.Value.type "code") Option.none (PySem.Data.fields (List.toArray [(PySem.Value.str (PySem.Str.ofString "zone") 514), (PySem.Value.str (PySem.Str.ofString "HintWork.zone") 515), (PySem.Value.str (PySem.Str.ofString "/claim/cut.py") 516), (PySem.Value.int 131 0), (PySem.Value.int 2 0), (PySem.Value.int 0 0), (PySem.Value.int 0 0), (PySem.Value.int 3 0), (PySem.Value.ref 238), (PySem.Value.bool Bool.true), (PySem.Value.int 181 0), (PySem.Value.ref 239), PySem.Value.none, (PySem.Value.ref 240), (PySem.Value.ref 241), (PySem.Value.ref 242), (PySem.Value.int 519 0), (PySem.Value.int 131 0), (PySem.Value.str (PySem.Str.ofString "/claim/cut.py") 520)])) (List.toArray []))) ::
  ((nat_lit 244), (PySem.Obj.mk (PySem.Value.type "function") Option.none (PySem.Data.func (PySem.FuncData.mk (PySem.Str.ofString "zone") (PySem.Str.ofString "HintWork.zone") a21 (PySem.FuncBody.stmts b21) c21 3 [] PySem.Value.none PySem.Value.none PySem.Value.none (PySem.Value.str (PySem.Str.ofString "outlinemill.hint_work") 408) Option.none (PySem.Value.ref 243) PySem.Value.none 0)) (List.toArray []))) ::
  ((nat_lit 245), (PySem.Obj.mk (PySem.Value.type "tuple") Option.none (PySem.Data.seq (List.toArray []) 0) (List.toArray []))) ::
  ((nat_lit 247), (PySem.Obj.mk (PySem.Value.type "tuple") Option.none (PySem.Data.seq (List.toArray [(PySem.Value.str (PySem.Str.ofString "self") 525), (PySem.Value.str (PySem.Str.ofString "i") 526)]) 0) (List.toArray []))) ::
  ((nat_lit 248), (PySem.Obj.mk (PySem.Value.type "tuple") Option.none (PySem.Data.seq (List.toArray []) 0) (List.toArray []))) ::
  ((nat_lit 250), (PySem.Obj.mk (PySem.Value.type "code") Option.none (PySem.Data.fields (List.toArray [(PySem.Value.str (PySem.Str.ofString "cvt_value") 522), (PySem.Value.str (PySem.Str.ofString "HintWork.cvt_value") 523), (PySem.Value.str (PySem.Str.ofString "/claim/cut.py") 524), (PySem.Value.int 134 0), (PySem.Value.int 2 0), (PySem.Value.int 0 0), (PySem.Value.int 0 0), (PySem.Value.int 3 0), (PySem.Value.ref 245), (PySem.Value.bool Bool.true), (PySem.Value.int 181 0), (PySem.Value.ref 246), PySem.Value.none, (PySem.Value.ref 247), (PySem.Value.ref 248), (PySem.Value.ref 249), (PySem.Value.int 527 0), (PySem.Value.int 134 0), (PySem.Value.str (PySem.Str.ofString "/claim/cut.py") 528)])) (List.toArray []))) ::
  ((nat_lit 251), (PySem.Obj.mk (PySem.Value.type "function") Option.none (PySem.Data.func (PySem.FuncData.mk (PySem.Str.ofString "cvt_value") (PySem.Str.ofString "HintWork.cvt_value") a22 (PySem.FuncBody.stmts b22) c22 3 [] PySem.Value.none PySem.Value.none PySem.Value.none (PySem.Value.str (PySem.Str.ofString "outlinemill.hint_work") 408) Option.none (PySem.Value.ref 250) PySem.Value.none 0)) (List.toArray []))) ::
  ((nat_lit 252), (PySem.Obj.mk (PySem.Value.type "tuple") Option.none (PySem.Data.seq (List.toArray []) 0) (List.toArray []))) ::
  ((nat_lit 254), (PySem.Obj.mk (PySem.Value.type "tuple") Option.none (PySem.Data.seq (List.toArray [(PySem.Value.str (PySem.Str.ofString "self") 533), (PySem.Value.str (PySem.Str.ofString "i") 534), (PySem.Value.str (PySem.Str.ofString "value") 535)]) 0) (List.toArray []))) ::
  ((nat_lit 255), (PySem.Obj.mk (PySem.Value.type "tuple") Option.none (PySem.Data.seq (List.toArray []) 0) (List.toArray []))) ::
  ((nat_lit 257), (PySem.Obj.mk (PySem.Value.type "code") Option.none (PySem.Data.fields (List.toArray [(PySem.Value.str (PySem.Str.ofString "put_cvt") 530), (PySem.Value.str (PySem.Str.ofString "HintWork.put_cvt") 531), (PySem.Value.str (PySem.Str.ofString "/claim/cut.py") 532), (PySem.Value.int 137 0), (PySem.Value.int 3 0), (PySem.Value.int 0 0), (PySem.Value.int 0 0), (PySem.Value.int 3 0), (PySem.Value.ref 252), (PySem.Value.bool Bool.true), (PySem.Value.int 181 0), (PySem.Value.ref 253), PySem.Value.none, (PySem.Value.ref 254), (PySem.Value.ref 255), (PySem.Value.ref 256), (PySem.Value.int 536 0), (PySem.Value.int 137 0), (PySem.Value.str (PySem.Str.ofString "/claim/cut.py") 537)])) (List.toArray []))) ::
  ((nat_lit 258), (PySem.Obj.mk (PySem.Value.type "function") Option.none (PySem.Data.func (PySem.FuncData.mk (PySem.Str.ofString "put_cvt") (PySem.Str.ofString "HintWork.put_cvt") a23 (PySem.FuncBody.stmts b23) c23 3 [] PySem.Value.none PySem.Value.none PySem.Value.none (PySem.Value.str (PySem.Str.ofString "outlinemill.hint_work") 408) Option.none (PySem.Value.ref 257) PySem.Value.none 0)) (List.toArray []))) ::
  ((nat_lit 259), (PySem.Obj.mk (PySem.Value.type "tuple") Option.none (PySem.Data.seq (List.toArray []) 0) (List.toArray []))) ::
  ((nat_lit 261), (PySem.Obj.mk (PySem.Value.type "tuple") Option.none (PySem.Data.seq (List.toArray [(PySem.Value.str (PySem.Str.ofString "self") 542)]) 0) (List.toArray []))) ::
  ((nat_lit 262), (PySem.Obj.mk (PySem.Value.type "tuple") Option.none (PySem.Data.seq (List.toArray []) 0) (List.toArray []))) ::
  ((nat_lit 264), (PySem.Obj.mk (PySem.Value.type "code") Option.none (PySem.Data.fields (List.toArray [(PySem.Value.str (PySem.Str.ofString "next_loop") 539), (PySem.Value.str (PySem.Str.ofString "HintWork.next_loop") 540), (PySem.Value.str (PySem.Str.ofString "/claim/cut.py") 541), (PySem.Value.int 140 0), (PySem.Value.int 1 0), (PySem.Value.int 0 0), (PySem.Value.int 0 0), (PySem.Value.int 3 0), (PySem.Value.ref 259), (PySem.Value.bool Bool.true), (PySem.Value.int 181 0), (PySem.Value.ref 260), PySem.Value.none, (PySem.Value.ref 261), (PySem.Value.ref 262), (PySem.Value.ref 263), (PySem.Value.int 543 0), (PySem.Value.int 140 0), (PySem.Value.str (PySem.Str.ofString "/claim/cut.py") 544)])) (List.toArray []))) ::
  ((nat_lit 265), (PySem.Obj.mk (PySem.Value.type "function") Option.none (PySem.Data.func (PySem.FuncData.mk (PySem.Str.ofString "next_loop") (PySem.Str.ofString "HintWork.next_loop") a24 (PySem.FuncBody.stmts b24) c24 3 [] PySem.Value.none PySem.Value.none PySem.Value.none (PySem.Value.str (PySem.Str.ofString "outlinemill.hint_work") 408) Option.none (PySem.Value.ref 264) PySem.Value.none 0)) (List.toArray []))) ::
  ((nat_lit 266), (PySem.Obj.mk (PySem.Value.type "tuple") Option.none (PySem.Data.seq (List.toArray [(PySem.Value.str (PySem.Str.ofString "cvt") 546), (PySem.Value.str (PySem.Str.ofString "point_size") 547), (PySem.Value.str (PySem.Str.ofString "ppem") 548), (PySem.Value.str (PySem.Str.ofString "scale") 549), (PySem.Value.str (PySem.Str.ofString "stack") 550), (PySem.Value.str (PySem.Str.ofString "state") 551), (PySem.Value.str (PySem.Str.ofString "storage") 552), (PySem.Value.str (PySem.Str.ofString "zones") 553)]) 0) (List.toArray []))) ::
  ((nat_lit 267), (PySem.Obj.mk (PySem.Value.type "dict") Option.none (PySem.Data.dict (List.toArray [(PySem.DictEntry.mk (PySem.PyData.keyHash P (PySem.Str.ofString "__module__")) (PySem.Value.str (PySem.Str.ofString "__module__") 491) (PySem.Value.str (PySem.Str.ofString "outlinemill.hint_work") 408)), (PySem.DictEntry.mk (PySem.PyData.keyHash P (PySem.Str.ofString "__firstlineno__")) (PySem.Value.str (PySem.Str.ofString "__firstlineno__") 495) (PySem.Value.int 119 494)), (PySem.DictEntry.mk (PySem.PyData.keyHash P (PySem.Str.ofString "__init__")) (PySem.Value.str (PySem.Str.ofString "__init__") 513) (PySem.Value.ref 237)), (PySem.DictEntry.mk (PySem.PyData.keyHash P (PySem.Str.ofString "zone")) (PySem.Value.str (PySem.Str.ofString "zone") 521) (PySem.Value.ref 244)), (PySem.DictEntry.mk (PySem.PyData.keyHash P (PySem.Str.ofString "cvt_value")) (PySem.Value.str (PySem.Str.ofString "cvt_value") 529) (PySem.Value.ref 251)), (PySem.DictEntry.mk (PySem.PyData.keyHash P (PySem.Str.ofString "put_cvt")) (PySem.Value.str (PySem.Str.ofString "put_cvt") 538) (PySem.Value.ref 258)), (PySem.DictEntry.mk (PySem.PyData.keyHash P (PySem.Str.ofString "next_loop")) (PySem.Value.str (PySem.Str.ofString "next_loop") 545) (PySem.Value.ref 265)), (PySem.DictEntry.mk (PySem.PyData.keyHash P (PySem.Str.ofString "__static_attributes__")) (PySem.Value.str (PySem.Str.ofString "__static_attributes__") 554) (PySem.Value.ref 266)), (PySem.DictEntry.mk (PySem.PyData.keyHash P (PySem.Str.ofString "__dict__")) (PySem.Value.str (PySem.Str.ofString "__dict__") 556) (PySem.Value.ref 269)), (PySem.DictEntry.mk (PySem.PyData.keyHash P (PySem.Str.ofString "__weakref__")) (PySem.Value.str (PySem.Str.ofString "__weakref__") 558) (PySem.Value.ref 270)), (PySem.DictEntry.mk (PySem.PyData.keyHash P (PySem.Str.ofString "__doc__")) (PySem.Value.str (PySem.Str.ofString "__doc__") 559) PySem.Value.none)]) 4) (List.toArray []))) ::
  ((nat_lit 268), (PySem.Obj.mk (PySem.Value.type "type") Option.none (PySem.Data.cls (PySem.ClassData.mk (PySem.Str.ofString "HintWork") [(PySem.Value.type "object")] [(PySem.Value.ref 268), (PySem.Value.type "object")] 267 (PySem.Str.ofString "HintWork") Bool.true [] [] Bool.false Option.none Bool.false)) (List.toArray [Option.none, Option.none, (Option.some (PySem.Value.str (PySem.Str.ofString "HintWork") 484)), (Option.some (PySem.Value.str (PySem.Str.ofString "HintWork") 492)), (Option.some (PySem.Value.builtin "object.__new__")), (Option.some (PySem.Value.bool Bool.true))]))) ::
  ((nat_lit 269), (PySem.Obj.mk (PySem.Value.type "getset_descriptor") Option.none (PySem.Data.fields (List.toArray [(PySem.Value.str (PySem.Str.ofString "__dict__") 555), (PySem.Value.ref 268), (PySem.Value.builtin "function.__dict__"), (PySem.Value.builtin "function.__dict__#set")])) (List.toArray []))) ::
  ((nat_lit 270), (PySem.Obj.mk (PySem.Value.type "getset_descriptor") Option.none (PySem.Data.fields (List.toArray [(PySem.Value.str (PySem.Str.ofString "__weakref__") 557), (PySem.Value.ref 268), (PySem.Value.builtin "ExceptionGroup.__weakref__"), PySem.Value.none])) (List.toArray []))) ::
  ((nat_lit 273), (PySem.Obj.mk (PySem.Value.type "tuple") Option.none (PySem.Data.seq (List.toArray []) 0) (List.toArray []))) ::
  ((nat_lit 275), (PySem.Obj.mk (PySem.Value.type "tuple") Option.none (PySem.Data.seq (List.toArray [(PySem.Value.str (PySem.Str.ofString "script") 567), (PySem.Value.str (PySem.Str.ofString "cell") 568), (PySem.Value.str (PySem.Str.ofString "size") 569)]) 0) (List.toArray []))) ::
  ((nat_lit 276), (PySem.Obj.mk (PySem.Value.type "tuple") Option.none (PySem.Data.seq (List.toArray []) 0) (List.toArray []))) ::
  ((nat_lit 278), (PySem.Obj.mk (PySem.Value.type "code") Option.none (PySem.Data.fields (List.toArray [(PySem.Value.str (PySem.Str.ofString "_law_pool") 564), (PySem.Value.str (PySem.Str.ofString "_law_pool") 565), (PySem.Value.str (PySem.Str.ofString "/claim/cut.py") 566), (PySem.Value.int 143 0), (PySem.Value.int 1 0), (PySem.Value.int 0 0), (PySem.Value.int 0 0), (PySem.Value.int 3 0), (PySem.Value.ref 273), (PySem.Value.bool Bool.true), (PySem.Value.int 181 0), (PySem.Value.ref 274), PySem.Value.none, (PySem.Value.ref 275), (PySem.Value.ref 276), (PySem.Value.ref 277), (PySem.Value.int 570 0), (PySem.Value.int 143 0), (PySem.Value.str (PySem.Str.ofString "/claim/cut.py") 571)])) (List.toArray []))) ::
  ((nat_lit 279), (PySem.Obj.mk (PySem.Value.type "function") Option.none (PySem.Data.func (PySem.FuncData.mk (PySem.Str.ofString "_law_pool") (PySem.Str.ofString "_law_pool") a25 (PySem.FuncBody.stmts b25) c25 3 [] PySem.Value.none PySem.Value.none PySem.Value.none (PySem.Value.str (PySem.Str.ofString "law_xm0721_01") 562) Option.none (PySem.Value.ref 278) PySem.Value.none 0)) (List.toArray []))) ::
  ((nat_lit 280), (PySem.Obj.mk (PySem.Value.type "tuple") Option.none (PySem.Data.seq (List.toArray []) 0) (List.toArray []))) ::
  ((nat_lit 282), (PySem.Obj.mk (PySem.Value.type "tuple") Option.none (PySem.Data.seq (List.toArray [(PySem.Value.str (PySem.Str.ofString "source") 576), (PySem.Value.str (PySem.Str.ofString "top") 577), (PySem.Value.str (PySem.Str.ofString "figure") 578)]) 0) (List.toArray []))) ::
  ((nat_lit 283), (PySem.Obj.mk (PySem.Value.type "tuple") Option.none (PySem.Data.seq (List.toArray []) 0) (List.toArray []))) ::
  ((nat_lit 285), (PySem.Obj.mk (PySem.Value.type "code") Option.none (PySem.Data.fields (List.toArray [(PySem.Value.str (PySem.Str.ofString "_law_take") 573), (PySem.Value.str (PySem.Str.ofString "_law_take") 574), (PySem.Value.str (PySem.Str.ofString "/claim/cut.py") 575), (PySem.Value.int 147 0), (PySem.Value.int 2 0), (PySem.Value.int 0 0), (PySem.Value.int 0 0), (PySem.Value.int 3 0), (PySem.Value.ref 280), (PySem.Value.bool Bool.true), (PySem.Value.int 181 0), (PySem.Value.ref 281), PySem.Value.none, (PySem.Value.ref 282), (PySem.Value.ref 283), (PySem.Value.ref 284), (PySem.Value.int 579 0), (PySem.Value.int 147 0), (PySem.Value.str (PySem.Str.ofString "/claim/cut.py") 580)])) (List.toArray []))) ::
  ((nat_lit 286), (PySem.Obj.mk (PySem.Value.type "function") Option.none (PySem.Data.func (PySem.FuncData.mk (PySem.Str.ofString "_law_take") (PySem.Str.ofString "_law_take") a26 (PySem.FuncBody.stmts b26) c26 3 [] PySem.Value.none PySem.Value.none PySem.Value.none (PySem.Value.str (PySem.Str.ofString "law_xm0721_01") 562) Option.none (PySem.Value.ref 285) PySem.Value.none 0)) (List.toArray []))) ::
  ((nat_lit 287), (PySem.Obj.mk (PySem.Value.type "tuple") Option.none (PySem.Data.seq (List.toArray []) 0) (List.toArray []))) ::
  ((nat_lit 289), (PySem.Obj.mk (PySem.Value.type "tuple") Option.none (PySem.Data.seq (List.toArray [(PySem.Value.str (PySem.Str.ofString "source") 585), (PySem.Value.str (PySem.Str.ofString "things") 586)]) 0) (List.toArray []))) ::
  ((nat_lit 290), (PySem.Obj.mk (PySem.Value.type "tuple") Option.none (PySem.Data.seq (List.toArray []) 0) (List.toArray []))) ::
  ((nat_lit 292), (PySem.Obj.mk (PySem.Value.type "code") Option.none (PySem.Data.fields (List.toArray [(PySem.Value.str (PySem.Str.ofString "_law_one") 582), (PySem.Value.str (PySem.Str.ofString "_law_one") 583), (PySem.Value.str (PySem.Str.ofString "/claim/cut.py") 584), (PySem.Value.int 154 0), (PySem.Value.int 2 0), (PySem.Value.int 0 0), (PySem.Value.int 0 0), (PySem.Value.int 3 0), (PySem.Value.ref 287), (PySem.Value.bool Bool.true), (PySem.Value.int 181 0), (PySem.Value.ref 288), PySem.Value.none, (PySem.Value.ref 289), (PySem.Value.ref 290), (PySem.Value.ref 291), (PySem.Value.int 587 0), (PySem.Value.int 154 0), (PySem.Value.str (PySem.Str.ofString "/claim/cut.py") 588)])) (List.toArray []))) ::
  ((nat_lit 293), (PySem.Obj.mk (PySem.Value.type "function") Option.none (PySem.Data.func (PySem.FuncData.mk (PySem.Str.ofString "_law_one") (PySem.Str.ofString "_law_one") a27 (PySem.FuncBody.stmts b27) c27 3 [] PySem.Value.none PySem.Value.none PySem.Value.none (PySem.Value.str (PySem.Str.ofString "law_xm0721_01") 562) Option.none (PySem.Value.ref 292) PySem.Value.none 0)) (List.toArray []))) ::
  ((nat_lit 294), (PySem.Obj.mk (PySem.Value.type "tuple") Option.none (PySem.Data.seq (List.toArray []) 0) (List.toArray []))) ::
  ((nat_lit 296), (PySem.Obj.mk (PySem.Value.type "tuple") Option.none (PySem.Data.seq (List.toArray [(PySem.Value.str (PySem.Str.ofString "top") 593), (PySem.Value.str (PySem.Str.ofString "bottom") 594), (PySem.Value.str (PySem.Str.ofString "told") 595), (PySem.Value.str (PySem.Str.ofString "off") 596)]) 0) (List.toArray []))) ::
  ((nat_lit 297), (PySem.Obj.mk (PySem.Value.type "tuple") Option.none (PySem.Data.seq (List.toArray []) 0) (List.toArray []))) ::
  ((nat_lit 299), (PySem.Obj.mk (PySem.Value.type "code") Option.none (PySem.Data.fields (List.toArray [(PySem.Value.str (PySem.Str.ofString "_law_is_near") 590), (PySem.Value.str (PySem.Str.ofString "_law_is_near") 591), (PySem.Value.str (PySem.Str.ofString "/claim/cut.py") 592), (PySem.Value.int 156 0), (PySem.Value.int 3 0), (PySem.Value.int 0 0), (PySem.Value.int 0 0), (PySem.Value.int 3 0), (PySem.Value.ref 294), (PySem.Value.bool Bool.true), (PySem.Value.int 181 0), (PySem.Value.ref 295), PySem.Value.none, (PySem.Value.ref 296), (PySem.Value.ref 297), (PySem.Value.ref 298), (PySem.Value.int 597 0), (PySem.Value.int 156 0), (PySem.Value.str (PySem.Str.ofString "/claim/cut.py") 598)])) (List.toArray []))) ::
  ((nat_lit 300), (PySem.Obj.mk (PySem.Value.type "function") Option.none (PySem.Data.func (PySem.FuncData.mk (PySem.Str.ofString "_law_is_near") (PySem.Str.ofString "_law_is_near") a28 (PySem.FuncBody.stmts b28) c28 3 [] PySem.Value.none PySem.Value.none PySem.Value.none (PySem.Value.str (PySem.Str.ofString "law_xm0721_01") 562) Option.none (PySem.Value.ref 299) PySem.Value.none 0)) (List.toArray []))) ::
  ((nat_lit 301), (PySem.Obj.mk (PySem.Value.type "tuple") Option.none (PySem.Data.seq (List.toArray []) 0) (List.toArray []))) ::
  ((nat_lit 303), (PySem.Obj.mk (PySem.Value.type "tuple") Option.none (PySem.Data.seq (List.toArray [(PySem.Value.str (PySem.Str.ofString "code") 603), (PySem.Value.str (PySem.Str.ofString "places") 604)]) 0) (List.toArray []))) ::
  ((nat_lit 304), (PySem.Obj.mk (PySem.Value.type "tuple") Option.none (PySem.Data.seq (List.toArray []) 0) (List.toArray []))) ::
  ((nat_lit 306), (PySem.Obj.mk (PySem.Value.type "code") Option.none (PySem.Data.fields (List.toArray [(PySem.Value.str (PySem.Str.ofString "_law_place") 600), (PySem.Value.str (PySem.Str.ofString "_law_place") 601), (PySem.Value.str (PySem.Str.ofString "/claim/cut.py") 602), (PySem.Value.int 159 0), (PySem.Value.int 1 0), (PySem.Value.int 0 0), (PySem.Value.int 0 0), (PySem.Value.int 3 0), (PySem.Value.ref 301), (PySem.Value.bool Bool.true), (PySem.Value.int 181 0), (PySem.Value.ref 302), PySem.Value.none, (PySem.Value.ref 303), (PySem.Value.ref 304), (PySem.Value.ref 305), (PySem.Value.int 605 0), (PySem.Value.int 159 0), (PySem.Value.str (PySem.Str.ofString "/claim/cut.py") 606)])) (List.toArray []))) ::
  ((nat_lit 307), (PySem.Obj.mk (PySem.Value.type "function") Option.none (PySem.Data.func (PySem.FuncData.mk (PySem.Str.ofString "_law_place") (PySem.Str.ofString "_law_place") a29 (PySem.FuncBody.stmts b29) c29 3 [] PySem.Value.none PySem.Value.none PySem.Value.none (PySem.Value.str (PySem.Str.ofString "law_xm0721_01") 562) Option.none (PySem.Value.ref 306) PySem.Value.none 0)) (List.toArray []))) ::
  ((nat_lit 308), (PySem.Obj.mk (PySem.Value.type "tuple") Option.none (PySem.Data.seq (List.toArray []) 0) (List.toArray []))) ::
  ((nat_lit 310), (PySem.Obj.mk (PySem.Value.type "tuple") Option.none (PySem.Data.seq (List.toArray [(PySem.Value.str (PySem.Str.ofString "work") 611), (PySem.Value.str (PySem.Str.ofString "code") 612), (PySem.Value.str (PySem.Str.ofString "number") 613), (PySem.Value.str (PySem.Str.ofString "state") 614), (PySem.Value.str (PySem.Str.ofString "place") 615), (PySem.Value.str (PySem.Str.ofString "row") 616), (PySem.Value.str (PySem.Str.ofString "vectors") 617), (PySem.Value.str (PySem.Str.ofString "is_let") 618), (PySem.Value.str (PySem.Str.ofString "told") 619)]) 0) (List.toArray []))) ::
  ((nat_lit 311), (PySem.Obj.mk (PySem.Value.type "tuple") Option.none (PySem.Data.seq (List.toArray []) 0) (List.toArray []))) ::
  ((nat_lit 313), (PySem.Obj.mk (PySem.Value.type "code") Option.none (PySem.Data.fields (List.toArray [(PySem.Value.str (PySem.Str.ofString "_law_deed_right") 608), (PySem.Value.str (PySem.Str.ofString "_law_deed_right") 609), (PySem.Value.str (PySem.Str.ofString "/claim/cut.py") 610), (PySem.Value.int 162 0), (PySem.Value.int 3 0), (PySem.Value.int 0 0), (PySem.Value.int 0 0), (PySem.Value.int 3 0), (PySem.Value.ref 308), (PySem.Value.bool Bool.true), (PySem.Value.int 181 0), (PySem.Value.ref 309), PySem.Value.none, (PySem.Value.ref 310), (PySem.Value.ref 311), (PySem.Value.ref 312), (PySem.Value.int 620 0), (PySem.Value.int 162 0), (PySem.Value.str (PySem.Str.ofString "/claim/cut.py") 621)])) (List.toArray []))) ::
  ((nat_lit 314), (PySem.Obj.mk (PySem.Value.type "function") Option.none (PySem.Data.func (PySem.FuncData.mk (PySem.Str.ofString "_law_deed_right") (PySem.Str.ofString "_law_deed_right") a30 (PySem.FuncBody.stmts b30) c30 3 [] PySem.Value.none PySem.Value.none PySem.Value.none (PySem.Value.str (PySem.Str.ofString "law_xm0721_01") 562) Option.none (PySem.Value.ref 313) PySem.Value.none 0)) (List.toArray []))) ::
  ((nat_lit 315), (PySem.Obj.mk (PySem.Value.type "tuple") Option.none (PySem.Data.seq (List.toArray []) 0) (List.toArray []))) ::
  ((nat_lit 317), (PySem.Obj.mk (PySem.Value.type "tuple") Option.none (PySem.Data.seq (List.toArray [(PySem.Value.str (PySem.Str.ofString "work") 626), (PySem.Value.str (PySem.Str.ofString "code") 627)]) 0) (List.toArray []))) ::
  ((nat_lit 318), (PySem.Obj.mk (PySem.Value.type "tuple") Option.none (PySem.Data.seq (List.toArray []) 0) (List.toArray []))) ::
  ((nat_lit 320), (PySem.Obj.mk (PySem.Value.type "code") Option.none (PySem.Data.fields (List.toArray [(PySem.Value.str (PySem.Str.ofString "_law_is_refused") 623), (PySem.Value.str (PySem.Str.ofString "_law_is_refused") 624), (PySem.Value.str (PySem.Str.ofString "/claim/cut.py") 625), (PySem.Value.int 183 0), (PySem.Value.int 2 0), (PySem.Value.int 0 0), (PySem.Value.int 0 0), (PySem.Value.int 3 0), (PySem.Value.ref 315), (PySem.Value.bool Bool.true), (PySem.Value.int 181 0), (PySem.Value.ref 316), PySem.Value.none, (PySem.Value.ref 317), (PySem.Value.ref 318), (PySem.Value.ref 319), (PySem.Value.int 628 0), (PySem.Value.int 183 0), (PySem.Value.str (PySem.Str.ofString "/claim/cut.py") 629)])) (List.toArray []))) ::
  ((nat_lit 321), (PySem.Obj.mk (PySem.Value.type "function") Option.none (PySem.Data.func (PySem.FuncData.mk (PySem.Str.ofString "_law_is_refused") (PySem.Str.ofString "_law_is_refused") a31 (PySem.FuncBody.stmts b31) c31 3 [] PySem.Value.none PySem.Value.none PySem.Value.none (PySem.Value.str (PySem.Str.ofString "law_xm0721_01") 562) Option.none (PySem.Value.ref 320) PySem.Value.none 0)) (List.toArray []))) ::
  ((nat_lit 322), (PySem.Obj.mk (PySem.Value.type "tuple") Option.none (PySem.Data.seq (List.toArray []) 0) (List.toArray []))) ::
  ((nat_lit 324), (PySem.Obj.mk (PySem.Value.type "tuple") Option.none (PySem.Data.seq (List.toArray [(PySem.Value.str (PySem.Str.ofString "script") 634), (PySem.Value.str (PySem.Str.ofString "source") 635), (PySem.Value.str (PySem.Str.ofString "scale") 636), (PySem.Value.str (PySem.Str.ofString "work") 637), (PySem.Value.str (PySem.Str.ofString "turn") 638), (PySem.Value.str (PySem.Str.ofString "number") 639)]) 0) (List.toArray []))) ::
  ((nat_lit 325), (PySem.Obj.mk (PySem.Value.type "tuple") Option.none (PySem.Data.seq (List.toArray []) 0) (List.toArray []))) ::
  ((nat_lit 327), (PySem.Obj.mk (PySem.Value.type "code") Option.none (PySem.Data.fields (List.toArray [(PySem.Value.str (PySem.Str.ofString "law") 631), (PySem.Value.str (PySem.Str.ofString "law") 632), (PySem.Value.str (PySem.Str.ofString "/claim/cut.py") 633), (PySem.Value.int 189 0), (PySem.Value.int 1 0), (PySem.Value.int 0 0), (PySem.Value.int 0 0), (PySem.Value.int 3 0), (PySem.Value.ref 322), (PySem.Value.bool Bool.true), (PySem.Value.int 181 0), (PySem.Value.ref 323), PySem.Value.none, (PySem.Value.ref 324), (PySem.Value.ref 325), (PySem.Value.ref 326), (PySem.Value.int 640 0), (PySem.Value.int 189 0), (PySem.Value.str (PySem.Str.ofString "/claim/cut.py") 641)])) (List.toArray []))) ::
  ((nat_lit 328), (PySem.Obj.mk (PySem.Value.type "function") Option.none (PySem.Data.func (PySem.FuncData.mk (PySem.Str.ofString "law") (PySem.Str.ofString "law") a32 (PySem.FuncBody.stmts b32) c32 3 [] PySem.Value.none PySem.Value.none PySem.Value.none (PySem.Value.str (PySem.Str.ofString "law_xm0721_01") 562) Option.none (PySem.Value.ref 327) PySem.Value.none 0)) (List.toArray []))) :: [] : Params → Frag)) _ (by conv => lhs; whnf) _ (by conv => lhs; whnf) _ (by conv => lhs; whnf) _ (by conv => lhs; whnf) _ (by conv => lhs; whnf) _ (by conv => lhs; whnf) _ (by conv => lhs; whnf) _ (by conv => lhs; whnf) _ (by conv => lhs; whnf) _ (by conv => lhs; whnf) _ (by conv => lhs; whnf) _ (by conv => lhs; whnf) _ (by conv => lhs; whnf) _ (by conv => lhs; whnf) _ (by conv => lhs; whnf) _ (by conv => lhs; whnf) _ (by conv => lhs; whnf) _ (by conv => lhs; whnf) _ (by conv => lhs; whnf) _ (by conv => lhs; whnf) _ (by conv => lhs; whnf) _ (by conv => lhs; whnf) _ (by conv => lhs; whnf) _ (by conv => lhs; whnf) _ (by conv => lhs; whnf) _ (by conv => lhs; whnf) _ (by conv => lhs; whnf) _ (by conv => lhs; whnf) _ (by conv => lhs; whnf) _ (by conv => lhs; whnf) _ (by conv => lhs; whnf) _ (by conv => lhs; whnf) _ (by conv => lhs; whnf) _ (by conv => lhs; whnf) _ (by conv => lhs; whnf) _ (by conv => lhs; whnf) _ (by conv => lhs; whnf) _ (by conv => lhs; whnf) _ (by conv => lhs; whnf) _ (by conv => lhs; whnf) _ (by conv => lhs; whnf) _ (by conv => lhs; whnf) _ (by conv => lhs; whnf) _ (by conv => lhs; whnf) _ (by conv => lhs; whnf) _ (by conv => lhs; whnf) _ (by conv => lhs; whnf) _ (by conv => lhs; whnf) _ (by conv => lhs; whnf) _ (by conv => lhs; whnf) _ (by conv => lhs; whnf) _ (by conv => lhs; whnf) _ (by conv => lhs; whnf) _ (by conv => lhs; whnf) _ (by conv => lhs; whnf) _ (by conv => lhs; whnf) _ (by conv => lhs; whnf) _ (by conv => lhs; whnf) _ (by conv => lhs; whnf) _ (by conv => lhs; whnf) _ (by conv => lhs; whnf) _ (by conv => lhs; whnf) _ (by conv => lhs; whnf) _ (by conv => lhs; whnf) _ (by conv => lhs; whnf) _ (by conv => lhs; whnf) _ (by conv => lhs; whnf) _ (by conv => lhs; whnf) _ (by conv => lhs; whnf) _ (by conv => lhs; whnf) _ (by conv => lhs; whnf) _ (by conv => lhs; whnf) _ (by conv => lhs; whnf) _ (by conv => lhs; whnf) _ (by conv => lhs; whnf) _ (by conv => lhs; whnf) _ (by conv => lhs; whnf) _ (by conv => lhs; whnf) _ (by conv => lhs; whnf) _ (by conv => lhs; whnf) _ (by conv => lhs; whnf) _ (by conv => lhs; whnf) _ (by conv => lhs; whnf) _ (by conv => lhs; whnf) _ (by conv => lhs; whnf) _ (by conv => lhs; whnf) _ (by conv => lhs; whnf) _ (by conv => lhs; whnf) _ (by conv => lhs; whnf) _ (by conv => lhs; whnf) _ (by conv => lhs; whnf) _ (by conv => lhs; whnf) _ (by conv => lhs; whnf) _ (by conv => lhs; whnf) _ (by conv => lhs; whnf) _ (by conv => lhs; whnf) _ (by conv => lhs; whnf) _ (by conv => lhs; whnf) _ (by conv => lhs; whnf)

noncomputable def view_39 : Program := (fun (s0 : Stmt) (_ : cell (PySem.Program.main PySem.Challenge.pw_xm0721_01).body 0 = s0) (s2 : Stmt) (_ : cell (PySem.Program.main PySem.Challenge.pw_xm0721_01).body 2 = s2) (s3 : Stmt) (_ : cell (PySem.Program.main PySem.Challenge.pw_xm0721_01).body 3 = s3) (s5 : Stmt) (_ : cell (PySem.Program.main PySem.Challenge.pw_xm0721_01).body 5 = s5) (s6 : Stmt) (_ : cell (PySem.Program.main PySem.Challenge.pw_xm0721_01).body 6 = s6) (s7 : Stmt) (_ : cell (PySem.Program.main PySem.Challenge.pw_xm0721_01).body 7 = s7) (s9 : Stmt) (_ : cell (PySem.Program.main PySem.Challenge.pw_xm0721_01).body 9 = s9) (s11 : Stmt) (_ : cell (PySem.Program.main PySem.Challenge.pw_xm0721_01).body 11 = s11) (s12 : Stmt) (_ : cell (PySem.Program.main PySem.Challenge.pw_xm0721_01).body 12 = s12) (s14 : Stmt) (_ : cell (PySem.Program.main PySem.Challenge.pw_xm0721_01).body 14 = s14) (s16 : Stmt) (_ : cell (PySem.Program.main PySem.Challenge.pw_xm0721_01).body 16 = s16) (s17 : Stmt) (_ : cell (PySem.Program.main PySem.Challenge.pw_xm0721_01).body 17 = s17) (s19 : Stmt) (_ : cell (PySem.Program.main PySem.Challenge.pw_xm0721_01).body 19 = s19) (s20 : Stmt) (_ : cell (PySem.Program.main PySem.Challenge.pw_xm0721_01).body 20 = s20) (s21 : Stmt) (_ : cell (PySem.Program.main PySem.Challenge.pw_xm0721_01).body 21 = s21) (s22 : Stmt) (_ : cell (PySem.Program.main PySem.Challenge.pw_xm0721_01).body 22 = s22) (s23 : Stmt) (_ : cell (PySem.Program.main PySem.Challenge.pw_xm0721_01).body 23 = s23) (s24 : Stmt) (_ : cell (PySem.Program.main PySem.Challenge.pw_xm0721_01).body 24 = s24) (s25 : Stmt) (_ : cell (PySem.Program.main PySem.Challenge.pw_xm0721_01).body 25 = s25) (s26 : Stmt) (_ : cell (PySem.Program.main PySem.Challenge.pw_xm0721_01).body 26 = s26) => ({ PySem.Challenge.pw_xm0721_01 with main := { (PySem.Program.main PySem.Challenge.pw_xm0721_01) with body := [s0, s2, s3, s5, s6, s7, s9, s11, s12, s14, s16, s17, s19, s20, s21, s22, s23, s24, s25, s26] } } : Program)) _ (by conv => lhs; whnf) _ (by conv => lhs; whnf) _ (by conv => lhs; whnf) _ (by conv => lhs; whnf) _ (by conv => lhs; whnf) _ (by conv => lhs; whnf) _ (by conv => lhs; whnf) _ (by conv => lhs; whnf) _ (by conv => lhs; whnf) _ (by conv => lhs; whnf) _ (by conv => lhs; whnf) _ (by conv => lhs; whnf) _ (by conv => lhs; whnf) _ (by conv => lhs; whnf) _ (by conv => lhs; whnf) _ (by conv => lhs; whnf) _ (by conv => lhs; whnf) _ (by conv => lhs; whnf) _ (by conv => lhs; whnf) _ (by conv => lhs; whnf)

noncomputable abbrev HH := kHook heap_39 [2, 3, 15, 17, 18, 20, 21, 22, 29, 31, 32, 34, 35, 36, 37, 38, 39, 42, 49, 50, 51, 54, 56, 57, 59, 60, 61, 63, 64, 66, 67, 68, 70, 71, 73, 74, 82, 84, 85, 87, 88, 89, 91, 92, 94, 95, 96, 97, 98, 99, 100, 103, 105, 106, 108, 109, 117, 119, 120, 122, 123, 124, 126, 127, 129, 130, 131, 133, 134, 136, 137, 138, 140, 141, 143, 144, 145, 147, 148, 150, 151, 152, 153, 154, 155, 156, 166, 168, 169, 171, 172, 173, 175, 176, 178, 179, 180, 182, 183, 185, 186, 187, 189, 190, 192, 193, 194, 196, 197, 199, 200, 201, 203, 204, 206, 207, 208, 210, 211, 213, 214, 215, 216, 217, 218, 219, 229, 230, 231, 233, 234, 236, 237, 238, 240, 241, 243, 244, 245, 247, 248, 250, 251, 252, 254, 255, 257, 258, 259, 261, 262, 264, 265, 266, 267, 268, 269, 270, 273, 275, 276, 278, 279, 280, 282, 283, 285, 286, 287, 289, 290, 292, 293, 294, 296, 297, 299, 300, 301, 303, 304, 306, 307, 308, 310, 311, 313, 314, 315, 317, 318, 320, 321, 322, 324, 325, 327, 328] (fun _ => by kernel_rfl)
def kpo : Frag → Nat → Obj
  | [], _ => default
  | (b, o) :: r, a => match Nat.beq b a with
    | true => o
    | false => kpo r a
noncomputable def mid : Params → List Obj := (fun (a0 : Arguments) (_ : dargs (cell (PySem.Program.main PySem.Challenge.pw_xm0721_01).body 0) = a0) (b0 : List Stmt) (_ : inner (cell (PySem.Program.main PySem.Challenge.pw_xm0721_01).body 0) = b0) (c0 : Scope) (_ : dscope (cell (PySem.Program.main PySem.Challenge.pw_xm0721_01).body 0) = c0) (a1 : Arguments) (_ : dargs (cell (inner (cell (PySem.Program.main PySem.Challenge.pw_xm0721_01).body 2)) 0) = a1) (b1 : List Stmt) (_ : inner (cell (inner (cell (PySem.Program.main PySem.Challenge.pw_xm0721_01).body 2)) 0) = b1) (c1 : Scope) (_ : dscope (cell (inner (cell (PySem.Program.main PySem.Challenge.pw_xm0721_01).body 2)) 0) = c1) (a2 : Arguments) (_ : dargs (cell (PySem.Program.main PySem.Challenge.pw_xm0721_01).body 6) = a2) (b2 : List Stmt) (_ : inner (cell (PySem.Program.main PySem.Challenge.pw_xm0721_01).body 6) = b2) (c2 : Scope) (_ : dscope (cell (PySem.Program.main PySem.Challenge.pw_xm0721_01).body 6) = c2) (a3 : Arguments) (_ : dargs (cell (PySem.Program.main PySem.Challenge.pw_xm0721_01).body 7) = a3) (b3 : List Stmt) (_ : inner (cell (PySem.Program.main PySem.Challenge.pw_xm0721_01).body 7) = b3) (c3 : Scope) (_ : dscope (cell (PySem.Program.main PySem.Challenge.pw_xm0721_01).body 7) = c3) (a4 : Arguments) (_ : dargs (cell (PySem.Program.main PySem.Challenge.pw_xm0721_01).body 9) = a4) (b4 : List Stmt) (_ : inner (cell (PySem.Program.main PySem.Challenge.pw_xm0721_01).body 9) = b4) (c4 : Scope) (_ : dscope (cell (PySem.Program.main PySem.Challenge.pw_xm0721_01).body 9) = c4) (a5 : Arguments) (_ : dargs (cell (inner (cell (PySem.Program.main PySem.Challenge.pw_xm0721_01).body 11)) 0) = a5) (b5 : List Stmt) (_ : inner (cell (inner (cell (PySem.Program.main PySem.Challenge.pw_xm0721_01).body 11)) 0) = b5) (c5 : Scope) (_ : dscope (cell (inner (cell (PySem.Program.main PySem.Challenge.pw_xm0721_01).body 11)) 0) = c5) (a6 : Arguments) (_ : dargs (cell (inner (cell (PySem.Program.main PySem.Challenge.pw_xm0721_01).body 11)) 1) = a6) (b6 : List Stmt) (_ : inner (cell (inner (cell (PySem.Program.main PySem.Challenge.pw_xm0721_01).body 11)) 1) = b6) (c6 : Scope) (_ : dscope (cell (inner (cell (PySem.Program.main PySem.Challenge.pw_xm0721_01).body 11)) 1) = c6) (a7 : Arguments) (_ : dargs (cell (PySem.Program.main PySem.Challenge.pw_xm0721_01).body 12) = a7) (b7 : List Stmt) (_ : inner (cell (PySem.Program.main PySem.Challenge.pw_xm0721_01).body 12) = b7) (c7 : Scope) (_ : dscope (cell (PySem.Program.main PySem.Challenge.pw_xm0721_01).body 12) = c7) (a8 : Arguments) (_ : dargs (cell (inner (cell (PySem.Program.main PySem.Challenge.pw_xm0721_01).body 14)) 0) = a8) (b8 : List Stmt) (_ : inner (cell (inner (cell (PySem.Program.main PySem.Challenge.pw_xm0721_01).body 14)) 0) = b8) (c8 : Scope) (_ : dscope (cell (inner (cell (PySem.Program.main PySem.Challenge.pw_xm0721_01).body 14)) 0) = c8) (a9 : Arguments) (_ : dargs (cell (inner (cell (PySem.Program.main PySem.Challenge.pw_xm0721_01).body 14)) 1) = a9) (b9 : List Stmt) (_ : inner (cell (inner (cell (PySem.Program.main PySem.Challenge.pw_xm0721_01).body 14)) 1) = b9) (c9 : Scope) (_ : dscope (cell (inner (cell (PySem.Program.main PySem.Challenge.pw_xm0721_01).body 14)) 1) = c9) (a10 : Arguments) (_ : dargs (cell (inner (cell (PySem.Program.main PySem.Challenge.pw_xm0721_01).body 14)) 2) = a10) (b10 : List Stmt) (_ : inner (cell (inner (cell (PySem.Program.main PySem.Challenge.pw_xm0721_01).body 14)) 2) = b10) (c10 : Scope) (_ : dscope (cell (inner (cell (PySem.Program.main PySem.Challenge.pw_xm0721_01).body 14)) 2) = c10) (a11 : Arguments) (_ : dargs (cell (inner (cell (PySem.Program.main PySem.Challenge.pw_xm0721_01).body 14)) 3) = a11) (b11 : List Stmt) (_ : inner (cell (inner (cell (PySem.Program.main PySem.Challenge.pw_xm0721_01).body 14)) 3) = b11) (c11 : Scope) (_ : dscope (cell (inner (cell (PySem.Program.main PySem.Challenge.pw_xm0721_01).body 14)) 3) = c11) (a12 : Arguments) (_ : dargs (cell (inner (cell (PySem.Program.main PySem.Challenge.pw_xm0721_01).body 14)) 4) = a12) (b12 : List Stmt) (_ : inner (cell (inner (cell (PySem.Program.main PySem.Challenge.pw_xm0721_01).body 14)) 4) = b12) (c12 : Scope) (_ : dscope (cell (inner (cell (PySem.Program.main PySem.Challenge.pw_xm0721_01).body 14)) 4) = c12) => (fun P : Params =>
  PySem.W.boot_o_0 P ::
  PySem.W.boot_o_1 P ::
  kpo (heap_39 P) 2 ::
  (PySem.Obj.mk (PySem.Value.type "dict") Option.none (PySem.Data.dict (List.toArray [(PySem.DictEntry.mk (PySem.PyData.keyHash P (PySem.Str.ofString "__name__")) (PySem.Value.str (PySem.Str.ofString "__name__") 165) (PySem.Value.str (PySem.Str.ofString "outlinemill.hint_work") 408)), (PySem.DictEntry.mk (PySem.PyData.keyHash P (PySem.Str.ofString "__doc__")) (PySem.Value.str (PySem.Str.ofString "__doc__") 166) PySem.Value.none), (PySem.DictEntry.mk (PySem.PyData.keyHash P (PySem.Str.ofString "__package__")) (PySem.Value.str (PySem.Str.ofString "__package__") 167) PySem.Value.none), (PySem.DictEntry.mk (PySem.PyData.keyHash P (PySem.Str.ofString "__loader__")) (PySem.Value.str (PySem.Str.ofString "__loader__") 168) (PySem.Value.builtin "__main__.__loader__#opaque")), (PySem.DictEntry.mk (PySem.PyData.keyHash P (PySem.Str.ofString "__spec__")) (PySem.Value.str (PySem.Str.ofString "__spec__") 169) PySem.Value.none), (PySem.DictEntry.mk (PySem.PyData.keyHash P (PySem.Str.ofString "__annotations__")) (PySem.Value.str (PySem.Str.ofString "__annotations__") 170) (PySem.Value.ref 6)), (PySem.DictEntry.mk (PySem.PyData.keyHash P (PySem.Str.ofString "__builtins__")) (PySem.Value.str (PySem.Str.ofString "__builtins__") 171) (PySem.Value.ref 4)), (PySem.DictEntry.mk (PySem.PyData.keyHash P (PySem.Str.ofString "__file__")) (PySem.Value.str (PySem.Str.ofString "__file__") 173) (PySem.Value.str (PySem.Str.ofString "/claim/cut.py") 172)), (PySem.DictEntry.mk (PySem.PyData.keyHash P (PySem.Str.ofString "__cached__")) (PySem.Value.str (PySem.Str.ofString "__cached__") 174) PySem.Value.none), (PySem.DictEntry.mk (PySem.PyData.keyHash P (PySem.Str.ofString "_wall")) (PySem.Value.str (PySem.Str.ofString "_wall") 193) (PySem.Value.ref 21)), (PySem.DictEntry.mk (PySem.PyData.keyHash P (PySem.Str.ofString "MillError")) (PySem.Value.str (PySem.Str.ofString "MillError") 224) (PySem.Value.ref 38)), (PySem.DictEntry.mk (PySem.PyData.keyHash P (PySem.Str.ofString "HintFault")) (PySem.Value.str (PySem.Str.ofString "HintFault") 240) (PySem.Value.ref 51)), (PySem.DictEntry.mk (PySem.PyData.keyHash P (PySem.Str.ofString "ONE14")) (PySem.Value.str (PySem.Str.ofString "ONE14") 244) (PySem.Value.int 16384 243)), (PySem.DictEntry.mk (PySem.PyData.keyHash P (PySem.Str.ofString "muldiv")) (PySem.Value.str (PySem.Str.ofString "muldiv") 254) (PySem.Value.ref 60)), (PySem.DictEntry.mk (PySem.PyData.keyHash P (PySem.Str.ofString "wrap32")) (PySem.Value.str (PySem.Str.ofString "wrap32") 261) (PySem.Value.ref 67)), (PySem.DictEntry.mk (PySem.PyData.keyHash P (PySem.Str.ofString "do_distance")) (PySem.Value.str (PySem.Str.ofString "do_distance") 273) (PySem.Value.ref 74)), (PySem.DictEntry.mk (PySem.PyData.keyHash P (PySem.Str.ofString "Rounding")) (PySem.Value.str (PySem.Str.ofString "Rounding") 315) (PySem.Value.ref 98)), (PySem.DictEntry.mk (PySem.PyData.keyHash P (PySem.Str.ofString "named")) (PySem.Value.str (PySem.Str.ofString "named") 326) (PySem.Value.ref 109)), (PySem.DictEntry.mk (PySem.PyData.keyHash P (PySem.Str.ofString "GraphicsState")) (PySem.Value.str (PySem.Str.ofString "GraphicsState") 407) (PySem.Value.ref 154))]) 19) (List.toArray [])) ::
  PySem.W.boot_o_4 P ::
  PySem.W.boot_o_5 P ::
  PySem.W.boot_o_6 P ::
  PySem.W.boot_o_7 P ::
  PySem.W.boot_o_8 P ::
  PySem.W.boot_o_9 P ::
  PySem.W.boot_o_10 P ::
  (PySem.Obj.mk (PySem.Value.type "tuple") Option.none (PySem.Data.seq (List.toArray []) 0) (List.toArray [])) ::
  (PySem.Obj.mk PySem.Value.none Option.none (PySem.Data.fields (List.toArray [(PySem.Value.int 1 0), (PySem.Value.int 0 0), (PySem.Value.ref 20), (PySem.Value.int 5 0), (PySem.Value.int 0 0), (PySem.Value.ref 27), (PySem.Value.int 9 0), (PySem.Value.int 0 0), (PySem.Value.ref 47), (PySem.Value.int 13 0), (PySem.Value.int 0 0), (PySem.Value.ref 59), (PySem.Value.int 20 0), (PySem.Value.int 0 0), (PySem.Value.ref 66), (PySem.Value.int 23 0), (PySem.Value.int 0 0), (PySem.Value.ref 73), (PySem.Value.int 40 0), (PySem.Value.int 0 0), (PySem.Value.ref 80), (PySem.Value.int 49 0), (PySem.Value.int 0 0), (PySem.Value.ref 108), (PySem.Value.int 56 0), (PySem.Value.int 0 0), (PySem.Value.ref 115)])) (List.toArray [])) ::
  (PySem.Obj.mk (PySem.Value.type "code") Option.none (PySem.Data.fields (List.toArray [(PySem.Value.str (PySem.Str.ofString "<module>") 182), (PySem.Value.str (PySem.Str.ofString "<module>") 183), (PySem.Value.str (PySem.Str.ofString "/claim/cut.py") 184), (PySem.Value.int 1 0), (PySem.Value.int 0 0), (PySem.Value.int 0 0), (PySem.Value.int 0 0), (PySem.Value.int 0 0), (PySem.Value.ref 11), (PySem.Value.bool Bool.false), (PySem.Value.int 181 0), (PySem.Value.ref 12), PySem.Value.none, PySem.Value.none, PySem.Value.none, PySem.Value.none, (PySem.Value.int 185 0), (PySem.Value.int 1 0), (PySem.Value.str (PySem.Str.ofString "/claim/cut.py") 186)])) (List.toArray [])) ::
  (PySem.Obj.mk (PySem.Value.type "frame") Option.none PySem.Data.plain (List.toArray [(Option.some (PySem.Value.ref 13)), (Option.some (PySem.Value.ref 3)), (Option.some (PySem.Value.ref 3)), Option.none, (Option.some (PySem.Value.str (PySem.Str.ofString "__main__") 164)), Option.none, (Option.some (PySem.Value.ref 0))])) ::
  kpo (heap_39 P) 15 ::
  (PySem.Obj.mk PySem.Value.none Option.none (PySem.Data.fields (List.toArray [])) (List.toArray [])) ::
  kpo (heap_39 P) 17 ::
  kpo (heap_39 P) 18 ::
  (PySem.Obj.mk PySem.Value.none Option.none (PySem.Data.func (PySem.FuncData.mk (PySem.Str.ofString "_wall") (PySem.Str.ofString "_wall") a0 (PySem.FuncBody.stmts b0) c0 0 [] PySem.Value.none PySem.Value.none PySem.Value.none PySem.Value.none Option.none PySem.Value.none PySem.Value.none 0)) (List.toArray [])) ::
  kpo (heap_39 P) 20 ::
  kpo (heap_39 P) 21 ::
  kpo (heap_39 P) 22 ::
  (PySem.Obj.mk (PySem.Value.type "builtin_function_or_method") Option.none (PySem.Data.fields (List.toArray [(PySem.Value.builtin "type.__prepare__"), (PySem.Value.type "type")])) (List.toArray [])) ::
  (PySem.Obj.mk (PySem.Value.type "dict") Option.none (PySem.Data.dict (List.toArray [(PySem.DictEntry.mk (PySem.PyData.keyHash P (PySem.Str.ofString "__module__")) (PySem.Value.str (PySem.Str.ofString "__module__") 203) (PySem.Value.str (PySem.Str.ofString "outlinemill.errors") 194)), (PySem.DictEntry.mk (PySem.PyData.keyHash P (PySem.Str.ofString "__qualname__")) (PySem.Value.str (PySem.Str.ofString "__qualname__") 205) (PySem.Value.str (PySem.Str.ofString "MillError") 204)), (PySem.DictEntry.mk (PySem.PyData.keyHash P (PySem.Str.ofString "__firstlineno__")) (PySem.Value.str (PySem.Str.ofString "__firstlineno__") 207) (PySem.Value.int 5 206)), (PySem.DictEntry.mk (PySem.PyData.keyHash P (PySem.Str.ofString "__init__")) (PySem.Value.str (PySem.Str.ofString "__init__") 215) (PySem.Value.ref 35)), (PySem.DictEntry.mk (PySem.PyData.keyHash P (PySem.Str.ofString "__static_attributes__")) (PySem.Value.str (PySem.Str.ofString "__static_attributes__") 217) (PySem.Value.ref 36))]) 5) (List.toArray [])) ::
  (PySem.Obj.mk (PySem.Value.type "tuple") Option.none (PySem.Data.seq (List.toArray []) 0) (List.toArray [])) ::
  (PySem.Obj.mk PySem.Value.none Option.none (PySem.Data.fields (List.toArray [(PySem.Value.int 7 0), (PySem.Value.int 4 0), (PySem.Value.ref 34)])) (List.toArray [])) ::
  (PySem.Obj.mk (PySem.Value.type "code") Option.none (PySem.Data.fields (List.toArray [(PySem.Value.str (PySem.Str.ofString "MillError") 198), (PySem.Value.str (PySem.Str.ofString "MillError") 199), (PySem.Value.str (PySem.Str.ofString "/claim/cut.py") 200), (PySem.Value.int 5 0), (PySem.Value.int 0 0), (PySem.Value.int 0 0), (PySem.Value.int 0 0), (PySem.Value.int 0 0), (PySem.Value.ref 25), (PySem.Value.bool Bool.false), (PySem.Value.int 181 0), (PySem.Value.ref 26), PySem.Value.none, PySem.Value.none, PySem.Value.none, PySem.Value.none, (PySem.Value.int 201 0), (PySem.Value.int 5 0), (PySem.Value.str (PySem.Str.ofString "/claim/cut.py") 202)])) (List.toArray [])) ::
  (PySem.Obj.mk (PySem.Value.type "frame") Option.none PySem.Data.plain (List.toArray [(Option.some (PySem.Value.ref 27)), (Option.some (PySem.Value.ref 3)), (Option.some (PySem.Value.ref 24)), Option.none, (Option.some (PySem.Value.str (PySem.Str.ofString "outlinemill.errors") 194)), Option.none, (Option.some (PySem.Value.ref 0))])) ::
  kpo (heap_39 P) 29 ::
  (PySem.Obj.mk PySem.Value.none Option.none (PySem.Data.fields (List.toArray [])) (List.toArray [])) ::
  kpo (heap_39 P) 31 ::
  kpo (heap_39 P) 32 ::
  (PySem.Obj.mk PySem.Value.none Option.none (PySem.Data.func (PySem.FuncData.mk (PySem.Str.ofString "__init__") (PySem.Str.ofString "MillError.__init__") a1 (PySem.FuncBody.stmts b1) c1 0 [] PySem.Value.none PySem.Value.none PySem.Value.none PySem.Value.none Option.none PySem.Value.none PySem.Value.none 0)) (List.toArray [])) ::
  kpo (heap_39 P) 34 ::
  kpo (heap_39 P) 35 ::
  kpo (heap_39 P) 36 ::
  kpo (heap_39 P) 37 ::
  kpo (heap_39 P) 38 ::
  kpo (heap_39 P) 39 ::
  (PySem.Obj.mk (PySem.Value.type "super") Option.none (PySem.Data.fields (List.toArray [(PySem.Value.ref 38), (PySem.Value.ref 38), (PySem.Value.ref 38)])) (List.toArray [])) ::
  (PySem.Obj.mk (PySem.Value.type "builtin_function_or_method") Option.none (PySem.Data.fields (List.toArray [(PySem.Value.builtin "object.__init_subclass__"), (PySem.Value.ref 38)])) (List.toArray [])) ::
  kpo (heap_39 P) 42 ::
  (PySem.Obj.mk (PySem.Value.type "builtin_function_or_method") Option.none (PySem.Data.fields (List.toArray [(PySem.Value.builtin "type.__prepare__"), (PySem.Value.type "type")])) (List.toArray [])) ::
  (PySem.Obj.mk (PySem.Value.type "dict") Option.none (PySem.Data.dict (List.toArray [(PySem.DictEntry.mk (PySem.PyData.keyHash P (PySem.Str.ofString "__module__")) (PySem.Value.str (PySem.Str.ofString "__module__") 232) (PySem.Value.str (PySem.Str.ofString "outlinemill.errors") 194)), (PySem.DictEntry.mk (PySem.PyData.keyHash P (PySem.Str.ofString "__qualname__")) (PySem.Value.str (PySem.Str.ofString "__qualname__") 234) (PySem.Value.str (PySem.Str.ofString "HintFault") 233)), (PySem.DictEntry.mk (PySem.PyData.keyHash P (PySem.Str.ofString "__firstlineno__")) (PySem.Value.str (PySem.Str.ofString "__firstlineno__") 236) (PySem.Value.int 9 235)), (PySem.DictEntry.mk (PySem.PyData.keyHash P (PySem.Str.ofString "__static_attributes__")) (PySem.Value.str (PySem.Str.ofString "__static_attributes__") 237) (PySem.Value.ref 49))]) 4) (List.toArray [])) ::
  (PySem.Obj.mk (PySem.Value.type "tuple") Option.none (PySem.Data.seq (List.toArray []) 0) (List.toArray [])) ::
  (PySem.Obj.mk PySem.Value.none Option.none (PySem.Data.fields (List.toArray [])) (List.toArray [])) ::
  (PySem.Obj.mk (PySem.Value.type "code") Option.none (PySem.Data.fields (List.toArray [(PySem.Value.str (PySem.Str.ofString "HintFault") 227), (PySem.Value.str (PySem.Str.ofString "HintFault") 228), (PySem.Value.str (PySem.Str.ofString "/claim/cut.py") 229), (PySem.Value.int 9 0), (PySem.Value.int 0 0), (PySem.Value.int 0 0), (PySem.Value.int 0 0), (PySem.Value.int 0 0), (PySem.Value.ref 45), (PySem.Value.bool Bool.false), (PySem.Value.int 181 0), (PySem.Value.ref 46), PySem.Value.none, PySem.Value.none, PySem.Value.none, PySem.Value.none, (PySem.Value.int 230 0), (PySem.Value.int 9 0), (PySem.Value.str (PySem.Str.ofString "/claim/cut.py") 231)])) (List.toArray [])) ::
  (PySem.Obj.mk (PySem.Value.type "frame") Option.none PySem.Data.plain (List.toArray [(Option.some (PySem.Value.ref 47)), (Option.some (PySem.Value.ref 3)), (Option.some (PySem.Value.ref 44)), Option.none, (Option.some (PySem.Value.str (PySem.Str.ofString "outlinemill.errors") 194)), Option.none, (Option.some (PySem.Value.ref 0))])) ::
  kpo (heap_39 P) 49 ::
  kpo (heap_39 P) 50 ::
  kpo (heap_39 P) 51 ::
  (PySem.Obj.mk (PySem.Value.type "super") Option.none (PySem.Data.fields (List.toArray [(PySem.Value.ref 51), (PySem.Value.ref 51), (PySem.Value.ref 51)])) (List.toArray [])) ::
  (PySem.Obj.mk (PySem.Value.type "builtin_function_or_method") Option.none (PySem.Data.fields (List.toArray [(PySem.Value.builtin "object.__init_subclass__"), (PySem.Value.ref 51)])) (List.toArray [])) ::
  kpo (heap_39 P) 54 ::
  (PySem.Obj.mk PySem.Value.none Option.none (PySem.Data.fields (List.toArray [])) (List.toArray [])) ::
  kpo (heap_39 P) 56 ::
  kpo (heap_39 P) 57 ::
  (PySem.Obj.mk PySem.Value.none Option.none (PySem.Data.func (PySem.FuncData.mk (PySem.Str.ofString "muldiv") (PySem.Str.ofString "muldiv") a2 (PySem.FuncBody.stmts b2) c2 0 [] PySem.Value.none PySem.Value.none PySem.Value.none PySem.Value.none Option.none PySem.Value.none PySem.Value.none 0)) (List.toArray [])) ::
  kpo (heap_39 P) 59 ::
  kpo (heap_39 P) 60 ::
  kpo (heap_39 P) 61 ::
  (PySem.Obj.mk PySem.Value.none Option.none (PySem.Data.fields (List.toArray [])) (List.toArray [])) ::
  kpo (heap_39 P) 63 ::
  kpo (heap_39 P) 64 ::
  (PySem.Obj.mk PySem.Value.none Option.none (PySem.Data.func (PySem.FuncData.mk (PySem.Str.ofString "wrap32") (PySem.Str.ofString "wrap32") a3 (PySem.FuncBody.stmts b3) c3 0 [] PySem.Value.none PySem.Value.none PySem.Value.none PySem.Value.none Option.none PySem.Value.none PySem.Value.none 0)) (List.toArray [])) ::
  kpo (heap_39 P) 66 ::
  kpo (heap_39 P) 67 ::
  kpo (heap_39 P) 68 ::
  (PySem.Obj.mk PySem.Value.none Option.none (PySem.Data.fields (List.toArray [])) (List.toArray [])) ::
  kpo (heap_39 P) 70 ::
  kpo (heap_39 P) 71 ::
  (PySem.Obj.mk PySem.Value.none Option.none (PySem.Data.func (PySem.FuncData.mk (PySem.Str.ofString "do_distance") (PySem.Str.ofString "do_distance") a4 (PySem.FuncBody.stmts b4) c4 0 [] PySem.Value.none PySem.Value.none PySem.Value.none PySem.Value.none Option.none PySem.Value.none PySem.Value.none 0)) (List.toArray [])) ::
  kpo (heap_39 P) 73 ::
  kpo (heap_39 P) 74 ::
  (PySem.Obj.mk (PySem.Value.type "tuple") Option.none (PySem.Data.seq (List.toArray []) 0) (List.toArray [])) ::
  (PySem.Obj.mk (PySem.Value.type "builtin_function_or_method") Option.none (PySem.Data.fields (List.toArray [(PySem.Value.builtin "type.__prepare__"), (PySem.Value.type "type")])) (List.toArray [])) ::
  (PySem.Obj.mk (PySem.Value.type "dict") Option.none (PySem.Data.dict (List.toArray [(PySem.DictEntry.mk (PySem.PyData.keyHash P (PySem.Str.ofString "__module__")) (PySem.Value.str (PySem.Str.ofString "__module__") 283) (PySem.Value.str (PySem.Str.ofString "outlinemill.hint_rounds") 274)), (PySem.DictEntry.mk (PySem.PyData.keyHash P (PySem.Str.ofString "__qualname__")) (PySem.Value.str (PySem.Str.ofString "__qualname__") 285) (PySem.Value.str (PySem.Str.ofString "Rounding") 284)), (PySem.DictEntry.mk (PySem.PyData.keyHash P (PySem.Str.ofString "__firstlineno__")) (PySem.Value.str (PySem.Str.ofString "__firstlineno__") 287) (PySem.Value.int 40 286)), (PySem.DictEntry.mk (PySem.PyData.keyHash P (PySem.Str.ofString "__init__")) (PySem.Value.str (PySem.Str.ofString "__init__") 297) (PySem.Value.ref 88)), (PySem.DictEntry.mk (PySem.PyData.keyHash P (PySem.Str.ofString "row")) (PySem.Value.str (PySem.Str.ofString "row") 304) (PySem.Value.ref 95)), (PySem.DictEntry.mk (PySem.PyData.keyHash P (PySem.Str.ofString "__static_attributes__")) (PySem.Value.str (PySem.Str.ofString "__static_attributes__") 308) (PySem.Value.ref 96))]) 6) (List.toArray [])) ::
  (PySem.Obj.mk (PySem.Value.type "tuple") Option.none (PySem.Data.seq (List.toArray []) 0) (List.toArray [])) ::
  (PySem.Obj.mk PySem.Value.none Option.none (PySem.Data.fields (List.toArray [(PySem.Value.int 42 0), (PySem.Value.int 4 0), (PySem.Value.ref 87), (PySem.Value.int 47 0), (PySem.Value.int 4 0), (PySem.Value.ref 94)])) (List.toArray [])) ::
  (PySem.Obj.mk (PySem.Value.type "code") Option.none (PySem.Data.fields (List.toArray [(PySem.Value.str (PySem.Str.ofString "Rounding") 278), (PySem.Value.str (PySem.Str.ofString "Rounding") 279), (PySem.Value.str (PySem.Str.ofString "/claim/cut.py") 280), (PySem.Value.int 40 0), (PySem.Value.int 0 0), (PySem.Value.int 0 0), (PySem.Value.int 0 0), (PySem.Value.int 0 0), (PySem.Value.ref 78), (PySem.Value.bool Bool.false), (PySem.Value.int 181 0), (PySem.Value.ref 79), PySem.Value.none, PySem.Value.none, PySem.Value.none, PySem.Value.none, (PySem.Value.int 281 0), (PySem.Value.int 40 0), (PySem.Value.str (PySem.Str.ofString "/claim/cut.py") 282)])) (List.toArray [])) ::
  (PySem.Obj.mk (PySem.Value.type "frame") Option.none PySem.Data.plain (List.toArray [(Option.some (PySem.Value.ref 80)), (Option.some (PySem.Value.ref 3)), (Option.some (PySem.Value.ref 77)), Option.none, (Option.some (PySem.Value.str (PySem.Str.ofString "outlinemill.hint_rounds") 274)), Option.none, (Option.some (PySem.Value.ref 0))])) ::
  kpo (heap_39 P) 82 ::
  (PySem.Obj.mk PySem.Value.none Option.none (PySem.Data.fields (List.toArray [])) (List.toArray [])) ::
  kpo (heap_39 P) 84 ::
  kpo (heap_39 P) 85 ::
  (PySem.Obj.mk PySem.Value.none Option.none (PySem.Data.func (PySem.FuncData.mk (PySem.Str.ofString "__init__") (PySem.Str.ofString "Rounding.__init__") a5 (PySem.FuncBody.stmts b5) c5 0 [] PySem.Value.none PySem.Value.none PySem.Value.none PySem.Value.none Option.none PySem.Value.none PySem.Value.none 0)) (List.toArray [])) ::
  kpo (heap_39 P) 87 ::
  kpo (heap_39 P) 88 ::
  kpo (heap_39 P) 89 ::
  (PySem.Obj.mk PySem.Value.none Option.none (PySem.Data.fields (List.toArray [])) (List.toArray [])) ::
  kpo (heap_39 P) 91 ::
  kpo (heap_39 P) 92 ::
  (PySem.Obj.mk PySem.Value.none Option.none (PySem.Data.func (PySem.FuncData.mk (PySem.Str.ofString "row") (PySem.Str.ofString "Rounding.row") a6 (PySem.FuncBody.stmts b6) c6 0 [] PySem.Value.none PySem.Value.none PySem.Value.none PySem.Value.none Option.none PySem.Value.none PySem.Value.none 0)) (List.toArray [])) ::
  kpo (heap_39 P) 94 ::
  kpo (heap_39 P) 95 ::
  kpo (heap_39 P) 96 ::
  kpo (heap_39 P) 97 ::
  kpo (heap_39 P) 98 ::
  kpo (heap_39 P) 99 ::
  kpo (heap_39 P) 100 ::
  (PySem.Obj.mk (PySem.Value.type "super") Option.none (PySem.Data.fields (List.toArray [(PySem.Value.ref 98), (PySem.Value.ref 98), (PySem.Value.ref 98)])) (List.toArray [])) ::
  (PySem.Obj.mk (PySem.Value.type "builtin_function_or_method") Option.none (PySem.Data.fields (List.toArray [(PySem.Value.builtin "object.__init_subclass__"), (PySem.Value.ref 98)])) (List.toArray [])) ::
  kpo (heap_39 P) 103 ::
  (PySem.Obj.mk PySem.Value.none Option.none (PySem.Data.fields (List.toArray [])) (List.toArray [])) ::
  kpo (heap_39 P) 105 ::
  kpo (heap_39 P) 106 ::
  (PySem.Obj.mk PySem.Value.none Option.none (PySem.Data.func (PySem.FuncData.mk (PySem.Str.ofString "named") (PySem.Str.ofString "named") a7 (PySem.FuncBody.stmts b7) c7 0 [] PySem.Value.none PySem.Value.none PySem.Value.none PySem.Value.none Option.none PySem.Value.none PySem.Value.none 0)) (List.toArray [])) ::
  kpo (heap_39 P) 108 ::
  kpo (heap_39 P) 109 ::
  (PySem.Obj.mk (PySem.Value.type "tuple") Option.none (PySem.Data.seq (List.toArray []) 0) (List.toArray [])) ::
  (PySem.Obj.mk (PySem.Value.type "builtin_function_or_method") Option.none (PySem.Data.fields (List.toArray [(PySem.Value.builtin "type.__prepare__"), (PySem.Value.type "type")])) (List.toArray [])) ::
  (PySem.Obj.mk (PySem.Value.type "dict") Option.none (PySem.Data.dict (List.toArray [(PySem.DictEntry.mk (PySem.PyData.keyHash P (PySem.Str.ofString "__module__")) (PySem.Value.str (PySem.Str.ofString "__module__") 336) (PySem.Value.str (PySem.Str.ofString "outlinemill.hint_state") 327)), (PySem.DictEntry.mk (PySem.PyData.keyHash P (PySem.Str.ofString "__qualname__")) (PySem.Value.str (PySem.Str.ofString "__qualname__") 338) (PySem.Value.str (PySem.Str.ofString "GraphicsState") 337)), (PySem.DictEntry.mk (PySem.PyData.keyHash P (PySem.Str.ofString "__firstlineno__")) (PySem.Value.str (PySem.Str.ofString "__firstlineno__") 340) (PySem.Value.int 56 339)), (PySem.DictEntry.mk (PySem.PyData.keyHash P (PySem.Str.ofString "__init__")) (PySem.Value.str (PySem.Str.ofString "__init__") 347) (PySem.Value.ref 123)), (PySem.DictEntry.mk (PySem.PyData.keyHash P (PySem.Str.ofString "free_dot")) (PySem.Value.str (PySem.Str.ofString "free_dot") 354) (PySem.Value.ref 130)), (PySem.DictEntry.mk (PySem.PyData.keyHash P (PySem.Str.ofString "projected")) (PySem.Value.str (PySem.Str.ofString "projected") 363) (PySem.Value.ref 137)), (PySem.DictEntry.mk (PySem.PyData.keyHash P (PySem.Str.ofString "dual_projected")) (PySem.Value.str (PySem.Str.ofString "dual_projected") 372) (PySem.Value.ref 144)), (PySem.DictEntry.mk (PySem.PyData.keyHash P (PySem.Str.ofString "row")) (PySem.Value.str (PySem.Str.ofString "row") 381) (PySem.Value.ref 151)), (PySem.DictEntry.mk (PySem.PyData.keyHash P (PySem.Str.ofString "__static_attributes__")) (PySem.Value.str (PySem.Str.ofString "__static_attributes__") 400) (PySem.Value.ref 152))]) 9) (List.toArray [])) ::
  (PySem.Obj.mk (PySem.Value.type "tuple") Option.none (PySem.Data.seq (List.toArray []) 0) (List.toArray [])) ::
  (PySem.Obj.mk PySem.Value.none Option.none (PySem.Data.fields (List.toArray [(PySem.Value.int 58 0), (PySem.Value.int 4 0), (PySem.Value.ref 122), (PySem.Value.int 78 0), (PySem.Value.int 4 0), (PySem.Value.ref 129), (PySem.Value.int 81 0), (PySem.Value.int 4 0), (PySem.Value.ref 136), (PySem.Value.int 84 0), (PySem.Value.int 4 0), (PySem.Value.ref 143), (PySem.Value.int 87 0), (PySem.Value.int 4 0), (PySem.Value.ref 150)])) (List.toArray [])) ::
  (PySem.Obj.mk (PySem.Value.type "code") Option.none (PySem.Data.fields (List.toArray [(PySem.Value.str (PySem.Str.ofString "GraphicsState") 331), (PySem.Value.str (PySem.Str.ofString "GraphicsState") 332), (PySem.Value.str (PySem.Str.ofString "/claim/cut.py") 333), (PySem.Value.int 56 0), (PySem.Value.int 0 0), (PySem.Value.int 0 0), (PySem.Value.int 0 0), (PySem.Value.int 0 0), (PySem.Value.ref 113), (PySem.Value.bool Bool.false), (PySem.Value.int 181 0), (PySem.Value.ref 114), PySem.Value.none, PySem.Value.none, PySem.Value.none, PySem.Value.none, (PySem.Value.int 334 0), (PySem.Value.int 56 0), (PySem.Value.str (PySem.Str.ofString "/claim/cut.py") 335)])) (List.toArray [])) ::
  (PySem.Obj.mk (PySem.Value.type "frame") Option.none PySem.Data.plain (List.toArray [(Option.some (PySem.Value.ref 115)), (Option.some (PySem.Value.ref 3)), (Option.some (PySem.Value.ref 112)), Option.none, (Option.some (PySem.Value.str (PySem.Str.ofString "outlinemill.hint_state") 327)), Option.none, (Option.some (PySem.Value.ref 0))])) ::
  kpo (heap_39 P) 117 ::
  (PySem.Obj.mk PySem.Value.none Option.none (PySem.Data.fields (List.toArray [])) (List.toArray [])) ::
  kpo (heap_39 P) 119 ::
  kpo (heap_39 P) 120 ::
  (PySem.Obj.mk PySem.Value.none Option.none (PySem.Data.func (PySem.FuncData.mk (PySem.Str.ofString "__init__") (PySem.Str.ofString "GraphicsState.__init__") a8 (PySem.FuncBody.stmts b8) c8 0 [] PySem.Value.none PySem.Value.none PySem.Value.none PySem.Value.none Option.none PySem.Value.none PySem.Value.none 0)) (List.toArray [])) ::
  kpo (heap_39 P) 122 ::
  kpo (heap_39 P) 123 ::
  kpo (heap_39 P) 124 ::
  (PySem.Obj.mk PySem.Value.none Option.none (PySem.Data.fields (List.toArray [])) (List.toArray [])) ::
  kpo (heap_39 P) 126 ::
  kpo (heap_39 P) 127 ::
  (PySem.Obj.mk PySem.Value.none Option.none (PySem.Data.func (PySem.FuncData.mk (PySem.Str.ofString "free_dot") (PySem.Str.ofString "GraphicsState.free_dot") a9 (PySem.FuncBody.stmts b9) c9 0 [] PySem.Value.none PySem.Value.none PySem.Value.none PySem.Value.none Option.none PySem.Value.none PySem.Value.none 0)) (List.toArray [])) ::
  kpo (heap_39 P) 129 ::
  kpo (heap_39 P) 130 ::
  kpo (heap_39 P) 131 ::
  (PySem.Obj.mk PySem.Value.none Option.none (PySem.Data.fields (List.toArray [])) (List.toArray [])) ::
  kpo (heap_39 P) 133 ::
  kpo (heap_39 P) 134 ::
  (PySem.Obj.mk PySem.Value.none Option.none (PySem.Data.func (PySem.FuncData.mk (PySem.Str.ofString "projected") (PySem.Str.ofString "GraphicsState.projected") a10 (PySem.FuncBody.stmts b10) c10 0 [] PySem.Value.none PySem.Value.none PySem.Value.none PySem.Value.none Option.none PySem.Value.none PySem.Value.none 0)) (List.toArray [])) ::
  kpo (heap_39 P) 136 ::
  kpo (heap_39 P) 137 ::
  kpo (heap_39 P) 138 ::
  (PySem.Obj.mk PySem.Value.none Option.none (PySem.Data.fields (List.toArray [])) (List.toArray [])) ::
  kpo (heap_39 P) 140 ::
  kpo (heap_39 P) 141 ::
  (PySem.Obj.mk PySem.Value.none Option.none (PySem.Data.func (PySem.FuncData.mk (PySem.Str.ofString "dual_projected") (PySem.Str.ofString "GraphicsState.dual_projected") a11 (PySem.FuncBody.stmts b11) c11 0 [] PySem.Value.none PySem.Value.none PySem.Value.none PySem.Value.none Option.none PySem.Value.none PySem.Value.none 0)) (List.toArray [])) ::
  kpo (heap_39 P) 143 ::
  kpo (heap_39 P) 144 ::
  kpo (heap_39 P) 145 ::
  (PySem.Obj.mk PySem.Value.none Option.none (PySem.Data.fields (List.toArray [])) (List.toArray [])) ::
  kpo (heap_39 P) 147 ::
  kpo (heap_39 P) 148 ::
  (PySem.Obj.mk PySem.Value.none Option.none (PySem.Data.func (PySem.FuncData.mk (PySem.Str.ofString "row") (PySem.Str.ofString "GraphicsState.row") a12 (PySem.FuncBody.stmts b12) c12 0 [] PySem.Value.none PySem.Value.none PySem.Value.none PySem.Value.none Option.none PySem.Value.none PySem.Value.none 0)) (List.toArray [])) ::
  kpo (heap_39 P) 150 ::
  kpo (heap_39 P) 151 ::
  kpo (heap_39 P) 152 ::
  kpo (heap_39 P) 153 ::
  kpo (heap_39 P) 154 ::
  kpo (heap_39 P) 155 ::
  kpo (heap_39 P) 156 ::
  (PySem.Obj.mk (PySem.Value.type "super") Option.none (PySem.Data.fields (List.toArray [(PySem.Value.ref 154), (PySem.Value.ref 154), (PySem.Value.ref 154)])) (List.toArray [])) ::
  (PySem.Obj.mk (PySem.Value.type "builtin_function_or_method") Option.none (PySem.Data.fields (List.toArray [(PySem.Value.builtin "object.__init_subclass__"), (PySem.Value.ref 154)])) (List.toArray [])) :: [] : Params → List Obj)) _ (by conv => lhs; whnf) _ (by conv => lhs; whnf) _ (by conv => lhs; whnf) _ (by conv => lhs; whnf) _ (by conv => lhs; whnf) _ (by conv => lhs; whnf) _ (by conv => lhs; whnf) _ (by conv => lhs; whnf) _ (by conv => lhs; whnf) _ (by conv => lhs; whnf) _ (by conv => lhs; whnf) _ (by conv => lhs; whnf) _ (by conv => lhs; whnf) _ (by conv => lhs; whnf) _ (by conv => lhs; whnf) _ (by conv => lhs; whnf) _ (by conv => lhs; whnf) _ (by conv => lhs; whnf) _ (by conv => lhs; whnf) _ (by conv => lhs; whnf) _ (by conv => lhs; whnf) _ (by conv => lhs; whnf) _ (by conv => lhs; whnf) _ (by conv => lhs; whnf) _ (by conv => lhs; whnf) _ (by conv => lhs; whnf) _ (by conv => lhs; whnf) _ (by conv => lhs; whnf) _ (by conv => lhs; whnf) _ (by conv => lhs; whnf) _ (by conv => lhs; whnf) _ (by conv => lhs; whnf) _ (by conv => lhs; whnf) _ (by conv => lhs; whnf) _ (by conv => lhs; whnf) _ (by conv => lhs; whnf) _ (by conv => lhs; whnf) _ (by conv => lhs; whnf) _ (by conv => lhs; whnf)
noncomputable def fin : Params → List Obj := (fun (a0 : Arguments) (_ : dargs (cell (PySem.Program.main PySem.Challenge.pw_xm0721_01).body 0) = a0) (b0 : List Stmt) (_ : inner (cell (PySem.Program.main PySem.Challenge.pw_xm0721_01).body 0) = b0) (c0 : Scope) (_ : dscope (cell (PySem.Program.main PySem.Challenge.pw_xm0721_01).body 0) = c0) (a1 : Arguments) (_ : dargs (cell (inner (cell (PySem.Program.main PySem.Challenge.pw_xm0721_01).body 2)) 0) = a1) (b1 : List Stmt) (_ : inner (cell (inner (cell (PySem.Program.main PySem.Challenge.pw_xm0721_01).body 2)) 0) = b1) (c1 : Scope) (_ : dscope (cell (inner (cell (PySem.Program.main PySem.Challenge.pw_xm0721_01).body 2)) 0) = c1) (a2 : Arguments) (_ : dargs (cell (PySem.Program.main PySem.Challenge.pw_xm0721_01).body 6) = a2) (b2 : List Stmt) (_ : inner (cell (PySem.Program.main PySem.Challenge.pw_xm0721_01).body 6) = b2) (c2 : Scope) (_ : dscope (cell (PySem.Program.main PySem.Challenge.pw_xm0721_01).body 6) = c2) (a3 : Arguments) (_ : dargs (cell (PySem.Program.main PySem.Challenge.pw_xm0721_01).body 7) = a3) (b3 : List Stmt) (_ : inner (cell (PySem.Program.main PySem.Challenge.pw_xm0721_01).body 7) = b3) (c3 : Scope) (_ : dscope (cell (PySem.Program.main PySem.Challenge.pw_xm0721_01).body 7) = c3) (a4 : Arguments) (_ : dargs (cell (PySem.Program.main PySem.Challenge.pw_xm0721_01).body 9) = a4) (b4 : List Stmt) (_ : inner (cell (PySem.Program.main PySem.Challenge.pw_xm0721_01).body 9) = b4) (c4 : Scope) (_ : dscope (cell (PySem.Program.main PySem.Challenge.pw_xm0721_01).body 9) = c4) (a5 : Arguments) (_ : dargs (cell (inner (cell (PySem.Program.main PySem.Challenge.pw_xm0721_01).body 11)) 0) = a5) (b5 : List Stmt) (_ : inner (cell (inner (cell (PySem.Program.main PySem.Challenge.pw_xm0721_01).body 11)) 0) = b5) (c5 : Scope) (_ : dscope (cell (inner (cell (PySem.Program.main PySem.Challenge.pw_xm0721_01).body 11)) 0) = c5) (a6 : Arguments) (_ : dargs (cell (inner (cell (PySem.Program.main PySem.Challenge.pw_xm0721_01).body 11)) 1) = a6) (b6 : List Stmt) (_ : inner (cell (inner (cell (PySem.Program.main PySem.Challenge.pw_xm0721_01).body 11)) 1) = b6) (c6 : Scope) (_ : dscope (cell (inner (cell (PySem.Program.main PySem.Challenge.pw_xm0721_01).body 11)) 1) = c6) (a7 : Arguments) (_ : dargs (cell (PySem.Program.main PySem.Challenge.pw_xm0721_01).body 12) = a7) (b7 : List Stmt) (_ : inner (cell (PySem.Program.main PySem.Challenge.pw_xm0721_01).body 12) = b7) (c7 : Scope) (_ : dscope (cell (PySem.Program.main PySem.Challenge.pw_xm0721_01).body 12) = c7) (a8 : Arguments) (_ : dargs (cell (inner (cell (PySem.Program.main PySem.Challenge.pw_xm0721_01).body 14)) 0) = a8) (b8 : List Stmt) (_ : inner (cell (inner (cell (PySem.Program.main PySem.Challenge.pw_xm0721_01).body 14)) 0) = b8) (c8 : Scope) (_ : dscope (cell (inner (cell (PySem.Program.main PySem.Challenge.pw_xm0721_01).body 14)) 0) = c8) (a9 : Arguments) (_ : dargs (cell (inner (cell (PySem.Program.main PySem.Challenge.pw_xm0721_01).body 14)) 1) = a9) (b9 : List Stmt) (_ : inner (cell (inner (cell (PySem.Program.main PySem.Challenge.pw_xm0721_01).body 14)) 1) = b9) (c9 : Scope) (_ : dscope (cell (inner (cell (PySem.Program.main PySem.Challenge.pw_xm0721_01).body 14)) 1) = c9) (a10 : Arguments) (_ : dargs (cell (inner (cell (PySem.Program.main PySem.Challenge.pw_xm0721_01).body 14)) 2) = a10) (b10 : List Stmt) (_ : inner (cell (inner (cell (PySem.Program.main PySem.Challenge.pw_xm0721_01).body 14)) 2) = b10) (c10 : Scope) (_ : dscope (cell (inner (cell (PySem.Program.main PySem.Challenge.pw_xm0721_01).body 14)) 2) = c10) (a11 : Arguments) (_ : dargs (cell (inner (cell (PySem.Program.main PySem.Challenge.pw_xm0721_01).body 14)) 3) = a11) (b11 : List Stmt) (_ : inner (cell (inner (cell (PySem.Program.main PySem.Challenge.pw_xm0721_01).body 14)) 3) = b11) (c11 : Scope) (_ : dscope (cell (inner (cell (PySem.Program.main PySem.Challenge.pw_xm0721_01).body 14)) 3) = c11) (a12 : Arguments) (_ : dargs (cell (inner (cell (PySem.Program.main PySem.Challenge.pw_xm0721_01).body 14)) 4) = a12) (b12 : List Stmt) (_ : inner (cell (inner (cell (PySem.Program.main PySem.Challenge.pw_xm0721_01).body 14)) 4) = b12) (c12 : Scope) (_ : dscope (cell (inner (cell (PySem.Program.main PySem.Challenge.pw_xm0721_01).body 14)) 4) = c12) (a13 : Arguments) (_ : dargs (cell (inner (cell (PySem.Program.main PySem.Challenge.pw_xm0721_01).body 16)) 0) = a13) (b13 : List Stmt) (_ : inner (cell (inner (cell (PySem.Program.main PySem.Challenge.pw_xm0721_01).body 16)) 0) = b13) (c13 : Scope) (_ : dscope (cell (inner (cell (PySem.Program.main PySem.Challenge.pw_xm0721_01).body 16)) 0) = c13) (a14 : Arguments) (_ : dargs (cell (inner (cell (PySem.Program.main PySem.Challenge.pw_xm0721_01).body 16)) 1) = a14) (b14 : List Stmt) (_ : inner (cell (inner (cell (PySem.Program.main PySem.Challenge.pw_xm0721_01).body 16)) 1) = b14) (c14 : Scope) (_ : dscope (cell (inner (cell (PySem.Program.main PySem.Challenge.pw_xm0721_01).body 16)) 1) = c14) (a15 : Arguments) (_ : dargs (cell (inner (cell (PySem.Program.main PySem.Challenge.pw_xm0721_01).body 16)) 2) = a15) (b15 : List Stmt) (_ : inner (cell (inner (cell (PySem.Program.main PySem.Challenge.pw_xm0721_01).body 16)) 2) = b15) (c15 : Scope) (_ : dscope (cell (inner (cell (PySem.Program.main PySem.Challenge.pw_xm0721_01).body 16)) 2) = c15) (a16 : Arguments) (_ : dargs (cell (inner (cell (PySem.Program.main PySem.Challenge.pw_xm0721_01).body 16)) 3) = a16) (b16 : List Stmt) (_ : inner (cell (inner (cell (PySem.Program.main PySem.Challenge.pw_xm0721_01).body 16)) 3) = b16) (c16 : Scope) (_ : dscope (cell (inner (cell (PySem.Program.main PySem.Challenge.pw_xm0721_01).body 16)) 3) = c16) (a17 : Arguments) (_ : dargs (cell (inner (cell (PySem.Program.main PySem.Challenge.pw_xm0721_01).body 16)) 4) = a17) (b17 : List Stmt) (_ : inner (cell (inner (cell (PySem.Program.main PySem.Challenge.pw_xm0721_01).body 16)) 4) = b17) (c17 : Scope) (_ : dscope (cell (inner (cell (PySem.Program.main PySem.Challenge.pw_xm0721_01).body 16)) 4) = c17) (a18 : Arguments) (_ : dargs (cell (inner (cell (PySem.Program.main PySem.Challenge.pw_xm0721_01).body 16)) 5) = a18) (b18 : List Stmt) (_ : inner (cell (inner (cell (PySem.Program.main PySem.Challenge.pw_xm0721_01).body 16)) 5) = b18) (c18 : Scope) (_ : dscope (cell (inner (cell (PySem.Program.main PySem.Challenge.pw_xm0721_01).body 16)) 5) = c18) (a19 : Arguments) (_ : dargs (cell (inner (cell (PySem.Program.main PySem.Challenge.pw_xm0721_01).body 16)) 6) = a19) (b19 : List Stmt) (_ : inner (cell (inner (cell (PySem.Program.main PySem.Challenge.pw_xm0721_01).body 16)) 6) = b19) (c19 : Scope) (_ : dscope (cell (inner (cell (PySem.Program.main PySem.Challenge.pw_xm0721_01).body 16)) 6) = c19) (a20 : Arguments) (_ : dargs (cell (inner (cell (PySem.Program.main PySem.Challenge.pw_xm0721_01).body 17)) 0) = a20) (b20 : List Stmt) (_ : inner (cell (inner (cell (PySem.Program.main PySem.Challenge.pw_xm0721_01).body 17)) 0) = b20) (c20 : Scope) (_ : dscope (cell (inner (cell (PySem.Program.main PySem.Challenge.pw_xm0721_01).body 17)) 0) = c20) (a21 : Arguments) (_ : dargs (cell (inner (cell (PySem.Program.main PySem.Challenge.pw_xm0721_01).body 17)) 1) = a21) (b21 : List Stmt) (_ : inner (cell (inner (cell (PySem.Program.main PySem.Challenge.pw_xm0721_01).body 17)) 1) = b21) (c21 : Scope) (_ : dscope (cell (inner (cell (PySem.Program.main PySem.Challenge.pw_xm0721_01).body 17)) 1) = c21) (a22 : Arguments) (_ : dargs (cell (inner (cell (PySem.Program.main PySem.Challenge.pw_xm0721_01).body 17)) 2) = a22) (b22 : List Stmt) (_ : inner (cell (inner (cell (PySem.Program.main PySem.Challenge.pw_xm0721_01).body 17)) 2) = b22) (c22 : Scope) (_ : dscope (cell (inner (cell (PySem.Program.main PySem.Challenge.pw_xm0721_01).body 17)) 2) = c22) (a23 : Arguments) (_ : dargs (cell (inner (cell (PySem.Program.main PySem.Challenge.pw_xm0721_01).body 17)) 3) = a23) (b23 : List Stmt) (_ : inner (cell (inner (cell (PySem.Program.main PySem.Challenge.pw_xm0721_01).body 17)) 3) = b23) (c23 : Scope) (_ : dscope (cell (inner (cell (PySem.Program.main PySem.Challenge.pw_xm0721_01).body 17)) 3) = c23) (a24 : Arguments) (_ : dargs (cell (inner (cell (PySem.Program.main PySem.Challenge.pw_xm0721_01).body 17)) 4) = a24) (b24 : List Stmt) (_ : inner (cell (inner (cell (PySem.Program.main PySem.Challenge.pw_xm0721_01).body 17)) 4) = b24) (c24 : Scope) (_ : dscope (cell (inner (cell (PySem.Program.main PySem.Challenge.pw_xm0721_01).body 17)) 4) = c24) (a25 : Arguments) (_ : dargs (cell (PySem.Program.main PySem.Challenge.pw_xm0721_01).body 19) = a25) (b25 : List Stmt) (_ : inner (cell (PySem.Program.main PySem.Challenge.pw_xm0721_01).body 19) = b25) (c25 : Scope) (_ : dscope (cell (PySem.Program.main PySem.Challenge.pw_xm0721_01).body 19) = c25) (a26 : Arguments) (_ : dargs (cell (PySem.Program.main PySem.Challenge.pw_xm0721_01).body 20) = a26) (b26 : List Stmt) (_ : inner (cell (PySem.Program.main PySem.Challenge.pw_xm0721_01).body 20) = b26) (c26 : Scope) (_ : dscope (cell (PySem.Program.main PySem.Challenge.pw_xm0721_01).body 20) = c26) (a27 : Arguments) (_ : dargs (cell (PySem.Program.main PySem.Challenge.pw_xm0721_01).body 21) = a27) (b27 : List Stmt) (_ : inner (cell (PySem.Program.main PySem.Challenge.pw_xm0721_01).body 21) = b27) (c27 : Scope) (_ : dscope (cell (PySem.Program.main PySem.Challenge.pw_xm0721_01).body 21) = c27) (a28 : Arguments) (_ : dargs (cell (PySem.Program.main PySem.Challenge.pw_xm0721_01).body 22) = a28) (b28 : List Stmt) (_ : inner (cell (PySem.Program.main PySem.Challenge.pw_xm0721_01).body 22) = b28) (c28 : Scope) (_ : dscope (cell (PySem.Program.main PySem.Challenge.pw_xm0721_01).body 22) = c28) (a29 : Arguments) (_ : dargs (cell (PySem.Program.main PySem.Challenge.pw_xm0721_01).body 23) = a29) (b29 : List Stmt) (_ : inner (cell (PySem.Program.main PySem.Challenge.pw_xm0721_01).body 23) = b29) (c29 : Scope) (_ : dscope (cell (PySem.Program.main PySem.Challenge.pw_xm0721_01).body 23) = c29) (a30 : Arguments) (_ : dargs (cell (PySem.Program.main PySem.Challenge.pw_xm0721_01).body 24) = a30) (b30 : List Stmt) (_ : inner (cell (PySem.Program.main PySem.Challenge.pw_xm0721_01).body 24) = b30) (c30 : Scope) (_ : dscope (cell (PySem.Program.main PySem.Challenge.pw_xm0721_01).body 24) = c30) (a31 : Arguments) (_ : dargs (cell (PySem.Program.main PySem.Challenge.pw_xm0721_01).body 25) = a31) (b31 : List Stmt) (_ : inner (cell (PySem.Program.main PySem.Challenge.pw_xm0721_01).body 25) = b31) (c31 : Scope) (_ : dscope (cell (PySem.Program.main PySem.Challenge.pw_xm0721_01).body 25) = c31) (a32 : Arguments) (_ : dargs (cell (PySem.Program.main PySem.Challenge.pw_xm0721_01).body 26) = a32) (b32 : List Stmt) (_ : inner (cell (PySem.Program.main PySem.Challenge.pw_xm0721_01).body 26) = b32) (c32 : Scope) (_ : dscope (cell (PySem.Program.main PySem.Challenge.pw_xm0721_01).body 26) = c32) => (fun P : Params =>
  PySem.W.boot_o_0 P ::
  PySem.W.boot_o_1 P ::
  kpo (heap_39 P) 2 ::
  kpo (heap_39 P) 3 ::
  PySem.W.boot_o_4 P ::
  PySem.W.boot_o_5 P ::
  PySem.W.boot_o_6 P ::
  PySem.W.boot_o_7 P ::
  PySem.W.boot_o_8 P ::
  PySem.W.boot_o_9 P ::
  PySem.W.boot_o_10 P ::
  (PySem.Obj.mk (PySem.Value.type "tuple") Option.none (PySem.Data.seq (List.toArray []) 0) (List.toArray [])) ::
  (PySem.Obj.mk PySem.Value.none Option.none (PySem.Data.fields (List.toArray [(PySem.Value.int 1 0), (PySem.Value.int 0 0), (PySem.Value.ref 20), (PySem.Value.int 5 0), (PySem.Value.int 0 0), (PySem.Value.ref 27), (PySem.Value.int 9 0), (PySem.Value.int 0 0), (PySem.Value.ref 47), (PySem.Value.int 13 0), (PySem.Value.int 0 0), (PySem.Value.ref 59), (PySem.Value.int 20 0), (PySem.Value.int 0 0), (PySem.Value.ref 66), (PySem.Value.int 23 0), (PySem.Value.int 0 0), (PySem.Value.ref 73), (PySem.Value.int 40 0), (PySem.Value.int 0 0), (PySem.Value.ref 80), (PySem.Value.int 49 0), (PySem.Value.int 0 0), (PySem.Value.ref 108), (PySem.Value.int 56 0), (PySem.Value.int 0 0), (PySem.Value.ref 115), (PySem.Value.int 92 0), (PySem.Value.int 0 0), (PySem.Value.ref 164), (PySem.Value.int 119 0), (PySem.Value.int 0 0), (PySem.Value.ref 227), (PySem.Value.int 143 0), (PySem.Value.int 0 0), (PySem.Value.ref 278), (PySem.Value.int 147 0), (PySem.Value.int 0 0), (PySem.Value.ref 285), (PySem.Value.int 154 0), (PySem.Value.int 0 0), (PySem.Value.ref 292), (PySem.Value.int 156 0), (PySem.Value.int 0 0), (PySem.Value.ref 299), (PySem.Value.int 159 0), (PySem.Value.int 0 0), (PySem.Value.ref 306), (PySem.Value.int 162 0), (PySem.Value.int 0 0), (PySem.Value.ref 313), (PySem.Value.int 183 0), (PySem.Value.int 0 0), (PySem.Value.ref 320), (PySem.Value.int 189 0), (PySem.Value.int 0 0), (PySem.Value.ref 327)])) (List.toArray [])) ::
  (PySem.Obj.mk (PySem.Value.type "code") Option.none (PySem.Data.fields (List.toArray [(PySem.Value.str (PySem.Str.ofString "<module>") 182), (PySem.Value.str (PySem.Str.ofString "<module>") 183), (PySem.Value.str (PySem.Str.ofString "/claim/cut.py") 184), (PySem.Value.int 1 0), (PySem.Value.int 0 0), (PySem.Value.int 0 0), (PySem.Value.int 0 0), (PySem.Value.int 0 0), (PySem.Value.ref 11), (PySem.Value.bool Bool.false), (PySem.Value.int 181 0), (PySem.Value.ref 12), PySem.Value.none, PySem.Value.none, PySem.Value.none, PySem.Value.none, (PySem.Value.int 185 0), (PySem.Value.int 1 0), (PySem.Value.str (PySem.Str.ofString "/claim/cut.py") 186)])) (List.toArray [])) ::
  (PySem.Obj.mk (PySem.Value.type "frame") Option.none PySem.Data.plain (List.toArray [(Option.some (PySem.Value.ref 13)), (Option.some (PySem.Value.ref 3)), (Option.some (PySem.Value.ref 3)), Option.none, (Option.some (PySem.Value.str (PySem.Str.ofString "__main__") 164)), Option.none, (Option.some (PySem.Value.ref 0))])) ::
  kpo (heap_39 P) 15 ::
  (PySem.Obj.mk PySem.Value.none Option.none (PySem.Data.fields (List.toArray [])) (List.toArray [])) ::
  kpo (heap_39 P) 17 ::
  kpo (heap_39 P) 18 ::
  (PySem.Obj.mk PySem.Value.none Option.none (PySem.Data.func (PySem.FuncData.mk (PySem.Str.ofString "_wall") (PySem.Str.ofString "_wall") a0 (PySem.FuncBody.stmts b0) c0 0 [] PySem.Value.none PySem.Value.none PySem.Value.none PySem.Value.none Option.none PySem.Value.none PySem.Value.none 0)) (List.toArray [])) ::
  kpo (heap_39 P) 20 ::
  kpo (heap_39 P) 21 ::
  kpo (heap_39 P) 22 ::
  (PySem.Obj.mk (PySem.Value.type "builtin_function_or_method") Option.none (PySem.Data.fields (List.toArray [(PySem.Value.builtin "type.__prepare__"), (PySem.Value.type "type")])) (List.toArray [])) ::
  (PySem.Obj.mk (PySem.Value.type "dict") Option.none (PySem.Data.dict (List.toArray [(PySem.DictEntry.mk (PySem.PyData.keyHash P (PySem.Str.ofString "__module__")) (PySem.Value.str (PySem.Str.ofString "__module__") 203) (PySem.Value.str (PySem.Str.ofString "outlinemill.errors") 194)), (PySem.DictEntry.mk (PySem.PyData.keyHash P (PySem.Str.ofString "__qualname__")) (PySem.Value.str (PySem.Str.ofString "__qualname__") 205) (PySem.Value.str (PySem.Str.ofString "MillError") 204)), (PySem.DictEntry.mk (PySem.PyData.keyHash P (PySem.Str.ofString "__firstlineno__")) (PySem.Value.str (PySem.Str.ofString "__firstlineno__") 207) (PySem.Value.int 5 206)), (PySem.DictEntry.mk (PySem.PyData.keyHash P (PySem.Str.ofString "__init__")) (PySem.Value.str (PySem.Str.ofString "__init__") 215) (PySem.Value.ref 35)), (PySem.DictEntry.mk (PySem.PyData.keyHash P (PySem.Str.ofString "__static_attributes__")) (PySem.Value.str (PySem.Str.ofString "__static_attributes__") 217) (PySem.Value.ref 36))]) 5) (List.toArray [])) ::
  (PySem.Obj.mk (PySem.Value.type "tuple") Option.none (PySem.Data.seq (List.toArray []) 0) (List.toArray [])) ::
  (PySem.Obj.mk PySem.Value.none Option.none (PySem.Data.fields (List.toArray [(PySem.Value.int 7 0), (PySem.Value.int 4 0), (PySem.Value.ref 34)])) (List.toArray [])) ::
  (PySem.Obj.mk (PySem.Value.type "code") Option.none (PySem.Data.fields (List.toArray [(PySem.Value.str (PySem.Str.ofString "MillError") 198), (PySem.Value.str (PySem.Str.ofString "MillError") 199), (PySem.Value.str (PySem.Str.ofString "/claim/cut.py") 200), (PySem.Value.int 5 0), (PySem.Value.int 0 0), (PySem.Value.int 0 0), (PySem.Value.int 0 0), (PySem.Value.int 0 0), (PySem.Value.ref 25), (PySem.Value.bool Bool.false), (PySem.Value.int 181 0), (PySem.Value.ref 26), PySem.Value.none, PySem.Value.none, PySem.Value.none, PySem.Value.none, (PySem.Value.int 201 0), (PySem.Value.int 5 0), (PySem.Value.str (PySem.Str.ofString "/claim/cut.py") 202)])) (List.toArray [])) ::
  (PySem.Obj.mk (PySem.Value.type "frame") Option.none PySem.Data.plain (List.toArray [(Option.some (PySem.Value.ref 27)), (Option.some (PySem.Value.ref 3)), (Option.some (PySem.Value.ref 24)), Option.none, (Option.some (PySem.Value.str (PySem.Str.ofString "outlinemill.errors") 194)), Option.none, (Option.some (PySem.Value.ref 0))])) ::
  kpo (heap_39 P) 29 ::
  (PySem.Obj.mk PySem.Value.none Option.none (PySem.Data.fields (List.toArray [])) (List.toArray [])) ::
  kpo (heap_39 P) 31 ::
  kpo (heap_39 P) 32 ::
  (PySem.Obj.mk PySem.Value.none Option.none (PySem.Data.func (PySem.FuncData.mk (PySem.Str.ofString "__init__") (PySem.Str.ofString "MillError.__init__") a1 (PySem.FuncBody.stmts b1) c1 0 [] PySem.Value.none PySem.Value.none PySem.Value.none PySem.Value.none Option.none PySem.Value.none PySem.Value.none 0)) (List.toArray [])) ::
  kpo (heap_39 P) 34 ::
  kpo (heap_39 P) 35 ::
  kpo (heap_39 P) 36 ::
  kpo (heap_39 P) 37 ::
  kpo (heap_39 P) 38 ::
  kpo (heap_39 P) 39 ::
  (PySem.Obj.mk (PySem.Value.type "super") Option.none (PySem.Data.fields (List.toArray [(PySem.Value.ref 38), (PySem.Value.ref 38), (PySem.Value.ref 38)])) (List.toArray [])) ::
  (PySem.Obj.mk (PySem.Value.type "builtin_function_or_method") Option.none (PySem.Data.fields (List.toArray [(PySem.Value.builtin "object.__init_subclass__"), (PySem.Value.ref 38)])) (List.toArray [])) ::
  kpo (heap_39 P) 42 ::
  (PySem.Obj.mk (PySem.Value.type "builtin_function_or_method") Option.none (PySem.Data.fields (List.toArray [(PySem.Value.builtin "type.__prepare__"), (PySem.Value.type "type")])) (List.toArray [])) ::
  (PySem.Obj.mk (PySem.Value.type "dict") Option.none (PySem.Data.dict (List.toArray [(PySem.DictEntry.mk (PySem.PyData.keyHash P (PySem.Str.ofString "__module__")) (PySem.Value.str (PySem.Str.ofString "__module__") 232) (PySem.Value.str (PySem.Str.ofString "outlinemill.errors") 194)), (PySem.DictEntry.mk (PySem.PyData.keyHash P (PySem.Str.ofString "__qualname__")) (PySem.Value.str (PySem.Str.ofString "__qualname__") 234) (PySem.Value.str (PySem.Str.ofString "HintFault") 233)), (PySem.DictEntry.mk (PySem.PyData.keyHash P (PySem.Str.ofString "__firstlineno__")) (PySem.Value.str (PySem.Str.ofString "__firstlineno__") 236) (PySem.Value.int 9 235)), (PySem.DictEntry.mk (PySem.PyData.keyHash P (PySem.Str.ofString "__static_attributes__")) (PySem.Value.str (PySem.Str.ofString "__static_attributes__") 237) (PySem.Value.ref 49))]) 4) (List.toArray [])) ::
  (PySem.Obj.mk (PySem.Value.type "tuple") Option.none (PySem.Data.seq (List.toArray []) 0) (List.toArray [])) ::
  (PySem.Obj.mk PySem.Value.none Option.none (PySem.Data.fields (List.toArray [])) (List.toArray [])) ::
  (PySem.Obj.mk (PySem.Value.type "code") Option.none (PySem.Data.fields (List.toArray [(PySem.Value.str (PySem.Str.ofString "HintFault") 227), (PySem.Value.str (PySem.Str.ofString "HintFault") 228), (PySem.Value.str (PySem.Str.ofString "/claim/cut.py") 229), (PySem.Value.int 9 0), (PySem.Value.int 0 0), (PySem.Value.int 0 0), (PySem.Value.int 0 0), (PySem.Value.int 0 0), (PySem.Value.ref 45), (PySem.Value.bool Bool.false), (PySem.Value.int 181 0), (PySem.Value.ref 46), PySem.Value.none, PySem.Value.none, PySem.Value.none, PySem.Value.none, (PySem.Value.int 230 0), (PySem.Value.int 9 0), (PySem.Value.str (PySem.Str.ofString "/claim/cut.py") 231)])) (List.toArray [])) ::
  (PySem.Obj.mk (PySem.Value.type "frame") Option.none PySem.Data.plain (List.toArray [(Option.some (PySem.Value.ref 47)), (Option.some (PySem.Value.ref 3)), (Option.some (PySem.Value.ref 44)), Option.none, (Option.some (PySem.Value.str (PySem.Str.ofString "outlinemill.errors") 194)), Option.none, (Option.some (PySem.Value.ref 0))])) ::
  kpo (heap_39 P) 49 ::
  kpo (heap_39 P) 50 ::
  kpo (heap_39 P) 51 ::
  (PySem.Obj.mk (PySem.Value.type "super") Option.none (PySem.Data.fields (List.toArray [(PySem.Value.ref 51), (PySem.Value.ref 51), (PySem.Value.ref 51)])) (List.toArray [])) ::
  (PySem.Obj.mk (PySem.Value.type "builtin_function_or_method") Option.none (PySem.Data.fields (List.toArray [(PySem.Value.builtin "object.__init_subclass__"), (PySem.Value.ref 51)])) (List.toArray [])) ::
  kpo (heap_39 P) 54 ::
  (PySem.Obj.mk PySem.Value.none Option.none (PySem.Data.fields (List.toArray [])) (List.toArray [])) ::
  kpo (heap_39 P) 56 ::
  kpo (heap_39 P) 57 ::
  (PySem.Obj.mk PySem.Value.none Option.none (PySem.Data.func (PySem.FuncData.mk (PySem.Str.ofString "muldiv") (PySem.Str.ofString "muldiv") a2 (PySem.FuncBody.stmts b2) c2 0 [] PySem.Value.none PySem.Value.none PySem.Value.none PySem.Value.none Option.none PySem.Value.none PySem.Value.none 0)) (List.toArray [])) ::
  kpo (heap_39 P) 59 ::
  kpo (heap_39 P) 60 ::
  kpo (heap_39 P) 61 ::
  (PySem.Obj.mk PySem.Value.none Option.none (PySem.Data.fields (List.toArray [])) (List.toArray [])) ::
  kpo (heap_39 P) 63 ::
  kpo (heap_39 P) 64 ::
  (PySem.Obj.mk PySem.Value.none Option.none (PySem.Data.func (PySem.FuncData.mk (PySem.Str.ofString "wrap32") (PySem.Str.ofString "wrap32") a3 (PySem.FuncBody.stmts b3) c3 0 [] PySem.Value.none PySem.Value.none PySem.Value.none PySem.Value.none Option.none PySem.Value.none PySem.Value.none 0)) (List.toArray [])) ::
  kpo (heap_39 P) 66 ::
  kpo (heap_39 P) 67 ::
  kpo (heap_39 P) 68 ::
  (PySem.Obj.mk PySem.Value.none Option.none (PySem.Data.fields (List.toArray [])) (List.toArray [])) ::
  kpo (heap_39 P) 70 ::
  kpo (heap_39 P) 71 ::
  (PySem.Obj.mk PySem.Value.none Option.none (PySem.Data.func (PySem.FuncData.mk (PySem.Str.ofString "do_distance") (PySem.Str.ofString "do_distance") a4 (PySem.FuncBody.stmts b4) c4 0 [] PySem.Value.none PySem.Value.none PySem.Value.none PySem.Value.none Option.none PySem.Value.none PySem.Value.none 0)) (List.toArray [])) ::
  kpo (heap_39 P) 73 ::
  kpo (heap_39 P) 74 ::
  (PySem.Obj.mk (PySem.Value.type "tuple") Option.none (PySem.Data.seq (List.toArray []) 0) (List.toArray [])) ::
  (PySem.Obj.mk (PySem.Value.type "builtin_function_or_method") Option.none (PySem.Data.fields (List.toArray [(PySem.Value.builtin "type.__prepare__"), (PySem.Value.type "type")])) (List.toArray [])) ::
  (PySem.Obj.mk (PySem.Value.type "dict") Option.none (PySem.Data.dict (List.toArray [(PySem.DictEntry.mk (PySem.PyData.keyHash P (PySem.Str.ofString "__module__")) (PySem.Value.str (PySem.Str.ofString "__module__") 283) (PySem.Value.str (PySem.Str.ofString "outlinemill.hint_rounds") 274)), (PySem.DictEntry.mk (PySem.PyData.keyHash P (PySem.Str.ofString "__qualname__")) (PySem.Value.str (PySem.Str.ofString "__qualname__") 285) (PySem.Value.str (PySem.Str.ofString "Rounding") 284)), (PySem.DictEntry.mk (PySem.PyData.keyHash P (PySem.Str.ofString "__firstlineno__")) (PySem.Value.str (PySem.Str.ofString "__firstlineno__") 287) (PySem.Value.int 40 286)), (PySem.DictEntry.mk (PySem.PyData.keyHash P (PySem.Str.ofString "__init__")) (PySem.Value.str (PySem.Str.ofString "__init__") 297) (PySem.Value.ref 88)), (PySem.DictEntry.mk (PySem.PyData.keyHash P (PySem.Str.ofString "row")) (PySem.Value.str (PySem.Str.ofString "row") 304) (PySem.Value.ref 95)), (PySem.DictEntry.mk (PySem.PyData.keyHash P (PySem.Str.ofString "__static_attributes__")) (PySem.Value.str (PySem.Str.ofString "__static_attributes__") 308) (PySem.Value.ref 96))]) 6) (List.toArray [])) ::
  (PySem.Obj.mk (PySem.Value.type "tuple") Option.none (PySem.Data.seq (List.toArray []) 0) (List.toArray [])) ::
  (PySem.Obj.mk PySem.Value.none Option.none (PySem.Data.fields (List.toArray [(PySem.Value.int 42 0), (PySem.Value.int 4 0), (PySem.Value.ref 87), (PySem.Value.int 47 0), (PySem.Value.int 4 0), (PySem.Value.ref 94)])) (List.toArray [])) ::
  (PySem.Obj.mk (PySem.Value.type "code") Option.none (PySem.Data.fields (List.toArray [(PySem.Value.str (PySem.Str.ofString "Rounding") 278), (PySem.Value.str (PySem.Str.ofString "Rounding") 279), (PySem.Value.str (PySem.Str.ofString "/claim/cut.py") 280), (PySem.Value.int 40 0), (PySem.Value.int 0 0), (PySem.Value.int 0 0), (PySem.Value.int 0 0), (PySem.Value.int 0 0), (PySem.Value.ref 78), (PySem.Value.bool Bool.false), (PySem.Value.int 181 0), (PySem.Value.ref 79), PySem.Value.none, PySem.Value.none, PySem.Value.none, PySem.Value.none, (PySem.Value.int 281 0), (PySem.Value.int 40 0), (PySem.Value.str (PySem.Str.ofString "/claim/cut.py") 282)])) (List.toArray [])) ::
  (PySem.Obj.mk (PySem.Value.type "frame") Option.none PySem.Data.plain (List.toArray [(Option.some (PySem.Value.ref 80)), (Option.some (PySem.Value.ref 3)), (Option.some (PySem.Value.ref 77)), Option.none, (Option.some (PySem.Value.str (PySem.Str.ofString "outlinemill.hint_rounds") 274)), Option.none, (Option.some (PySem.Value.ref 0))])) ::
  kpo (heap_39 P) 82 ::
  (PySem.Obj.mk PySem.Value.none Option.none (PySem.Data.fields (List.toArray [])) (List.toArray [])) ::
  kpo (heap_39 P) 84 ::
  kpo (heap_39 P) 85 ::
  (PySem.Obj.mk PySem.Value.none Option.none (PySem.Data.func (PySem.FuncData.mk (PySem.Str.ofString "__init__") (PySem.Str.ofString "Rounding.__init__") a5 (PySem.FuncBody.stmts b5) c5 0 [] PySem.Value.none PySem.Value.none PySem.Value.none PySem.Value.none Option.none PySem.Value.none PySem.Value.none 0)) (List.toArray [])) ::
  kpo (heap_39 P) 87 ::
  kpo (heap_39 P) 88 ::
  kpo (heap_39 P) 89 ::
  (PySem.Obj.mk PySem.Value.none Option.none (PySem.Data.fields (List.toArray [])) (List.toArray [])) ::
  kpo (heap_39 P) 91 ::
  kpo (heap_39 P) 92 ::
  (PySem.Obj.mk PySem.Value.none Option.none (PySem.Data.func (PySem.FuncData.mk (PySem.Str.ofString "row") (PySem.Str.ofString "Rounding.row") a6 (PySem.FuncBody.stmts b6) c6 0 [] PySem.Value.none PySem.Value.none PySem.Value.none PySem.Value.none Option.none PySem.Value.none PySem.Value.none 0)) (List.toArray [])) ::
  kpo (heap_39 P) 94 ::
  kpo (heap_39 P) 95 ::
  kpo (heap_39 P) 96 ::
  kpo (heap_39 P) 97 ::
  kpo (heap_39 P) 98 ::
  kpo (heap_39 P) 99 ::
  kpo (heap_39 P) 100 ::
  (PySem.Obj.mk (PySem.Value.type "super") Option.none (PySem.Data.fields (List.toArray [(PySem.Value.ref 98), (PySem.Value.ref 98), (PySem.Value.ref 98)])) (List.toArray [])) ::
  (PySem.Obj.mk (PySem.Value.type "builtin_function_or_method") Option.none (PySem.Data.fields (List.toArray [(PySem.Value.builtin "object.__init_subclass__"), (PySem.Value.ref 98)])) (List.toArray [])) ::
  kpo (heap_39 P) 103 ::
  (PySem.Obj.mk PySem.Value.none Option.none (PySem.Data.fields (List.toArray [])) (List.toArray [])) ::
  kpo (heap_39 P) 105 ::
  kpo (heap_39 P) 106 ::
  (PySem.Obj.mk PySem.Value.none Option.none (PySem.Data.func (PySem.FuncData.mk (PySem.Str.ofString "named") (PySem.Str.ofString "named") a7 (PySem.FuncBody.stmts b7) c7 0 [] PySem.Value.none PySem.Value.none PySem.Value.none PySem.Value.none Option.none PySem.Value.none PySem.Value.none 0)) (List.toArray [])) ::
  kpo (heap_39 P) 108 ::
  kpo (heap_39 P) 109 ::
  (PySem.Obj.mk (PySem.Value.type "tuple") Option.none (PySem.Data.seq (List.toArray []) 0) (List.toArray [])) ::
  (PySem.Obj.mk (PySem.Value.type "builtin_function_or_method") Option.none (PySem.Data.fields (List.toArray [(PySem.Value.builtin "type.__prepare__"), (PySem.Value.type "type")])) (List.toArray [])) ::
  (PySem.Obj.mk (PySem.Value.type "dict") Option.none (PySem.Data.dict (List.toArray [(PySem.DictEntry.mk (PySem.PyData.keyHash P (PySem.Str.ofString "__module__")) (PySem.Value.str (PySem.Str.ofString "__module__") 336) (PySem.Value.str (PySem.Str.ofString "outlinemill.hint_state") 327)), (PySem.DictEntry.mk (PySem.PyData.keyHash P (PySem.Str.ofString "__qualname__")) (PySem.Value.str (PySem.Str.ofString "__qualname__") 338) (PySem.Value.str (PySem.Str.ofString "GraphicsState") 337)), (PySem.DictEntry.mk (PySem.PyData.keyHash P (PySem.Str.ofString "__firstlineno__")) (PySem.Value.str (PySem.Str.ofString "__firstlineno__") 340) (PySem.Value.int 56 339)), (PySem.DictEntry.mk (PySem.PyData.keyHash P (PySem.Str.ofString "__init__")) (PySem.Value.str (PySem.Str.ofString "__init__") 347) (PySem.Value.ref 123)), (PySem.DictEntry.mk (PySem.PyData.keyHash P (PySem.Str.ofString "free_dot")) (PySem.Value.str (PySem.Str.ofString "free_dot") 354) (PySem.Value.ref 130)), (PySem.DictEntry.mk (PySem.PyData.keyHash P (PySem.Str.ofString "projected")) (PySem.Value.str (PySem.Str.ofString "projected") 363) (PySem.Value.ref 137)), (PySem.DictEntry.mk (PySem.PyData.keyHash P (PySem.Str.ofString "dual_projected")) (PySem.Value.str (PySem.Str.ofString "dual_projected") 372) (PySem.Value.ref 144)), (PySem.DictEntry.mk (PySem.PyData.keyHash P (PySem.Str.ofString "row")) (PySem.Value.str (PySem.Str.ofString "row") 381) (PySem.Value.ref 151)), (PySem.DictEntry.mk (PySem.PyData.keyHash P (PySem.Str.ofString "__static_attributes__")) (PySem.Value.str (PySem.Str.ofString "__static_attributes__") 400) (PySem.Value.ref 152))]) 9) (List.toArray [])) ::
  (PySem.Obj.mk (PySem.Value.type "tuple") Option.none (PySem.Data.seq (List.toArray []) 0) (List.toArray [])) ::
  (PySem.Obj.mk PySem.Value.none Option.none (PySem.Data.fields (List.toArray [(PySem.Value.int 58 0), (PySem.Value.int 4 0), (PySem.Value.ref 122), (PySem.Value.int 78 0), (PySem.Value.int 4 0), (PySem.Value.ref 129), (PySem.Value.int 81 0), (PySem.Value.int 4 0), (PySem.Value.ref 136), (PySem.Value.int 84 0), (PySem.Value.int 4 0), (PySem.Value.ref 143), (PySem.Value.int 87 0), (PySem.Value.int 4 0), (PySem.Value.ref 150)])) (List.toArray [])) ::
  (PySem.Obj.mk (PySem.Value.type "code") Option.none (PySem.Data.fields (List.toArray [(PySem.Value.str (PySem.Str.ofString "GraphicsState") 331), (PySem.Value.str (PySem.Str.ofString "GraphicsState") 332), (PySem.Value.str (PySem.Str.ofString "/claim/cut.py") 333), (PySem.Value.int 56 0), (PySem.Value.int 0 0), (PySem.Value.int 0 0), (PySem.Value.int 0 0), (PySem.Value.int 0 0), (PySem.Value.ref 113), (PySem.Value.bool Bool.false), (PySem.Value.int 181 0), (PySem.Value.ref 114), PySem.Value.none, PySem.Value.none, PySem.Value.none, PySem.Value.none, (PySem.Value.int 334 0), (PySem.Value.int 56 0), (PySem.Value.str (PySem.Str.ofString "/claim/cut.py") 335)])) (List.toArray [])) ::
  (PySem.Obj.mk (PySem.Value.type "frame") Option.none PySem.Data.plain (List.toArray [(Option.some (PySem.Value.ref 115)), (Option.some (PySem.Value.ref 3)), (Option.some (PySem.Value.ref 112)), Option.none, (Option.some (PySem.Value.str (PySem.Str.ofString "outlinemill.hint_state") 327)), Option.none, (Option.some (PySem.Value.ref 0))])) ::
  kpo (heap_39 P) 117 ::
  (PySem.Obj.mk PySem.Value.none Option.none (PySem.Data.fields (List.toArray [])) (List.toArray [])) ::
  kpo (heap_39 P) 119 ::
  kpo (heap_39 P) 120 ::
  (PySem.Obj.mk PySem.Value.none Option.none (PySem.Data.func (PySem.FuncData.mk (PySem.Str.ofString "__init__") (PySem.Str.ofString "GraphicsState.__init__") a8 (PySem.FuncBody.stmts b8) c8 0 [] PySem.Value.none PySem.Value.none PySem.Value.none PySem.Value.none Option.none PySem.Value.none PySem.Value.none 0)) (List.toArray [])) ::
  kpo (heap_39 P) 122 ::
  kpo (heap_39 P) 123 ::
  kpo (heap_39 P) 124 ::
  (PySem.Obj.mk PySem.Value.none Option.none (PySem.Data.fields (List.toArray [])) (List.toArray [])) ::
  kpo (heap_39 P) 126 ::
  kpo (heap_39 P) 127 ::
  (PySem.Obj.mk PySem.Value.none Option.none (PySem.Data.func (PySem.FuncData.mk (PySem.Str.ofString "free_dot") (PySem.Str.ofString "GraphicsState.free_dot") a9 (PySem.FuncBody.stmts b9) c9 0 [] PySem.Value.none PySem.Value.none PySem.Value.none PySem.Value.none Option.none PySem.Value.none PySem.Value.none 0)) (List.toArray [])) ::
  kpo (heap_39 P) 129 ::
  kpo (heap_39 P) 130 ::
  kpo (heap_39 P) 131 ::
  (PySem.Obj.mk PySem.Value.none Option.none (PySem.Data.fields (List.toArray [])) (List.toArray [])) ::
  kpo (heap_39 P) 133 ::
  kpo (heap_39 P) 134 ::
  (PySem.Obj.mk PySem.Value.none Option.none (PySem.Data.func (PySem.FuncData.mk (PySem.Str.ofString "projected") (PySem.Str.ofString "GraphicsState.projected") a10 (PySem.FuncBody.stmts b10) c10 0 [] PySem.Value.none PySem.Value.none PySem.Value.none PySem.Value.none Option.none PySem.Value.none PySem.Value.none 0)) (List.toArray [])) ::
  kpo (heap_39 P) 136 ::
  kpo (heap_39 P) 137 ::
  kpo (heap_39 P) 138 ::
  (PySem.Obj.mk PySem.Value.none Option.none (PySem.Data.fields (List.toArray [])) (List.toArray [])) ::
  kpo (heap_39 P) 140 ::
  kpo (heap_39 P) 141 ::
  (PySem.Obj.mk PySem.Value.none Option.none (PySem.Data.func (PySem.FuncData.mk (PySem.Str.ofString "dual_projected") (PySem.Str.ofString "GraphicsState.dual_projected") a11 (PySem.FuncBody.stmts b11) c11 0 [] PySem.Value.none PySem.Value.none PySem.Value.none PySem.Value.none Option.none PySem.Value.none PySem.Value.none 0)) (List.toArray [])) ::
  kpo (heap_39 P) 143 ::
  kpo (heap_39 P) 144 ::
  kpo (heap_39 P) 145 ::
  (PySem.Obj.mk PySem.Value.none Option.none (PySem.Data.fields (List.toArray [])) (List.toArray [])) ::
  kpo (heap_39 P) 147 ::
  kpo (heap_39 P) 148 ::
  (PySem.Obj.mk PySem.Value.none Option.none (PySem.Data.func (PySem.FuncData.mk (PySem.Str.ofString "row") (PySem.Str.ofString "GraphicsState.row") a12 (PySem.FuncBody.stmts b12) c12 0 [] PySem.Value.none PySem.Value.none PySem.Value.none PySem.Value.none Option.none PySem.Value.none PySem.Value.none 0)) (List.toArray [])) ::
  kpo (heap_39 P) 150 ::
  kpo (heap_39 P) 151 ::
  kpo (heap_39 P) 152 ::
  kpo (heap_39 P) 153 ::
  kpo (heap_39 P) 154 ::
  kpo (heap_39 P) 155 ::
  kpo (heap_39 P) 156 ::
  (PySem.Obj.mk (PySem.Value.type "super") Option.none (PySem.Data.fields (List.toArray [(PySem.Value.ref 154), (PySem.Value.ref 154), (PySem.Value.ref 154)])) (List.toArray [])) ::
  (PySem.Obj.mk (PySem.Value.type "builtin_function_or_method") Option.none (PySem.Data.fields (List.toArray [(PySem.Value.builtin "object.__init_subclass__"), (PySem.Value.ref 154)])) (List.toArray [])) ::
  (PySem.Obj.mk (PySem.Value.type "tuple") Option.none (PySem.Data.seq (List.toArray []) 0) (List.toArray [])) ::
  (PySem.Obj.mk (PySem.Value.type "builtin_function_or_method") Option.none (PySem.Data.fields (List.toArray [(PySem.Value.builtin "type.__prepare__"), (PySem.Value.type "type")])) (List.toArray [])) ::
  (PySem.Obj.mk (PySem.Value.type "dict") Option.none (PySem.Data.dict (List.toArray [(PySem.DictEntry.mk (PySem.PyData.keyHash P (PySem.Str.ofString "__module__")) (PySem.Value.str (PySem.Str.ofString "__module__") 417) (PySem.Value.str (PySem.Str.ofString "outlinemill.hint_work") 408)), (PySem.DictEntry.mk (PySem.PyData.keyHash P (PySem.Str.ofString "__qualname__")) (PySem.Value.str (PySem.Str.ofString "__qualname__") 419) (PySem.Value.str (PySem.Str.ofString "HintStack") 418)), (PySem.DictEntry.mk (PySem.PyData.keyHash P (PySem.Str.ofString "__firstlineno__")) (PySem.Value.str (PySem.Str.ofString "__firstlineno__") 421) (PySem.Value.int 92 420)), (PySem.DictEntry.mk (PySem.PyData.keyHash P (PySem.Str.ofString "__init__")) (PySem.Value.str (PySem.Str.ofString "__init__") 429) (PySem.Value.ref 172)), (PySem.DictEntry.mk (PySem.PyData.keyHash P (PySem.Str.ofString "push")) (PySem.Value.str (PySem.Str.ofString "push") 437) (PySem.Value.ref 179)), (PySem.DictEntry.mk (PySem.PyData.keyHash P (PySem.Str.ofString "pop")) (PySem.Value.str (PySem.Str.ofString "pop") 444) (PySem.Value.ref 186)), (PySem.DictEntry.mk (PySem.PyData.keyHash P (PySem.Str.ofString "pop_count")) (PySem.Value.str (PySem.Str.ofString "pop_count") 451) (PySem.Value.ref 193)), (PySem.DictEntry.mk (PySem.PyData.keyHash P (PySem.Str.ofString "peek")) (PySem.Value.str (PySem.Str.ofString "peek") 459) (PySem.Value.ref 200)), (PySem.DictEntry.mk (PySem.PyData.keyHash P (PySem.Str.ofString "depth")) (PySem.Value.str (PySem.Str.ofString "depth") 466) (PySem.Value.ref 207)), (PySem.DictEntry.mk (PySem.PyData.keyHash P (PySem.Str.ofString "clear")) (PySem.Value.str (PySem.Str.ofString "clear") 473) (PySem.Value.ref 214)), (PySem.DictEntry.mk (PySem.PyData.keyHash P (PySem.Str.ofString "__static_attributes__")) (PySem.Value.str (PySem.Str.ofString "__static_attributes__") 476) (PySem.Value.ref 215))]) 11) (List.toArray [])) ::
  (PySem.Obj.mk (PySem.Value.type "tuple") Option.none (PySem.Data.seq (List.toArray []) 0) (List.toArray [])) ::
  (PySem.Obj.mk PySem.Value.none Option.none (PySem.Data.fields (List.toArray [(PySem.Value.int 94 0), (PySem.Value.int 4 0), (PySem.Value.ref 171), (PySem.Value.int 98 0), (PySem.Value.int 4 0), (PySem.Value.ref 178), (PySem.Value.int 103 0), (PySem.Value.int 4 0), (PySem.Value.ref 185), (PySem.Value.int 108 0), (PySem.Value.int 4 0), (PySem.Value.ref 192), (PySem.Value.int 111 0), (PySem.Value.int 4 0), (PySem.Value.ref 199), (PySem.Value.int 114 0), (PySem.Value.int 4 0), (PySem.Value.ref 206), (PySem.Value.int 117 0), (PySem.Value.int 4 0), (PySem.Value.ref 213)])) (List.toArray [])) ::
  (PySem.Obj.mk (PySem.Value.type "code") Option.none (PySem.Data.fields (List.toArray [(PySem.Value.str (PySem.Str.ofString "HintStack") 412), (PySem.Value.str (PySem.Str.ofString "HintStack") 413), (PySem.Value.str (PySem.Str.ofString "/claim/cut.py") 414), (PySem.Value.int 92 0), (PySem.Value.int 0 0), (PySem.Value.int 0 0), (PySem.Value.int 0 0), (PySem.Value.int 0 0), (PySem.Value.ref 162), (PySem.Value.bool Bool.false), (PySem.Value.int 181 0), (PySem.Value.ref 163), PySem.Value.none, PySem.Value.none, PySem.Value.none, PySem.Value.none, (PySem.Value.int 415 0), (PySem.Value.int 92 0), (PySem.Value.str (PySem.Str.ofString "/claim/cut.py") 416)])) (List.toArray [])) ::
  (PySem.Obj.mk (PySem.Value.type "frame") Option.none PySem.Data.plain (List.toArray [(Option.some (PySem.Value.ref 164)), (Option.some (PySem.Value.ref 3)), (Option.some (PySem.Value.ref 161)), Option.none, (Option.some (PySem.Value.str (PySem.Str.ofString "outlinemill.hint_work") 408)), Option.none, (Option.some (PySem.Value.ref 0))])) ::
  kpo (heap_39 P) 166 ::
  (PySem.Obj.mk PySem.Value.none Option.none (PySem.Data.fields (List.toArray [])) (List.toArray [])) ::
  kpo (heap_39 P) 168 ::
  kpo (heap_39 P) 169 ::
  (PySem.Obj.mk PySem.Value.none Option.none (PySem.Data.func (PySem.FuncData.mk (PySem.Str.ofString "__init__") (PySem.Str.ofString "HintStack.__init__") a13 (PySem.FuncBody.stmts b13) c13 0 [] PySem.Value.none PySem.Value.none PySem.Value.none PySem.Value.none Option.none PySem.Value.none PySem.Value.none 0)) (List.toArray [])) ::
  kpo (heap_39 P) 171 ::
  kpo (heap_39 P) 172 ::
  kpo (heap_39 P) 173 ::
  (PySem.Obj.mk PySem.Value.none Option.none (PySem.Data.fields (List.toArray [])) (List.toArray [])) ::
  kpo (heap_39 P) 175 ::
  kpo (heap_39 P) 176 ::
  (PySem.Obj.mk PySem.Value.none Option.none (PySem.Data.func (PySem.FuncData.mk (PySem.Str.ofString "push") (PySem.Str.ofString "HintStack.push") a14 (PySem.FuncBody.stmts b14) c14 0 [] PySem.Value.none PySem.Value.none PySem.Value.none PySem.Value.none Option.none PySem.Value.none PySem.Value.none 0)) (List.toArray [])) ::
  kpo (heap_39 P) 178 ::
  kpo (heap_39 P) 179 ::
  kpo (heap_39 P) 180 ::
  (PySem.Obj.mk PySem.Value.none Option.none (PySem.Data.fields (List.toArray [])) (List.toArray [])) ::
  kpo (heap_39 P) 182 ::
  kpo (heap_39 P) 183 ::
  (PySem.Obj.mk PySem.Value.none Option.none (PySem.Data.func (PySem.FuncData.mk (PySem.Str.ofString "pop") (PySem.Str.ofString "HintStack.pop") a15 (PySem.FuncBody.stmts b15) c15 0 [] PySem.Value.none PySem.Value.none PySem.Value.none PySem.Value.none Option.none PySem.Value.none PySem.Value.none 0)) (List.toArray [])) ::
  kpo (heap_39 P) 185 ::
  kpo (heap_39 P) 186 ::
  kpo (heap_39 P) 187 ::
  (PySem.Obj.mk PySem.Value.none Option.none (PySem.Data.fields (List.toArray [])) (List.toArray [])) ::
  kpo (heap_39 P) 189 ::
  kpo (heap_39 P) 190 ::
  (PySem.Obj.mk PySem.Value.none Option.none (PySem.Data.func (PySem.FuncData.mk (PySem.Str.ofString "pop_count") (PySem.Str.ofString "HintStack.pop_count") a16 (PySem.FuncBody.stmts b16) c16 0 [] PySem.Value.none PySem.Value.none PySem.Value.none PySem.Value.none Option.none PySem.Value.none PySem.Value.none 0)) (List.toArray [])) ::
  kpo (heap_39 P) 192 ::
  kpo (heap_39 P) 193 ::
  kpo (heap_39 P) 194 ::
  (PySem.Obj.mk PySem.Value.none Option.none (PySem.Data.fields (List.toArray [])) (List.toArray [])) ::
  kpo (heap_39 P) 196 ::
  kpo (heap_39 P) 197 ::
  (PySem.Obj.mk PySem.Value.none Option.none (PySem.Data.func (PySem.FuncData.mk (PySem.Str.ofString "peek") (PySem.Str.ofString "HintStack.peek") a17 (PySem.FuncBody.stmts b17) c17 0 [] PySem.Value.none PySem.Value.none PySem.Value.none PySem.Value.none Option.none PySem.Value.none PySem.Value.none 0)) (List.toArray [])) ::
  kpo (heap_39 P) 199 ::
  kpo (heap_39 P) 200 ::
  kpo (heap_39 P) 201 ::
  (PySem.Obj.mk PySem.Value.none Option.none (PySem.Data.fields (List.toArray [])) (List.toArray [])) ::
  kpo (heap_39 P) 203 ::
  kpo (heap_39 P) 204 ::
  (PySem.Obj.mk PySem.Value.none Option.none (PySem.Data.func (PySem.FuncData.mk (PySem.Str.ofString "depth") (PySem.Str.ofString "HintStack.depth") a18 (PySem.FuncBody.stmts b18) c18 0 [] PySem.Value.none PySem.Value.none PySem.Value.none PySem.Value.none Option.none PySem.Value.none PySem.Value.none 0)) (List.toArray [])) ::
  kpo (heap_39 P) 206 ::
  kpo (heap_39 P) 207 ::
  kpo (heap_39 P) 208 ::
  (PySem.Obj.mk PySem.Value.none Option.none (PySem.Data.fields (List.toArray [])) (List.toArray [])) ::
  kpo (heap_39 P) 210 ::
  kpo (heap_39 P) 211 ::
  (PySem.Obj.mk PySem.Value.none Option.none (PySem.Data.func (PySem.FuncData.mk (PySem.Str.ofString "clear") (PySem.Str.ofString "HintStack.clear") a19 (PySem.FuncBody.stmts b19) c19 0 [] PySem.Value.none PySem.Value.none PySem.Value.none PySem.Value.none Option.none PySem.Value.none PySem.Value.none 0)) (List.toArray [])) ::
  kpo (heap_39 P) 213 ::
  kpo (heap_39 P) 214 ::
  kpo (heap_39 P) 215 ::
  kpo (heap_39 P) 216 ::
  kpo (heap_39 P) 217 ::
  kpo (heap_39 P) 218 ::
  kpo (heap_39 P) 219 ::
  (PySem.Obj.mk (PySem.Value.type "super") Option.none (PySem.Data.fields (List.toArray [(PySem.Value.ref 217), (PySem.Value.ref 217), (PySem.Value.ref 217)])) (List.toArray [])) ::
  (PySem.Obj.mk (PySem.Value.type "builtin_function_or_method") Option.none (PySem.Data.fields (List.toArray [(PySem.Value.builtin "object.__init_subclass__"), (PySem.Value.ref 217)])) (List.toArray [])) ::
  (PySem.Obj.mk (PySem.Value.type "tuple") Option.none (PySem.Data.seq (List.toArray []) 0) (List.toArray [])) ::
  (PySem.Obj.mk (PySem.Value.type "builtin_function_or_method") Option.none (PySem.Data.fields (List.toArray [(PySem.Value.builtin "type.__prepare__"), (PySem.Value.type "type")])) (List.toArray [])) ::
  (PySem.Obj.mk (PySem.Value.type "dict") Option.none (PySem.Data.dict (List.toArray [(PySem.DictEntry.mk (PySem.PyData.keyHash P (PySem.Str.ofString "__module__")) (PySem.Value.str (PySem.Str.ofString "__module__") 491) (PySem.Value.str (PySem.Str.ofString "outlinemill.hint_work") 408)), (PySem.DictEntry.mk (PySem.PyData.keyHash P (PySem.Str.ofString "__qualname__")) (PySem.Value.str (PySem.Str.ofString "__qualname__") 493) (PySem.Value.str (PySem.Str.ofString "HintWork") 492)), (PySem.DictEntry.mk (PySem.PyData.keyHash P (PySem.Str.ofString "__firstlineno__")) (PySem.Value.str (PySem.Str.ofString "__firstlineno__") 495) (PySem.Value.int 119 494)), (PySem.DictEntry.mk (PySem.PyData.keyHash P (PySem.Str.ofString "__init__")) (PySem.Value.str (PySem.Str.ofString "__init__") 513) (PySem.Value.ref 237)), (PySem.DictEntry.mk (PySem.PyData.keyHash P (PySem.Str.ofString "zone")) (PySem.Value.str (PySem.Str.ofString "zone") 521) (PySem.Value.ref 244)), (PySem.DictEntry.mk (PySem.PyData.keyHash P (PySem.Str.ofString "cvt_value")) (PySem.Value.str (PySem.Str.ofString "cvt_value") 529) (PySem.Value.ref 251)), (PySem.DictEntry.mk (PySem.PyData.keyHash P (PySem.Str.ofString "put_cvt")) (PySem.Value.str (PySem.Str.ofString "put_cvt") 538) (PySem.Value.ref 258)), (PySem.DictEntry.mk (PySem.PyData.keyHash P (PySem.Str.ofString "next_loop")) (PySem.Value.str (PySem.Str.ofString "next_loop") 545) (PySem.Value.ref 265)), (PySem.DictEntry.mk (PySem.PyData.keyHash P (PySem.Str.ofString "__static_attributes__")) (PySem.Value.str (PySem.Str.ofString "__static_attributes__") 554) (PySem.Value.ref 266))]) 9) (List.toArray [])) ::
  (PySem.Obj.mk (PySem.Value.type "tuple") Option.none (PySem.Data.seq (List.toArray []) 0) (List.toArray [])) ::
  (PySem.Obj.mk PySem.Value.none Option.none (PySem.Data.fields (List.toArray [(PySem.Value.int 121 0), (PySem.Value.int 4 0), (PySem.Value.ref 236), (PySem.Value.int 131 0), (PySem.Value.int 4 0), (PySem.Value.ref 243), (PySem.Value.int 134 0), (PySem.Value.int 4 0), (PySem.Value.ref 250), (PySem.Value.int 137 0), (PySem.Value.int 4 0), (PySem.Value.ref 257), (PySem.Value.int 140 0), (PySem.Value.int 4 0), (PySem.Value.ref 264)])) (List.toArray [])) ::
  (PySem.Obj.mk (PySem.Value.type "code") Option.none (PySem.Data.fields (List.toArray [(PySem.Value.str (PySem.Str.ofString "HintWork") 486), (PySem.Value.str (PySem.Str.ofString "HintWork") 487), (PySem.Value.str (PySem.Str.ofString "/claim/cut.py") 488), (PySem.Value.int 119 0), (PySem.Value.int 0 0), (PySem.Value.int 0 0), (PySem.Value.int 0 0), (PySem.Value.int 0 0), (PySem.Value.ref 225), (PySem.Value.bool Bool.false), (PySem.Value.int 181 0), (PySem.Value.ref 226), PySem.Value.none, PySem.Value.none, PySem.Value.none, PySem.Value.none, (PySem.Value.int 489 0), (PySem.Value.int 119 0), (PySem.Value.str (PySem.Str.ofString "/claim/cut.py") 490)])) (List.toArray [])) ::
  (PySem.Obj.mk (PySem.Value.type "frame") Option.none PySem.Data.plain (List.toArray [(Option.some (PySem.Value.ref 227)), (Option.some (PySem.Value.ref 3)), (Option.some (PySem.Value.ref 224)), Option.none, (Option.some (PySem.Value.str (PySem.Str.ofString "outlinemill.hint_work") 408)), Option.none, (Option.some (PySem.Value.ref 0))])) ::
  kpo (heap_39 P) 229 ::
  kpo (heap_39 P) 230 ::
  kpo (heap_39 P) 231 ::
  (PySem.Obj.mk PySem.Value.none Option.none (PySem.Data.fields (List.toArray [])) (List.toArray [])) ::
  kpo (heap_39 P) 233 ::
  kpo (heap_39 P) 234 ::
  (PySem.Obj.mk PySem.Value.none Option.none (PySem.Data.func (PySem.FuncData.mk (PySem.Str.ofString "__init__") (PySem.Str.ofString "HintWork.__init__") a20 (PySem.FuncBody.stmts b20) c20 0 [] PySem.Value.none PySem.Value.none PySem.Value.none PySem.Value.none Option.none PySem.Value.none PySem.Value.none 0)) (List.toArray [])) ::
  kpo (heap_39 P) 236 ::
  kpo (heap_39 P) 237 ::
  kpo (heap_39 P) 238 ::
  (PySem.Obj.mk PySem.Value.none Option.none (PySem.Data.fields (List.toArray [])) (List.toArray [])) ::
  kpo (heap_39 P) 240 ::
  kpo (heap_39 P) 241 ::
  (PySem.Obj.mk PySem.Value.none Option.none (PySem.Data.func (PySem.FuncData.mk (PySem.Str.ofString "zone") (PySem.Str.ofString "HintWork.zone") a21 (PySem.FuncBody.stmts b21) c21 0 [] PySem.Value.none PySem.Value.none PySem.Value.none PySem.Value.none Option.none PySem.Value.none PySem.Value.none 0)) (List.toArray [])) ::
  kpo (heap_39 P) 243 ::
  kpo (heap_39 P) 244 ::
  kpo (heap_39 P) 245 ::
  (PySem.Obj.mk PySem.Value.none Option.none (PySem.Data.fields (List.toArray [])) (List.toArray [])) ::
  kpo (heap_39 P) 247 ::
  kpo (heap_39 P) 248 ::
  (PySem.Obj.mk PySem.Value.none Option.none (PySem.Data.func (PySem.FuncData.mk (PySem.Str.ofString "cvt_value") (PySem.Str.ofString "HintWork.cvt_value") a22 (PySem.FuncBody.stmts b22) c22 0 [] PySem.Value.none PySem.Value.none PySem.Value.none PySem.Value.none Option.none PySem.Value.none PySem.Value.none 0)) (List.toArray [])) ::
  kpo (heap_39 P) 250 ::
  kpo (heap_39 P) 251 ::
  kpo (heap_39 P) 252 ::
  (PySem.Obj.mk PySem.Value.none Option.none (PySem.Data.fields (List.toArray [])) (List.toArray [])) ::
  kpo (heap_39 P) 254 ::
  kpo (heap_39 P) 255 ::
  (PySem.Obj.mk PySem.Value.none Option.none (PySem.Data.func (PySem.FuncData.mk (PySem.Str.ofString "put_cvt") (PySem.Str.ofString "HintWork.put_cvt") a23 (PySem.FuncBody.stmts b23) c23 0 [] PySem.Value.none PySem.Value.none PySem.Value.none PySem.Value.none Option.none PySem.Value.none PySem.Value.none 0)) (List.toArray [])) ::
  kpo (heap_39 P) 257 ::
  kpo (heap_39 P) 258 ::
  kpo (heap_39 P) 259 ::
  (PySem.Obj.mk PySem.Value.none Option.none (PySem.Data.fields (List.toArray [])) (List.toArray [])) ::
  kpo (heap_39 P) 261 ::
  kpo (heap_39 P) 262 ::
  (PySem.Obj.mk PySem.Value.none Option.none (PySem.Data.func (PySem.FuncData.mk (PySem.Str.ofString "next_loop") (PySem.Str.ofString "HintWork.next_loop") a24 (PySem.FuncBody.stmts b24) c24 0 [] PySem.Value.none PySem.Value.none PySem.Value.none PySem.Value.none Option.none PySem.Value.none PySem.Value.none 0)) (List.toArray [])) ::
  kpo (heap_39 P) 264 ::
  kpo (heap_39 P) 265 ::
  kpo (heap_39 P) 266 ::
  kpo (heap_39 P) 267 ::
  kpo (heap_39 P) 268 ::
  kpo (heap_39 P) 269 ::
  kpo (heap_39 P) 270 ::
  (PySem.Obj.mk (PySem.Value.type "super") Option.none (PySem.Data.fields (List.toArray [(PySem.Value.ref 268), (PySem.Value.ref 268), (PySem.Value.ref 268)])) (List.toArray [])) ::
  (PySem.Obj.mk (PySem.Value.type "builtin_function_or_method") Option.none (PySem.Data.fields (List.toArray [(PySem.Value.builtin "object.__init_subclass__"), (PySem.Value.ref 268)])) (List.toArray [])) ::
  kpo (heap_39 P) 273 ::
  (PySem.Obj.mk PySem.Value.none Option.none (PySem.Data.fields (List.toArray [])) (List.toArray [])) ::
  kpo (heap_39 P) 275 ::
  kpo (heap_39 P) 276 ::
  (PySem.Obj.mk PySem.Value.none Option.none (PySem.Data.func (PySem.FuncData.mk (PySem.Str.ofString "_law_pool") (PySem.Str.ofString "_law_pool") a25 (PySem.FuncBody.stmts b25) c25 0 [] PySem.Value.none PySem.Value.none PySem.Value.none PySem.Value.none Option.none PySem.Value.none PySem.Value.none 0)) (List.toArray [])) ::
  kpo (heap_39 P) 278 ::
  kpo (heap_39 P) 279 ::
  kpo (heap_39 P) 280 ::
  (PySem.Obj.mk PySem.Value.none Option.none (PySem.Data.fields (List.toArray [])) (List.toArray [])) ::
  kpo (heap_39 P) 282 ::
  kpo (heap_39 P) 283 ::
  (PySem.Obj.mk PySem.Value.none Option.none (PySem.Data.func (PySem.FuncData.mk (PySem.Str.ofString "_law_take") (PySem.Str.ofString "_law_take") a26 (PySem.FuncBody.stmts b26) c26 0 [] PySem.Value.none PySem.Value.none PySem.Value.none PySem.Value.none Option.none PySem.Value.none PySem.Value.none 0)) (List.toArray [])) ::
  kpo (heap_39 P) 285 ::
  kpo (heap_39 P) 286 ::
  kpo (heap_39 P) 287 ::
  (PySem.Obj.mk PySem.Value.none Option.none (PySem.Data.fields (List.toArray [])) (List.toArray [])) ::
  kpo (heap_39 P) 289 ::
  kpo (heap_39 P) 290 ::
  (PySem.Obj.mk PySem.Value.none Option.none (PySem.Data.func (PySem.FuncData.mk (PySem.Str.ofString "_law_one") (PySem.Str.ofString "_law_one") a27 (PySem.FuncBody.stmts b27) c27 0 [] PySem.Value.none PySem.Value.none PySem.Value.none PySem.Value.none Option.none PySem.Value.none PySem.Value.none 0)) (List.toArray [])) ::
  kpo (heap_39 P) 292 ::
  kpo (heap_39 P) 293 ::
  kpo (heap_39 P) 294 ::
  (PySem.Obj.mk PySem.Value.none Option.none (PySem.Data.fields (List.toArray [])) (List.toArray [])) ::
  kpo (heap_39 P) 296 ::
  kpo (heap_39 P) 297 ::
  (PySem.Obj.mk PySem.Value.none Option.none (PySem.Data.func (PySem.FuncData.mk (PySem.Str.ofString "_law_is_near") (PySem.Str.ofString "_law_is_near") a28 (PySem.FuncBody.stmts b28) c28 0 [] PySem.Value.none PySem.Value.none PySem.Value.none PySem.Value.none Option.none PySem.Value.none PySem.Value.none 0)) (List.toArray [])) ::
  kpo (heap_39 P) 299 ::
  kpo (heap_39 P) 300 ::
  kpo (heap_39 P) 301 ::
  (PySem.Obj.mk PySem.Value.none Option.none (PySem.Data.fields (List.toArray [])) (List.toArray [])) ::
  kpo (heap_39 P) 303 ::
  kpo (heap_39 P) 304 ::
  (PySem.Obj.mk PySem.Value.none Option.none (PySem.Data.func (PySem.FuncData.mk (PySem.Str.ofString "_law_place") (PySem.Str.ofString "_law_place") a29 (PySem.FuncBody.stmts b29) c29 0 [] PySem.Value.none PySem.Value.none PySem.Value.none PySem.Value.none Option.none PySem.Value.none PySem.Value.none 0)) (List.toArray [])) ::
  kpo (heap_39 P) 306 ::
  kpo (heap_39 P) 307 ::
  kpo (heap_39 P) 308 ::
  (PySem.Obj.mk PySem.Value.none Option.none (PySem.Data.fields (List.toArray [])) (List.toArray [])) ::
  kpo (heap_39 P) 310 ::
  kpo (heap_39 P) 311 ::
  (PySem.Obj.mk PySem.Value.none Option.none (PySem.Data.func (PySem.FuncData.mk (PySem.Str.ofString "_law_deed_right") (PySem.Str.ofString "_law_deed_right") a30 (PySem.FuncBody.stmts b30) c30 0 [] PySem.Value.none PySem.Value.none PySem.Value.none PySem.Value.none Option.none PySem.Value.none PySem.Value.none 0)) (List.toArray [])) ::
  kpo (heap_39 P) 313 ::
  kpo (heap_39 P) 314 ::
  kpo (heap_39 P) 315 ::
  (PySem.Obj.mk PySem.Value.none Option.none (PySem.Data.fields (List.toArray [])) (List.toArray [])) ::
  kpo (heap_39 P) 317 ::
  kpo (heap_39 P) 318 ::
  (PySem.Obj.mk PySem.Value.none Option.none (PySem.Data.func (PySem.FuncData.mk (PySem.Str.ofString "_law_is_refused") (PySem.Str.ofString "_law_is_refused") a31 (PySem.FuncBody.stmts b31) c31 0 [] PySem.Value.none PySem.Value.none PySem.Value.none PySem.Value.none Option.none PySem.Value.none PySem.Value.none 0)) (List.toArray [])) ::
  kpo (heap_39 P) 320 ::
  kpo (heap_39 P) 321 ::
  kpo (heap_39 P) 322 ::
  (PySem.Obj.mk PySem.Value.none Option.none (PySem.Data.fields (List.toArray [])) (List.toArray [])) ::
  kpo (heap_39 P) 324 ::
  kpo (heap_39 P) 325 ::
  (PySem.Obj.mk PySem.Value.none Option.none (PySem.Data.func (PySem.FuncData.mk (PySem.Str.ofString "law") (PySem.Str.ofString "law") a32 (PySem.FuncBody.stmts b32) c32 0 [] PySem.Value.none PySem.Value.none PySem.Value.none PySem.Value.none Option.none PySem.Value.none PySem.Value.none 0)) (List.toArray [])) ::
  kpo (heap_39 P) 327 ::
  kpo (heap_39 P) 328 :: [] : Params → List Obj)) _ (by conv => lhs; whnf) _ (by conv => lhs; whnf) _ (by conv => lhs; whnf) _ (by conv => lhs; whnf) _ (by conv => lhs; whnf) _ (by conv => lhs; whnf) _ (by conv => lhs; whnf) _ (by conv => lhs; whnf) _ (by conv => lhs; whnf) _ (by conv => lhs; whnf) _ (by conv => lhs; whnf) _ (by conv => lhs; whnf) _ (by conv => lhs; whnf) _ (by conv => lhs; whnf) _ (by conv => lhs; whnf) _ (by conv => lhs; whnf) _ (by conv => lhs; whnf) _ (by conv => lhs; whnf) _ (by conv => lhs; whnf) _ (by conv => lhs; whnf) _ (by conv => lhs; whnf) _ (by conv => lhs; whnf) _ (by conv => lhs; whnf) _ (by conv => lhs; whnf) _ (by conv => lhs; whnf) _ (by conv => lhs; whnf) _ (by conv => lhs; whnf) _ (by conv => lhs; whnf) _ (by conv => lhs; whnf) _ (by conv => lhs; whnf) _ (by conv => lhs; whnf) _ (by conv => lhs; whnf) _ (by conv => lhs; whnf) _ (by conv => lhs; whnf) _ (by conv => lhs; whnf) _ (by conv => lhs; whnf) _ (by conv => lhs; whnf) _ (by conv => lhs; whnf) _ (by conv => lhs; whnf) _ (by conv => lhs; whnf) _ (by conv => lhs; whnf) _ (by conv => lhs; whnf) _ (by conv => lhs; whnf) _ (by conv => lhs; whnf) _ (by conv => lhs; whnf) _ (by conv => lhs; whnf) _ (by conv => lhs; whnf) _ (by conv => lhs; whnf) _ (by conv => lhs; whnf) _ (by conv => lhs; whnf) _ (by conv => lhs; whnf) _ (by conv => lhs; whnf) _ (by conv => lhs; whnf) _ (by conv => lhs; whnf) _ (by conv => lhs; whnf) _ (by conv => lhs; whnf) _ (by conv => lhs; whnf) _ (by conv => lhs; whnf) _ (by conv => lhs; whnf) _ (by conv => lhs; whnf) _ (by conv => lhs; whnf) _ (by conv => lhs; whnf) _ (by conv => lhs; whnf) _ (by conv => lhs; whnf) _ (by conv => lhs; whnf) _ (by conv => lhs; whnf) _ (by conv => lhs; whnf) _ (by conv => lhs; whnf) _ (by conv => lhs; whnf) _ (by conv => lhs; whnf) _ (by conv => lhs; whnf) _ (by conv => lhs; whnf) _ (by conv => lhs; whnf) _ (by conv => lhs; whnf) _ (by conv => lhs; whnf) _ (by conv => lhs; whnf) _ (by conv => lhs; whnf) _ (by conv => lhs; whnf) _ (by conv => lhs; whnf) _ (by conv => lhs; whnf) _ (by conv => lhs; whnf) _ (by conv => lhs; whnf) _ (by conv => lhs; whnf) _ (by conv => lhs; whnf) _ (by conv => lhs; whnf) _ (by conv => lhs; whnf) _ (by conv => lhs; whnf) _ (by conv => lhs; whnf) _ (by conv => lhs; whnf) _ (by conv => lhs; whnf) _ (by conv => lhs; whnf) _ (by conv => lhs; whnf) _ (by conv => lhs; whnf) _ (by conv => lhs; whnf) _ (by conv => lhs; whnf) _ (by conv => lhs; whnf) _ (by conv => lhs; whnf) _ (by conv => lhs; whnf) _ (by conv => lhs; whnf)
end hd
def treeOf : List Obj → BT → Nat → BT
  | [], t, _ => t
  | o :: r, t, n => treeOf r (t.ins n o) (n + 1)

section
variable {p q : Program} {loose : List Str} {Xt : Shared → Bool} {α : Type} {Yf : Shared → α} {Ya : World → α} {N : Nat} {g0 : Bool}
theorem left_by_trees {m : Nat} {ann : Option Value} {S M F : World → OsState → SharedT} {env : Env} {c : Code} {pos pos₁ pos₂ qp : Pos} {n₁ n₂ K₁ K₂ j : Nat} {H₁ : Params → Heap} {gs₁ : Array GenState} {d₁ : Drawn} {k₁ : Nat}
    (hF : ∀ (w : World) (os : OsState), (F w os).abs = ⟨H₁ w.params, gs₁, d₁, k₁, os⟩)
    (e : opening p = plainProg p.main.scope.names) (hN : Nat.ble 600 N = true) (f : ∀ s, fenceModules? p s = some s)
    (size : ∀ w : World, ((boot_heap w.params).isNs mainGlobals && (Array.mk [] : Array GenState).size == 0, (boot_heap w.params).objs.size, (boot_heap w.params).nsMap mainGlobals "__annotations__") = (true, m, ann))
    (enter : ∀ (w : World) (os : OsState), topGo treeTable p w m ann n₁ ⟨boot_heap w.params, Array.mk [], boot_drawn, boot_toks, os⟩ (topStub p) = some ((S w os).abs, ⟨denote treeTable (.body (behindTheImports p) env), c, pos, [topFrame qp]⟩))
    (block : ∀ (w : World) (os : OsState), segRun treeTable p w m ann 1 n₂ (S w os).abs (blockOf (behindTheImports p) env c pos [topFrame qp]) = some (.next, (S w os).abs, c, pos))
    (half : ∀ (w : World) (os : OsState), segRunT treeTable p w m ann 1 K₁ (S w os) (piecesOf ((behindTheImports p).take j) env c pos [topFrame qp]) = some (.next, M w os, c, pos₁))
    (rest : ∀ (w : World) (os : OsState), segRunT treeTable p w m ann 1 K₂ (M w os) (piecesOf ((behindTheImports p).drop j) env c pos₁ [topFrame qp]) = some (.next, F w os, c, pos₂))
    (fin : ∀ (w : World) (s : Shared) (pos' : Pos), topRun treeTable p w m ann 2 s ⟨doneF .next, c, pos', [topFrame qp]⟩ = some s)
    (le : Nat.ble (n₁ + (n₂ + (K₁ + (K₂ + 2)))) N = true)
    (l1 : ∀ (w : World) (os : OsState), (staticsOk (importedModules p.main.body) (boot_heap w.params) (F w os).abs.heap && namesBound p (F w os).abs.heap && gensDone (F w os).abs && laidKept (boot_heap w.params) (F w os).abs.heap) = true)
    (l2 : ∀ (w : World) (os : OsState), openSeen q loose (importedModules p.main.body) Xt g0 (F w os).abs = openGood q loose)
    (l3 : ∀ (w : World) (os : OsState), Yf (F w os).abs = Ya w) : LeftO p q loose Xt Yf Ya N g0 := by
  refine LeftO.of_pieces (boot_open e hN f) size (M := n₁ + (n₂ + (K₁ + (K₂ + 2)))) (H₁ := H₁) (gs₁ := gs₁) (d₁ := d₁) (k₁ := k₁) (fun w os => ?_) le (fun w => funext fun os => ?_)
  · have r := piece_app (rest := []) (segRun_of (rest w os)) (piece_nil (env := env) (fin w (F w os).abs pos₂))
    rw [List.append_nil] at r
    have r := piece_app (segRun_of (half w os)) r
    rw [List.take_append_drop] at r
    have r := go_top (enter w os) (piece_block (block w os) r)
    rw [hF] at r
    exact r
  · have a := l1 w os
    have b := l2 w os
    have c := l3 w os
    rw [hF] at a b c
    exact Prod.ext a (Prod.ext b c)
end
noncomputable abbrev topEnv : Env := { scope := PySem.Challenge.pw_xm0721_01.main.scope, locals := mainNs, globals := mainNs, cells := [], code := .ref 13, frame := some 14 }
noncomputable abbrev topCode : Code := .body (behindTheImports PySem.Challenge.pw_xm0721_01) topEnv
noncomputable def topS (w : World) (os : OsState) : SharedT :=
  ⟨treeOf ((boot_heap w.params).objs.toList ++ [{ cls := .type "tuple", data := .seq #[] }, { cls := .none, data := .fields #[] },
    { cls := .type "code", data := .fields #[.str (Str.ofString "<module>") 182, .str (Str.ofString "<module>") 183, .str (Str.ofString "/claim/cut.py") 184, .int 1 0, .int 0 0, .int 0 0, .int 0 0, .int 0 0, .ref 11, .bool false, .int 181 0, .ref 12, .none, .none, .none, .none, .int 185 0, .int 1 0, .str (Str.ofString "/claim/cut.py") 186] },
    { cls := .type "frame", slots := #[some (.ref 13), some (.ref 3), some (.ref 3), none, some (.str (Str.ofString "__main__") 164), none, some (.ref 0)] }]) .nil 0, 15, {}, Array.mk [], {}, 187, os⟩
theorem h_e : opening PySem.Challenge.pw_xm0721_01 = plainProg PySem.Challenge.pw_xm0721_01.main.scope.names := by kernel_rfl
theorem h_f (s : Shared) : fenceModules? PySem.Challenge.pw_xm0721_01 s = some s := by kernel_rfl
theorem h_size (w : World) : ((boot_heap w.params).isNs mainGlobals && (Array.mk [] : Array GenState).size == 0, (boot_heap w.params).objs.size, (boot_heap w.params).nsMap mainGlobals "__annotations__") = (true, 11, some (.ref 6)) := by kernel_rfl
theorem h_enter (w : World) (os : OsState) : topGo treeTable PySem.Challenge.pw_xm0721_01 w 11 (some (.ref 6)) 12 ⟨boot_heap w.params, Array.mk [], boot_drawn, boot_toks, os⟩ (topStub PySem.Challenge.pw_xm0721_01) = some ((topS w os).abs, ⟨denote treeTable (.body (behindTheImports PySem.Challenge.pw_xm0721_01) topEnv), topCode, ⟨0, 0, 0, 0⟩, [topFrame ⟨0, 0, 0, 0⟩]⟩) := by kernel_rfl
theorem h_block (w : World) (os : OsState) : segRun treeTable PySem.Challenge.pw_xm0721_01 w 11 (some (.ref 6)) 1 1 (topS w os).abs (blockOf (behindTheImports PySem.Challenge.pw_xm0721_01) topEnv topCode ⟨0, 0, 0, 0⟩ [topFrame ⟨0, 0, 0, 0⟩]) = some (.next, (topS w os).abs, topCode, ⟨0, 0, 0, 0⟩) := by kernel_rfl
theorem h_fin (w : World) (s : Shared) (pos' : Pos) : topRun treeTable PySem.Challenge.pw_xm0721_01 w 11 (some (.ref 6)) 2 s ⟨doneF .next, topCode, pos', [topFrame ⟨0, 0, 0, 0⟩]⟩ = some s := by kernel_rfl
noncomputable def topM (w : World) (os : OsState) : SharedT := ⟨treeOf (hd.mid w.params) .nil 0, 159, {}, Array.mk [], {}, 410, os⟩
noncomputable def topF (w : World) (os : OsState) : SharedT := ⟨treeOf (hd.fin w.params) .nil 0, 329, {}, Array.mk [], {}, 643, os⟩
theorem h_F (w : World) (os : OsState) : (topF w os).abs = ⟨absHeap (treeOf (hd.fin w.params) .nil 0) 329 {}, Array.mk [], {}, 643, os⟩ := by kernel_rfl
theorem h_half (w : World) (os : OsState) : segRunT treeTable PySem.Challenge.pw_xm0721_01 w 11 (some (.ref 6)) 1 1310 (topS w os) (piecesOf ((behindTheImports PySem.Challenge.pw_xm0721_01).take 16) topEnv topCode ⟨0, 0, 0, 0⟩ [topFrame ⟨0, 0, 0, 0⟩]) = some (.next, topM w os, topCode, ⟨91, 0, 91, 8⟩) := by kernel_rfl
theorem h_rest (w : World) (os : OsState) : segRunT treeTable PySem.Challenge.pw_xm0721_01 w 11 (some (.ref 6)) 1 1070 (topM w os) (piecesOf ((behindTheImports PySem.Challenge.pw_xm0721_01).drop 16) topEnv topCode ⟨91, 0, 91, 8⟩ [topFrame ⟨0, 0, 0, 0⟩]) = some (.next, topF w os, topCode, ⟨189, 0, 201, 15⟩) := by kernel_rfl
theorem h_l1 (w : World) (os : OsState) : (staticsOk (importedModules PySem.Challenge.pw_xm0721_01.main.body) (boot_heap w.params) (topF w os).abs.heap && namesBound PySem.Challenge.pw_xm0721_01 (topF w os).abs.heap && gensDone (topF w os).abs && laidKept (boot_heap w.params) (topF w os).abs.heap) = true := by kernel_rfl
theorem h_l2 (w : World) (os : OsState) : openSeen hd.view_39 [Str.ofString "HintWork"] (importedModules PySem.Challenge.pw_xm0721_01.main.body) (fun s => xlAt hd.view_39 [] s && recOk (RowW.records PySem.Challenge.rw_xm0721_01.row.toRowW) s) true (topF w os).abs = openGood hd.view_39 [Str.ofString "HintWork"] := by kernel_rfl
theorem h_l3 (w : World) (os : OsState) : Hook.obs hd.HH (topF w os).abs = Hook.val hd.HH w := by kernel_rfl
theorem hdl : LeftO PySem.Challenge.pw_xm0721_01 hd.view_39 [Str.ofString "HintWork"] (fun s => xlAt hd.view_39 [] s && recOk (RowW.records PySem.Challenge.rw_xm0721_01.row.toRowW) s) (Hook.obs hd.HH) (Hook.val hd.HH) 4784 true :=
  left_by_trees (H₁ := fun P => absHeap (treeOf (hd.fin P) .nil 0) 329 {}) (gs₁ := Array.mk []) (d₁ := {}) (k₁ := 643) h_F h_e (by decide) h_f h_size h_enter h_block h_half h_rest h_fin (by decide) h_l1 h_l2 h_l3
end
section
open PySem PySem.W
section
variable {M : Model} {A : Around} {E : Value → Shared → Prop} {h : Heap} {g : Array GenState} {d : Drawn} {t : Nat} {os : OsState}
variable {nm q : Str} {C N : Addr} {bs bm bmN : List Value} {hdct : Bool} {sn : List Str} {sub : List Value} {ab : Bool} {col : Option Bool} {dd : Option Addr} {k0 k1 k2 k3 k5 : Option Value} {Bn newId inN : String}

theorem check_newX (Fn : ExcBaseFacts Bn newId inN bmN) (hcont : (Value.ref C :: bm).contains (.type Bn) = true) {rest : List Value} {Q : Unit → Shared → Prop}
    (hC : h.get? C = some (excClassObj nm q C N bs bm hdct sn sub ab col dd k0 k1 k2 k3 k5 newId))
    (hq : Q () ⟨h, g, d, t, os⟩) : wpAny M A (checkBuiltinCall newId ⟨.ref C :: rest, []⟩) Q E ⟨h, g, d, t, os⟩ := by
  have hstar := Fn.noStar
  simp only [checkBuiltinCall, Fn.newKind, Fn.newSplit, Fn.newRow]
  repeat (first | refine wpAny_loadPart_at hC ?_ | (refine wpAny_isSubtype_exc hC ?_; rw [hcont]) | refine wpAny_staticBase_exc hC ?_ | refine wpAny_madeBy_exc hC ?_ | simp only [bne_self_eq_false, Bool.false_eq_true, if_false] | wp_step)
  exact hq
end

abbrev excO (C t : Addr) : Obj := { cls := .ref C, data := .fields #[.ref t, .none, .none, .none, .bool false, .none] }
abbrev excX (C t dx : Addr) : Obj := { cls := .ref C, dict := some dx, data := .fields #[.ref t, .none, .none, .none, .bool false, .none] }
abbrev tupO (vs : List Value) : Obj := { cls := .type "tuple", data := .seq vs.toArray }

section
variable {prog : Program} {w : World} {A : Around} {R : Result → Shared → Prop} {E : Value → Shared → Prop} {h : Heap} {g : Array GenState} {d : Drawn} {t : Nat} {os : OsState}
variable {nm q : Str} {C N : Addr} {bs bm bmN : List Value} {hdct : Bool} {sn : List Str} {sub : List Value} {ab : Bool} {col : Option Bool} {dd : Option Addr} {k0 k1 k2 k3 k5 : Option Value} {Bn newId inN : String}

theorem exc_newX (Fn : ExcBaseFacts Bn newId inN bmN) (hcB : (Value.ref C :: bm).contains (.type Bn) = true) (hcA : (Value.ref C :: bm).contains (.type "AttributeError") = false) (hcN : (Value.ref C :: bm).contains (.type "NameError") = false)
    {rest : List Value} (hC : h.get? C = some (excClassObj nm q C N bs bm hdct sn sub ab col dd k0 k1 k2 k3 k5 newId))
    (hq : R (.ok (.ret (.ref (h.objs.size + 1)))) ⟨(h.push (tupO rest)).push (excO C h.objs.size), g, d, t, os⟩) (hrest : rest.length ≤ sizeLine := by size_fits) :
    codeAny (model prog w) A (.builtin newId ⟨.ref C :: rest, []⟩) R ⟨h, g, d, t, os⟩ := by
  have hends := Fn.ends
  refine codeAny_builtinAt Fn.entry ?_
  unfold Builtin.«BaseException.__new__»
  refine wpAt_bind ?_
  show wpAt _ _ _ (stack >>= _) _ _ _
  refine wpAt_bind (wpAt_stack fun p below => wpAt_of_wpAny ?_)
  wp_walk
  refine wpAt_of_wpAny ?_
  rw [Fn.owner]
  repeat (first | with_reducible refine wpAny_madeHere_exc Fn.canon hC ?_ | with_reducible refine wpAny_loadPart_at hC ?_ | (with_reducible refine wpAny_isSubtype_exc hC ?_; first | rw [hcB] | rw [hcA] | rw [hcN]) | wp_step)
  show R _ _
  rw [Heap.size_push]
  exact hq

theorem type_callX (Fn : ExcBaseFacts Bn newId inN bmN) (hcB : (Value.ref C :: bm).contains (.type Bn) = true) (hcA : (Value.ref C :: bm).contains (.type "AttributeError") = false) (hcN : (Value.ref C :: bm).contains (.type "NameError") = false)
    {rest : List Value} {fI : Addr} {oI : Obj} {Q : Fin → Shared → Prop}
    (hC : h.get? C = some (excClassObj nm q C N bs bm hdct sn sub ab col dd k0 k1 k2 k3 k5 newId))
    (hinit : ∀ h', (∀ b o, h.get? b = some o → h'.get? b = some o) → Looks (model prog w) h' (typeLookup (.ref C) "__init__") (some (.ref fI)))
    (hfI : h.get? fI = some oI) (hfc : oI.cls = .type "function")
    (hq : wpAny (model prog w) A (call (.ref fI) (.ref (h.objs.size + 1) :: rest)) (fun r s' => r = .none ∧ Q (.done (.ret (.ref (h.objs.size + 1)))) s') E ⟨(h.push (tupO rest)).push (excO C h.objs.size), g, d, t, os⟩) (hrest : rest.length ≤ sizeLine := by size_fits) :
    wpAny (model prog w) A (Builtin.«type.__call__» ⟨.ref C :: rest, []⟩) Q E ⟨h, g, d, t, os⟩ := by
  repeat (first | with_reducible refine wpAny_loadPart_at hC ?_ | with_reducible refine wpAny_madeBy_exc hC ?_ | wp_step)
  refine codeAny_call_builtin_code (Code.quiet_builtin _ Fn.quiet) (check_newX Fn hcB hC ?_)
  refine exc_newX Fn hcB hcA hcN hC ?_ hrest
  show wpAny _ _ _ _ _ _
  have hC₁ := Heap.get?_push_of_some (excO C h.objs.size) (Heap.get?_push_of_some (tupO rest) hC)
  have hfI₁ := Heap.get?_push_of_some (excO C h.objs.size) (Heap.get?_push_of_some (tupO rest) hfI)
  have hget : ((h.push (tupO rest)).push (excO C h.objs.size)).get? (h.objs.size + 1) = some (excO C h.objs.size) := by heap_get
  have hcC : (Value.ref C :: bm).contains (.ref C) = true := by simp
  have hl := hinit ((h.push (tupO rest)).push (excO C h.objs.size)) (fun b o hb => Heap.get?_push_of_some _ (Heap.get?_push_of_some _ hb))
  unfold isInstance
  repeat (first | with_reducible refine wpAny_loadPart_at hget ?_ | (with_reducible refine wpAny_isSubtype_exc hC₁ ?_; rw [hcC]) | wp_step)
  show wpAny _ _ (typeLookup (.ref C) _) _ _ _
  refine hl.here ?_
  refine wpAny_holding (wpAny_bind ?_)
  unfold bindSpecial
  refine wpAny_bind (wpAny_typeOf (T := "function") ⟨_, hfI₁, hfc⟩ ?_)
  rw [if_pos (by decide)]
  refine wpAny_pure (wpAny_bind (wpAny_mono hq (fun r s' hr => ?_) fun _ _ x => x))
  obtain ⟨rfl, hQ⟩ := hr
  wp_walk
  exact hQ

theorem call_excX (Fn : ExcBaseFacts Bn newId inN bmN) (hcB : (Value.ref C :: bm).contains (.type Bn) = true) (hcA : (Value.ref C :: bm).contains (.type "AttributeError") = false) (hcN : (Value.ref C :: bm).contains (.type "NameError") = false)
    {rest : List Value} {fI : Addr} {oI : Obj} {Q : Value → Shared → Prop}
    (hC : h.get? C = some (excClassObj nm q C N bs bm hdct sn sub ab col dd k0 k1 k2 k3 k5 newId))
    (hinit : ∀ h', (∀ b o, h.get? b = some o → h'.get? b = some o) → Looks (model prog w) h' (typeLookup (.ref C) "__init__") (some (.ref fI)))
    (hfI : h.get? fI = some oI) (hfc : oI.cls = .type "function")
    (hq : wpAny (model prog w) (A.under (.builtin "type.__call__" ⟨.ref C :: rest, []⟩)) (call (.ref fI) (.ref (h.objs.size + 1) :: rest)) (fun r s' => r = .none ∧ Q (.ref (h.objs.size + 1)) s') E ⟨(h.push (tupO rest)).push (excO C h.objs.size), g, d, t, os⟩) (hrest : rest.length ≤ sizeLine := by size_fits) :
    wpAny (model prog w) A (call (.ref C) rest) Q E ⟨h, g, d, t, os⟩ := by
  have f1 := tc_lookup
  have f2 := tc_bind (.ref C)
  have hT : (⟨h, g, d, t, os⟩ : Shared).TypeIs (.ref C) "type" := ⟨_, hC, rfl⟩
  refine wpAny_call (codeAny_of_tree ?_)
  show wpAny _ _ (callAny (.ref C) _) _ _ _
  repeat (any_goals (first | assumption | with_reducible refine wpAny_loadPart_at hC ?_ | wp_step))
  refine ⟨rfl, ?_⟩
  exact codeAny_call_builtin_at (Code.quiet_builtin _ (by decide +kernel)) entry_typeCall (wpAny_check_type_call_sub hC (type_callX (hrest := hrest) Fn hcB hcA hcN hC hinit hfI hfc hq))
end
end
section
open PySem PySem.W PySem.Spec PySem.Calls PyProof.Rows PyProof.V Builtin Builtin.ObjectAttr
def excXIn (K : Frag) (C : Addr) : Bool := match K.lookup C with
  | some ⟨.type "type", _, .cls cd, sl⟩ => (match cd.mro, sl.toList with
    | .ref C' :: bm, [_, _, _, _, some (.builtin n), _] => C' == C && n == "Exception.__new__" && !cd.hasDel && bm.contains (.type "BaseException") && (Value.ref C :: bm).contains (.type "Exception") && !(Value.ref C :: bm).contains (.type "AttributeError") && !(Value.ref C :: bm).contains (.type "NameError")
    | _, _ => false)
  | _ => false
theorem excX_cls {K : Frag} {h : Heap} {C : Addr} (X : K.In h) (q : excXIn K C = true) : ∃ nm qn N bs bm hdct sn sub ab col dd k0 k1 k2 k3 k5,
    h.get? C = some (excClassObj nm qn C N bs bm hdct sn sub ab col dd k0 k1 k2 k3 k5 "Exception.__new__") ∧ bm.contains (.type "BaseException") = true ∧ (Value.ref C :: bm).contains (.type "Exception") = true ∧ (Value.ref C :: bm).contains (.type "AttributeError") = false ∧ (Value.ref C :: bm).contains (.type "NameError") = false := by
  unfold excXIn at q
  split at q
  · rename_i dd cd sl ho
    split at q
    · rename_i C' bm k0 k1 k2 k3 n k5 hm hs
      rw [Bool.and_eq_true, Bool.and_eq_true, Bool.and_eq_true, Bool.and_eq_true, Bool.and_eq_true, Bool.and_eq_true] at q
      obtain ⟨⟨⟨⟨⟨⟨q1, q2⟩, q3⟩, q4⟩, q5⟩, q6⟩, q7⟩ := q
      have q1 : C' = C := beq_iff_eq.mp q1
      have q2 : n = "Exception.__new__" := beq_iff_eq.mp q2
      subst q1 q2
      have hdel : cd.hasDel = false := by simpa using q3
      obtain ⟨nm, bs, mro, ns, qn, hd, sn, sub, ab, col, del⟩ := cd
      dsimp only at hm hdel
      subst hm hdel
      have hsl : sl = #[k0, k1, k2, k3, some (.builtin "Exception.__new__"), k5] := by
        obtain ⟨l⟩ := sl
        simp only at hs
        rw [hs]
      subst hsl
      exact ⟨nm, qn, ns, bs, bm, hd, sn, sub, ab, col, dd, k0, k1, k2, k3, k5, X _ _ ho, q4, q5, (by simpa only [Bool.not_eq_true'] using q6), (by simpa only [Bool.not_eq_true'] using q7)⟩
    · cases q
  · cases q

def fnObjIn (K : Frag) (f : Addr) : Bool := match K.lookup f with
  | some o => decide (o.cls = .type "function")
  | none => false
theorem fnObj_of {K : Frag} {h : Heap} {f : Addr} (X : K.In h) (q : fnObjIn K f = true) : ∃ o, h.get? f = some o ∧ o.cls = .type "function" := by
  unfold fnObjIn at q
  split at q
  · rename_i o ho
    exact ⟨o, X _ _ ho, of_decide_eq_true q⟩
  · cases q

section
variable {prog : Program} {w : World} {A : Around} {E : Value → Shared → Prop} {s : Shared} {K : Frag} {C L fI : Addr} {h₀ : Heap} {m : Str → Option Value} {news : List (Addr × Obj)} {rest : List Value}

theorem call_excK {Q : Value → Shared → Prop} (F : Fr h₀ L s.heap m) (X₀ : K.In h₀) (N : News h₀ L s.heap news) (q : excXIn K C = true) (hi : findIn K (.ref C) "__init__" = some (some (.ref fI))) (hf : fnObjIn K fI = true) (hrest : rest.length ≤ 100)
    (h : ∀ (e t : Nat) h', Fr h₀ L h' m → News h₀ L h' ((e, excO C t) :: (t, tupO rest) :: news) → (∀ p ∈ news, p.1 < t) → t < e →
      wpAny (model prog w) (A.under (.builtin "type.__call__" ⟨.ref C :: rest, []⟩)) (call (.ref fI) (.ref e :: rest)) (fun r s' => r = .none ∧ Q (.ref e) s') E { s with heap := h' }) :
    wpAny (model prog w) A (call (.ref C) rest) Q E s := by
  obtain ⟨hp, g, d, t, os⟩ := s
  have X : K.In hp := X₀.keeps F.keep
  obtain ⟨nm, qn, N', bs, bm, hdct, sn, sub, ab, col, dd, k0, k1, k2, k3, k5, hC, _, hcB, hcA, hcN⟩ := excX_cls X q
  obtain ⟨oI, hfI, hfc⟩ := fnObj_of X hf
  refine call_excX PySem.F.excBase_Exception hcB hcA hcN hC (fun h' k => looks_findIn (X.keeps k) hi) hfI hfc ?_ (by rw [sizeLine_eq]; omega)
  have N1 := N.push F (tupO rest)
  have N2 := N1.push (F.push _) (excO C hp.objs.size)
  refine h (hp.objs.size + 1) hp.objs.size _ ((F.push _).push _) ?_ (fun p hp' => Heap.lt_size (N p hp').1) (Nat.lt_succ_self _)
  have e1 : (hp.push (tupO rest)).objs.size = hp.objs.size + 1 := Heap.size_push _ _
  rw [e1] at N2
  exact N2

def onlyExc : List Value → Bool
  | .ref _ :: r => onlyExc r
  | l => l == [.type "Exception", .type "BaseException", .type "object"]
theorem refuse_exc (self : Value) {l : List Value} (e : onlyExc l = true) : refuseLoop self "__setattr__" l = pure () := by
  induction l with
  | nil => cases e
  | cons v r ih =>
    cases v with
    | ref c => rw [refuseLoop_ref]; exact ih e
    | _ =>
      rw [beq_iff_eq.mp (e : (_ == _) = true)]
      exact PySem.F.store_Exception.passes self
theorem onlyExc_has {l : List Value} (e : onlyExc l = true) : l.contains (.type "object") = true := by
  induction l with
  | nil => cases e
  | cons v r ih =>
    cases v with
    | ref c => rw [List.contains_cons, ih e, Bool.or_true]
    | _ =>
      rw [beq_iff_eq.mp (e : (_ == _) = true)]
      decide
def excMro (K : Frag) (C : Addr) : Bool := (clsIn K C).any fun cd => onlyExc cd.mro

theorem osa_exc {e t : Addr} {name : Str} {tk : Tok} {v : Value} {R : Result → Shared → Prop} (X : K.In s.heap) (he : s.heap.get? e = some (excO C t)) (hp : excMro K C = true) (ht : takerIn K C name = some none) (hh : (clsIn K C).any (·.hasDict) = true)
    (h : ∀ od h' tk', h'.get? e = some (excX C t s.heap.objs.size) → h'.get? s.heap.objs.size = some od → (∀ b o, b ≠ e → s.heap.get? b = some o → h'.get? b = some o) → R (.ok (.ret .none)) { s with heap := h', toks := tk' }) :
    codeAny (model prog w) A (.call (.builtin "object.__setattr__") ⟨[.ref e, .str name tk, v], []⟩) R s := by
  have SF := PySem.F.store_object
  have I : InstAt s.heap e (excO C t) C none := ⟨he, rfl, rfl, trivial⟩
  obtain ⟨cd, hc, ho⟩ := any_some hp
  obtain ⟨cd', hc', hd'⟩ := any_some hh
  rw [hc] at hc'
  cases hc'
  have ne : cd.mro.isEmpty = false := by cases q : cd.mro with | nil => rw [q] at ho; cases ho | cons _ _ => rfl
  have sub : Looks (model prog w) s.heap (isInstance (.ref e) (.type "object")) true := I.type.andThen (looks_mroIn X (by unfold mroIn; rw [hc, Option.bind_some, if_neg (by rw [ne]; decide), onlyExc_has ho]))
  refine codeAny_call_builtin SF.slot.plain SF.entry (@check_slot (model prog w) _ _ s "object.__setattr__" "object" "__setattr__" (.ref e) [.str name tk, v] [] _ SF.kind SF.split sub (SF.args (.ref e) (.str name tk) v) ?_)
  obtain ⟨attr, ha, hr⟩ := Option.bind_eq_some_iff.mp ht
  have hm : Looks (model prog w) s.heap (mroOf (.ref C)) cd.mro := (looks_clsIn X hc).andThen .now
  have L3 : Looks (model prog w) s.heap (storeTaker? attr) none := by
    cases attr with
    | none => exact .now
    | some a =>
      obtain ⟨b, hb, hq⟩ := Option.map_eq_some_iff.mp hr
      refine (looks_takesIn X hb).andThen ?_
      cases b
      · exact .now
      · cases hq
  rw [osa_eq, refuse_eq]
  refine wpAny_bind (wpAny_bind (I.type.here (wpAny_bind (hm.here ?_))))
  rw [refuse_exc _ ho]
  refine wpAny_pure (wpAny_bind (I.type.here (wpAny_bind ((looks_findIn X ha).here (wpAny_bind (L3.here ?_))))))
  refine wpAny_bind (wpAny_pure (wpAny_bind (wpAny_bind (wpAny_loadPart he (wpAny_bind ((looks_clsIn X hc).here ?_))))))
  rw [hd']
  obtain ⟨hp, g, d, tt, os⟩ := s
  have he₁ : (hp.push { cls := .type "dict", data := .dict #[] }).get? e = some (excO C t) := Heap.get?_push_of_some _ he
  have hes : e ≠ hp.objs.size := Nat.ne_of_lt (Heap.lt_size he)
  show wpAny _ _ (do let d ← PySem.alloc { cls := .type "dict", data := .dict #[] }; PySem.update e fun o => { o with dict := some d }; dictMade (.ref C) e d) _ _ _
  refine wpAny_bind (wpAny_alloc' ?_)
  refine wpAny_bind (wpAny_update' he₁ ?_)
  refine wpAny_pure (a := some hp.objs.size) (wpAny_bind ?_)
  have hgd : ((hp.push { cls := .type "dict", data := .dict #[] }).update e fun o => { cls := o.cls, dict := some hp.objs.size, data := o.data, slots := o.slots }).get? hp.objs.size
      = some { cls := .type "dict", data := .dict #[] } :=
    (Heap.get?_update_ne _ _ _ _ hes.symm).trans (Heap.get?_push_at rfl rfl)
  have hnd : ((hp.push { cls := .type "dict", data := .dict #[] }).update e fun o => { cls := o.cls, dict := some hp.objs.size, data := o.data, slots := o.slots }).Ns hp.objs.size (fun _ => none) :=
    ⟨_, #[], _, hgd, rfl, fun e he => absurd he (by simp), fun _ => rfl⟩
  refine wpAny_pure (a := ()) (wpAny_bind (wpAny_nsSet1 (Heap.Ns1.of_empty hnd) fun h' hn' hs => ?_))
  obtain ⟨oD, esD, epD, hoD, hdD, hcD⟩ := hn'.count (Within.cons name v Within.nil)
  refine wpAny_bind (wpAny_lookBehind hoD (by rw [hdD]; exact pastItsLine_dict (Nat.le_trans hcD (by rw [List.length_cons, List.length_nil, sizeLine_eq]; omega))) ?_)
  wp_walk
  refine h oD h' _ ?_ hoD fun b ob hbe hb => ?_
  · exact (hs.2 e hes).trans (Heap.get?_update_self _ he₁ rfl)
  · exact (hs.2 b (Nat.ne_of_lt (Heap.lt_size hb))).trans ((Heap.get?_update_ne _ _ _ _ hbe).trans (Heap.get?_push_of_some _ hb))

theorem set_excK {e t : Nat} {name : Str} {v : Value} {Q : Unit → Shared → Prop} (F : Fr h₀ L s.heap m) (X₀ : K.In h₀) (N : News h₀ L s.heap ((e, excO C t) :: news)) (hne : ∀ p ∈ news, p.1 ≠ e)
    (hs : findIn K (.ref C) "__setattr__" = some (some (.builtin "object.__setattr__"))) (hp : excMro K C = true) (ht : takerIn K C name = some none) (hh : (clsIn K C).any (·.hasDict) = true)
    (h : ∀ (dx : Nat) od h' tk', Fr h₀ L h' m → News h₀ L h' ((dx, od) :: (e, excX C t dx) :: news) → (∀ p ∈ news, p.1 < dx) → e < dx → Q () { s with heap := h', toks := tk' }) :
    wpAny (model prog w) A (setAttr (.ref e) name v) Q E s := by
  have X : K.In s.heap := X₀.keeps F.keep
  have he := (N _ (.head _)).1
  have ef := (N _ (.head _)).2.2
  have eL := (N _ (.head _)).2.1
  refine set_plain X (⟨he, rfl, rfl, trivial⟩ : InstAt s.heap e (excO C t) C none) hs (osa_exc (s := { s with toks := s.toks + 1 }) X he hp ht hh fun od h' tk' h1 h2 h3 => ?_)
  have hk : ∀ b o, h₀.get? b = some o → h'.get? b = some o := fun b o eq => h3 b o (fun z => by rw [z] at eq; have ef' : h₀.get? e = none := ef; rw [ef'] at eq; cases eq) (F.keep b o eq)
  have F' : Fr h₀ L h' m := by
    obtain ⟨oL, a1, a2, hoL, a3⟩ := F.ns
    exact ⟨⟨oL, a1, a2, h3 L oL (fun z => eL z.symm) hoL, a3⟩, hk, F.above⟩
  refine h s.heap.objs.size od h' tk' F' ?_ (fun p hp' => Heap.lt_size (N p (.tail _ hp')).1) (Heap.lt_size he)
  intro p hp'
  rcases List.mem_cons.mp hp' with rfl | hp'
  · exact ⟨h2, Nat.ne_of_gt (F.ns.lt), none_at_size F⟩
  rcases List.mem_cons.mp hp' with rfl | hp'
  · exact ⟨h1, eL, ef⟩
  · have z := N p (.tail _ hp')
    exact ⟨h3 _ _ (hne p hp') z.1, z.2⟩
end
end
section
open PySem PySem.W PySem.Spec PySem.Calls PyProof.Rows PyProof.V
section
variable {M : Model} {A : Around} {E : Value → Shared → Prop} {env : Env}
variable {nm q : Str} {C N : Addr} {bs bm : List Value} {hdct : Bool} {sn : List Str} {sub : List Value} {ab : Bool} {col : Option Bool} {dd : Option Addr} {k0 k1 k2 k3 k5 : Option Value} {newId : String}
theorem raiseX {s : Shared} {x : Sem Value} {Q : Flow → Shared → Prop} (hbase : bm.contains (.type "BaseException") = true) (hh : A.handled = none)
    (h : wpAny M A x (fun v s₁ => ∃ e t dx, v = .ref e ∧ s₁.heap.get? C = some (excClassObj nm q C N bs bm hdct sn sub ab col dd k0 k1 k2 k3 k5 newId) ∧
      s₁.heap.get? e = some (excX C t dx) ∧ E (.ref e) s₁) E s) :
    wpAny M A (raiseStmt env (some x) none) Q E s := by
  have hcB : (Value.ref C :: bm).contains (.type "BaseException") = true := by rw [List.contains_cons, hbase, Bool.or_true]
  unfold raiseStmt
  refine wpAny_bind (wpAny_mono h (fun v s₁ h₁ => ?_) fun _ _ x => x)
  obtain ⟨e, t, dx, rfl, hC, he, hE⟩ := h₁
  obtain ⟨hp, g, d, tk, os⟩ := s₁
  repeat (first | with_reducible refine wpAny_loadPart_at he ?_ | with_reducible refine wpAny_loadPart_at hC ?_ | (with_reducible refine wpAny_isSubtype_exc hC ?_; rw [hcB]) | wp_step)
  exact wpAny_raiseNew_none hh hE
end

def RaiseEnd (h₀ : Heap) (C : Addr) (E : Value → Shared → Prop) (v : Value) (s : Shared) : Prop :=
  ∃ e t dx, v = .ref e ∧ (∀ b o, h₀.get? b = some o → s.heap.get? b = some o) ∧ s.heap.get? e = some (excX C t dx) ∧ E (.ref e) s

section
variable {M : Model} {A : Around} {E : Value → Shared → Prop} {s : Shared} {K : Frag} {C L : Addr} {h₀ : Heap} {m : Str → Option Value} {news : List (Addr × Obj)}
theorem raise_K {x : Expr} {env : Env} {pos : Pos} {Q : Flow → Shared → Prop} (X₀ : K.In h₀) (q : excXIn K C = true) (hh : A.handled = none)
    (h : wpAny M A (eval x env) (fun v s₁ => RaiseEnd h₀ C E v s₁) E s) : wpAny M A (exec (.Raise (some x) none pos) env) Q E s := by
  rw [arm_exec_Raise]
  obtain ⟨nm, qn, N', bs, bm, hdct, sn, sub, ab, col, dd, k0, k1, k2, k3, k5, hC, hb, -⟩ := excX_cls X₀ q
  refine wpAny_bind (wpAny_standAt (raiseX (nm := nm) (q := qn) (C := C) (N := N') (bs := bs) (bm := bm) (hdct := hdct) (sn := sn) (sub := sub) (ab := ab) (col := col) (dd := dd) (k0 := k0) (k1 := k1) (k2 := k2) (k3 := k3) (k5 := k5) (newId := "Exception.__new__") (x := do let v ← eval x env; standAt pos; pure v) hb hh (wpAny_bind (wpAny_mono h (fun v s₃ h₃ => wpAny_bind (wpAny_standAt (wpAny_pure ?_))) fun _ _ x => x))))
  obtain ⟨e, t, dx, rfl, hk, he, hE⟩ := h₃
  exact ⟨e, t, dx, rfl, hk _ _ hC, he, hE⟩

theorem raiseEnd_of {e t dx : Addr} (F : Fr h₀ L s.heap m) (N : News h₀ L s.heap news) (hm : (e, excX C t dx) ∈ news) (h : E (.ref e) s) : RaiseEnd h₀ C E (.ref e) s :=
  ⟨e, t, dx, rfl, F.keep, (N _ hm).1, h⟩
end

section
variable {M : Model} {A : Around} {E : Value → Shared → Prop} {s : Shared}
theorem leaves_X {base h : Heap} {env : Env} {outer : List Env} {L e t dx C : Addr} {args : List Value} {Q : Unit → Shared → Prop}
    (hfr : A.frames = some (env :: outer)) (hf : env.frame = some L) (hkb : base.StaysIn h) (hl : h.FunFrames base (env :: outer)) (hk : ∀ b o, h.get? b = some o → s.heap.get? b = some o)
    (hen : h.get? e = none) (htn : h.get? t = none) (he : s.heap.get? e = some (excX C t dx)) (ht : s.heap.get? t = some (tupO args))
    (hQ : ∀ h', Heap.FlyingW base outer e (.ref C) (.ref t) h' → h'.TupAt t args → base.get? t = none → s.heap.UpToSlots h' → Q () { s with heap := h' }) : wpAny M A (leaving env (.ref e)) Q E s := by
  have fresh : ∀ b, h.get? b = none → base.get? b = none := fun b hb => by
    cases hq : base.get? b with
    | none => rfl
    | some o' => have := hkb b o' hq; rw [hb] at this; cases this
  refine wpAny_leaving_firstW (a0 := .ref t) hfr (hl.of_keeps fun b o hb _ => ⟨o, hk b o hb, rfl⟩) hf he (fun b o hb => hk b o (hkb b o hb)) (fresh e hen) rfl rfl rfl fun h' hL => ?_
  obtain ⟨k1, ⟨_, _, k2⟩, k3, k4⟩ := hL
  exact hQ h' ⟨k1, fresh e hen, k2, k3⟩ (Heap.TupAt.of_slots ⟨_, _, ht, rfl, rfl⟩ k4) (fresh t htn) k4
end

section
variable {M : Model} {A : Around} {E : Value → Shared → Prop} {s' : Shared} {base g : Heap} {outer : List Env} {L a C : Addr} {m : Str → Option Value} {name : Str} {scope : Scope} {cd : Value} {Q : Unit → Shared → Prop} {news : List (Addr × Obj)}

theorem leave_faultS {e t dx : Nat} {od : Obj} {vs : List Value} (K : Below A base outer g) (F : Fr g L s'.heap m) (N : News g L s'.heap ((dx, od) :: (e, excX C t dx) :: (t, tupO vs) :: news))
    (h1 : ∀ p ∈ news, p.1 < t) (h2 : t < e) 
    (hQ : ∀ h', RaisedS base g outer e (.ref C) t vs news h' → RaisedK base outer e (.ref C) t vs news h' → g.UpToSlots h' → Q () { s' with heap := h' }) (hk : scope.kind = .function := by rfl) :
    wpAny M (A.deeper (envOf name scope L a cd)) (leaving (envOf name scope L a cd) (.ref e)) Q E s' := by
  have Ne := N _ (.tail _ (.head _))
  have Nt := N _ (.tail _ (.tail _ (.head _)))
  have hnot : ∀ b o, g.get? b = some o → b ∉ [e, t] := fun b o q hm => by
    rcases List.mem_cons.mp hm with rfl | hm
    · have := Ne.2.2; rw [show g.get? b = none from this] at q; cases q
    · rw [List.mem_singleton.mp hm] at q; rw [show g.get? t = none from Nt.2.2] at q; cases q
  have hL : L ∉ [e, t] := fun hm => by
    rcases List.mem_cons.mp hm with z | hm
    · exact Ne.2.1 z.symm
    · exact Nt.2.1 (List.mem_singleton.mp hm).symm
  have Fh : Fr g L (hideAll s'.heap [e, t]) m := by
    obtain ⟨oL, a1, a2, hoL, a3⟩ := F.ns
    exact ⟨⟨oL, a1, a2, hideAll_get _ hoL hL, a3⟩, fun b o q => hideAll_get _ (F.keep b o q) (hnot b o q), F.above⟩
  have Nh : News g L (hideAll s'.heap [e, t]) news := fun p hp => by
    have z := N p (.tail _ (.tail _ (.tail _ hp)))
    have lt := h1 p hp
    refine ⟨hideAll_get _ z.1 fun hm => ?_, z.2⟩
    rcases List.mem_cons.mp hm with q | hm
    · rw [q] at lt; exact absurd lt (Nat.not_lt.mpr (Nat.le_of_lt h2))
    · rw [List.mem_singleton.mp hm] at lt; exact absurd lt (Nat.lt_irrefl _)
  generalize hh : hideAll s'.heap [e, t] = h at Fh Nh
  have hkk : ∀ b o, h.get? b = some o → s'.heap.get? b = some o := fun b o q => by rw [← hh] at q; exact of_hideAll _ q
  have hen : h.get? e = none := by rw [← hh]; exact hideAll_none _ (.head _)
  have htn : h.get? t = none := by rw [← hh]; exact hideAll_none _ (.tail _ (.head _))
  have K' := K.push (name := name) (a := a) (cd := cd) Fh hk
  have hin : ∀ env ∈ (envOf name scope L a cd :: outer), ∀ b, env.frame = some b → b ∈ (envOf name scope L a cd :: outer).filterMap (·.frame) := fun env he b hb => List.mem_filterMap.mpr ⟨env, he, hb⟩
  have st : base.StaysIn (hideAll h ((envOf name scope L a cd :: outer).filterMap (·.frame))) := fun b o q => hideAll_get _ (K'.stays b o q) fun hm => by
    rw [(K'.frames.mem hm).1] at q; cases q
  have sg : ∀ b o, g.get? b = some o → b ∉ outer.filterMap (·.frame) → (hideAll h ((envOf name scope L a cd :: outer).filterMap (·.frame))).get? b = some o := fun b o q nm => hideAll_get _ (Fh.keep b o q) fun hm => by
    rcases kts_mem hm with z | z
    · rw [z, kts_self Fh] at q
      cases q
    · exact nm z
  have hl : ∀ q ∈ news, (hideAll h ((envOf name scope L a cd :: outer).filterMap (·.frame))).get? q.1 = some q.2 ∧ g.get? q.1 = none ∧ base.get? q.1 = none := fun q hq => by
    refine ⟨hideAll_get _ (Nh q hq).1 fun hm => ?_, (Nh q hq).2.2, fresh_of_stays K.stays (Nh q hq).2.2⟩
    obtain ⟨env, he, hf⟩ := List.mem_filterMap.mp hm
    rcases List.mem_cons.mp he with rfl | he
    · exact (Nh q hq).2.1 (Option.some.inj hf).symm
    · obtain ⟨o, ho, _⟩ := (K.frames.mem (List.mem_filterMap.mpr ⟨env, he, hf⟩)).2
      rw [(Nh q hq).2.2] at ho; cases ho
  exact leaves_X K'.stack rfl (fun b o q => of_hideAll _ q) (funFrames_hide K'.frames hin) hkk hen htn Ne.1 Nt.1 fun h' x1 x2 x3 x4 =>
    have R : RaisedS base g outer e (.ref C) t vs news h' := ⟨⟨_, st, sg, hl, x1, x3⟩, x2⟩
    hQ h' R R.toK ((Heap.UpToSlots.of_keeps F.keep).trans x4)
end
end
section
open PySem PySem.W PySem.Calls PyProof.Rows
theorem adjust_upto (b n : Nat) (hb : b ≤ n) : Builtin.Slice.sliceAdjust none (some (b : Int)) 1 (n : Int) = (0, (b : Int)) := by
  unfold Builtin.Slice.sliceAdjust
  have h1 : ¬ ((1 : Int) < 0) := by omega
  have h2 : ¬ ((b : Int) < 0) := by omega
  simp only [h1, h2, if_false]
  congr 1
  omega
theorem places_upto (b : Nat) : Builtin.Slice.slicePlaces 0 (b : Int) 1 = b := by
  unfold Builtin.Slice.slicePlaces
  have h1 : (1 : Int) > 0 := by omega
  simp only [h1, if_true, Int.ediv_one]
  split <;> omega
theorem pick_upto (xs : Array Value) (b : Nat) : ((List.range b).filterMap fun (k : Nat) => xs[((0 : Int) + (k : Int) * 1).toNat]?).toArray = (xs.toList.take b).toArray := by
  have e : (fun (k : Nat) => xs[((0 : Int) + (k : Int) * 1).toNat]?) = fun k => xs[0 + k]? := by
    funext k
    have : ((0 : Int) + (k : Int) * 1).toNat = 0 + k := by omega
    rw [this]
  rw [e]
  have := pick_run xs 0 b
  rw [List.filterMap_map] at this
  have e2 : ((fun x => xs[x]?) ∘ fun x => 0 + x) = fun k => xs[0 + k]? := rfl
  rw [e2] at this
  rw [this, List.drop_zero]

section
variable {prog : Program} {w : World} {A : Around} {E : Value → Shared → Prop} {s : Shared}
theorem sliceApplied_upto {sl : Addr} {b n : Nat} {u : Tok} {Q : Int × Int × Nat → Shared → Prop} (hs : s.heap.IsSliceOf sl .none (.int b u) .none) (hb : b ≤ n) (h : Q (0, 1, b) s) :
    wpAny (model prog w) A (Builtin.Slice.sliceApplied (.ref sl) (pure (n : Int))) Q E s := by
  obtain ⟨os, hos, hcs, hds⟩ := id hs
  unfold Builtin.Slice.sliceApplied Builtin.Slice.sliceFields
  refine wpAny_bind (wpAny_bind (wpAny_field hos hds (x := .none) rfl (wpAny_bind (wpAny_field hos hds (x := .int b u) rfl (wpAny_bind (wpAny_field hos hds (x := .none) rfl (wpAny_pure ?_)))))))
  refine wpAny_bind (slicePart_none ?_)
  show wpAny _ _ (if ((1 : Int) == 0) = true then _ else _) _ _ s
  rw [if_neg (by decide)]
  refine wpAny_bind (slicePart_none (wpAny_bind (slicePart_int (wpAny_bind (wpAny_pure ?_)))))
  show wpAny _ _ (match Builtin.Slice.sliceAdjust none (some (b : Int)) 1 (n : Int) with | (lo, hi) => pure (lo, (1 : Int), Builtin.Slice.slicePlaces lo hi 1)) _ _ s
  rw [adjust_upto b n hb]
  show wpAny _ _ (pure ((0 : Int), (1 : Int), Builtin.Slice.slicePlaces 0 (b : Int) 1)) _ _ s
  rw [places_upto b]
  exact wpAny_pure h

theorem getItem_tuple_upto {t sl : Addr} {items : Array Value} {b : Nat} {u : Tok} {Q : Value → Shared → Prop} (ht : IsTup s.heap t items) (hs : s.heap.IsSliceOf sl .none (.int b u) .none) (hb : b < items.size)
    (h : Q (.ref s.heap.objs.size) { s with heap := s.heap.push { cls := .type "tuple", data := .seq (items.toList.take b).toArray } })
    (hsz : items.size ≤ sizeLine := by size_fits) : wpAny (model prog w) A (getItem (.ref t) (.ref sl)) Q E s := by
  have hdrop : sizeOk (.seq (items.toList.take b).toArray) := by
    show (items.toList.take b).toArray.size ≤ sizeLine
    rw [List.size_toArray, List.length_take, Array.length_toList]
    omega
  obtain ⟨os, hos, hcs, hds⟩ := id hs
  have hTs : s.TypeIs (.ref sl) "slice" := ⟨os, hos, hcs⟩
  unfold getItem
  try with_reducible refine wpAny_holding ?_
  first | refine wpAny_bind (wpAny_pure ?_) | skip
  refine wpAny_bind (wpAny_sequenceKey ht.typeIs (by decide) ?_)
  refine wpAny_bind (wpAny_callSpecial?_slot (name := Str.ofString "__getitem__") ht.typeIs slot_tuple_getitem
    (wpAny_call_entry slot_tuple_getitem ht.typeIs entry_tuple_getitem ?_ (args_tuple_getitem _ _)))
  show wpAny _ _ (Builtin.Tuple.tupleItemsOf (.ref t) >>= _) _ _ s
  refine wpAny_bind (tupleItemsOf_ ht ?_)
  refine wpAny_bind (wpAny_typeOf hTs ?_)
  rw [if_pos (by decide)]
  refine wpAny_bind (sliceApplied_upto hs (Nat.le_of_lt hb) ?_)
  have hno : ¬ (((0 : Int) == 0 && (1 : Int) == 1 && b == items.size) = true) := by
    have : (b == items.size) = false := by rw [beq_eq_false_iff_ne]; omega
    rw [this]; simp
  show wpAny _ _ (if ((0 : Int) == 0 && (1 : Int) == 1 && b == items.size) = true then _ else _) _ _ s
  rw [if_neg hno, pick_upto items b]
  first
    | exact wpAny_bind (m := Builtin.Tuple.tupleExact _) (wpAny_newObj_type (wpAny_pure ⟨_, rfl, wpAny_pure h⟩) hdrop)
    | exact wpAny_bind (m := Builtin.Tuple.tupleExact _) (wpAny_newObj_type (wpAny_bind (wpAny_pure (wpAny_pure ⟨_, rfl, wpAny_pure h⟩))) hdrop)
    | exact wpAny_bind (wpAny_bind (m := Builtin.Tuple.tupleExact _) (wpAny_newObj_type (wpAny_pure (wpAny_pure ⟨_, rfl, wpAny_pure h⟩)) hdrop))
    | exact wpAny_bind (wpAny_bind (m := Builtin.Tuple.tupleExact _) (wpAny_newObj_type (wpAny_pure ⟨_, rfl, wpAny_pure h⟩) hdrop))
end

section
variable {prog : Program} {w : World} {A : Around} {E : Value → Shared → Prop} {s : Shared} {h₀ : Heap} {L : Addr} {m : Str → Option Value} {news : List (Addr × Obj)}
theorem tup_from {value slice : Expr} {t : Addr} {items zs : List Value} {x : Int} {u : Tok} {Q : Value → Shared → Prop}
    (F : Fr h₀ L s.heap m) (N : News h₀ L s.heap news) (ht : (t, ({ cls := .type "tuple", data := .seq items.toArray } : Obj)) ∈ news) (h1 : 1 ≤ x) (ha : x ≤ items.length) (e : items.drop x.toNat = zs)
    (h : ∀ (D : Nat) h', Fr h₀ L h' m → News h₀ L h' ((D, { cls := .type "tuple", data := .seq zs.toArray }) :: news) → (∀ p ∈ news, p.1 < D) → Q (.ref D) { s with heap := h' })
    (hs : subscripted slice false (.ref t) (.ref s.heap.objs.size) = operate [.ref s.heap.objs.size, .ref t] (getItem (.ref t) (.ref s.heap.objs.size)))
    (hg : ∀ r, letTemporaryGo value (.ref t) r = pure ())
    (hsz : items.length ≤ 1000) :
    wpAny (model prog w) A (subscriptTail value slice (.ref t) (.ref s.heap.objs.size)) Q E { s with heap := s.heap.push { cls := .type "slice", data := .fields #[.int x u, .none, .none] } } := by
  have T : IsTup s.heap t items.toArray := News.isTup N ht
  obtain ⟨a, rfl⟩ : ∃ a : Nat, x = (a : Int) := ⟨x.toNat, by omega⟩
  refine slice_tuple_from F N T (by omega) (by rw [List.size_toArray]; omega) (fun h' F' N' => h _ h' F' ?_ fun p hp => Nat.lt_succ_of_lt (Heap.lt_size (N p hp).1)) hs hg (by rw [List.size_toArray, sizeLine_eq]; omega)
  rw [← e]
  exact N'
theorem tup_upto {value slice : Expr} {t : Addr} {items zs : List Value} {x : Int} {u : Tok} {Q : Value → Shared → Prop}
    (F : Fr h₀ L s.heap m) (N : News h₀ L s.heap news) (ht : (t, ({ cls := .type "tuple", data := .seq items.toArray } : Obj)) ∈ news) (h1 : 0 ≤ x) (ha : x < items.length) (e : items.take x.toNat = zs)
    (h : ∀ (D : Nat) h', Fr h₀ L h' m → News h₀ L h' ((D, { cls := .type "tuple", data := .seq zs.toArray }) :: news) → (∀ p ∈ news, p.1 < D) → Q (.ref D) { s with heap := h' })
    (hs : subscripted slice false (.ref t) (.ref s.heap.objs.size) = operate [.ref s.heap.objs.size, .ref t] (getItem (.ref t) (.ref s.heap.objs.size)))
    (hg : ∀ r, letTemporaryGo value (.ref t) r = pure ())
    (hsz : items.length ≤ 1000) :
    wpAny (model prog w) A (subscriptTail value slice (.ref t) (.ref s.heap.objs.size)) Q E { s with heap := s.heap.push { cls := .type "slice", data := .fields #[.none, .int x u, .none] } } := by
  have T : IsTup s.heap t items.toArray := News.isTup N ht
  obtain ⟨b, rfl⟩ : ∃ b : Nat, x = (b : Int) := ⟨x.toNat, by omega⟩
  have T' : IsTup (s.heap.push { cls := .type "slice", data := .fields #[.none, .int b u, .none] }) t items.toArray := T.keeps fun _ _ e => Heap.get?_push_of_some _ e
  refine subscriptTail_ops (s := { s with heap := s.heap.push { cls := .type "slice", data := .fields #[.none, .int b u, .none] } }) T'.typeIs slot_tuple_getitem.lookup
    (getItem_tuple_upto T' (Heap.IsSliceOf.new ..) (by rw [List.size_toArray]; omega) ?_ (by rw [List.size_toArray, sizeLine_eq]; omega)) hs hg
  have N1 := News.push (F.push { cls := .type "slice", data := .fields #[.none, .int b u, .none] }) (N.grown fun _ _ e => Heap.get?_push_of_some _ e) { cls := .type "tuple", data := .seq (items.take b).toArray }
  rw [Heap.size_push] at N1
  show Q (.ref (s.heap.push _).objs.size) _
  rw [Heap.size_push]
  refine h _ _ ((F.push _).push _) ?_ fun p hp => Nat.lt_succ_of_lt (Heap.lt_size (N p hp).1)
  rw [← e]
  exact N1
end
end
open PySem PySem.W PySem.Calls PyProof.Rows
local macro_rules | `(tactic| lcg_src) => `(tactic| (intros; (try (rename (∀ p ∈ (_ : List (Addr × Obj)), p.1 < _) => l1; k_lt l1)); (try dsimp only)))
local macro_rules | `(tactic| lcg_sub) => `(tactic| first | (case' hret => skip) | (case' hE => skip) | (with_reducible (first | show News _ _ _ _ | show Fr _ _ _ _ | show Below _ _ _ _ | show Frag.In _ _ | show Top _ _ _ _ _ _); k_asm) | ((with_reducible show _ ∈ _); k_mem) | skip)
local macro_rules | `(tactic| lcg_off) => `(tactic| first | (case' hret => skip) | (case' hE => skip) | (show (_ : Prop); first | assumption | omega | k_room | exact rfl | (intro x9; k_updF)))
theorem fill (w : World) : hd.heap_39 w.params = hd.heap_39 w.params ∧ PySem.Challenge.rw_xm0721_01.foot = PySem.Challenge.rw_xm0721_01.foot := by
  k_fill
  exact ⟨rfl, rfl⟩
abbrev TopK (mean : ExcName → Option Value) (mg mb : Str → Option Value) (h : Heap) : Prop := Top hd.view_39 (looseW hd.view_39 [Str.ofString "HintWork"]) mean mg mb h
theorem take_spec {w : World} {mean : ExcName → Option Value} {mg mb : Str → Option Value} {dp un : Nat} {gd : Option (List Code)} {cn : Str} {cs : Scope} {a : Addr} {ccd : Value} {cl : List (Str × Addr)} {outer : List Env} {A₀ : Around} {base h₀ : Heap} {L : Addr} {m : Str → Option Value} {s : Shared} {Q E : Value → Shared → Prop}
    {src : Addr} {x y top : Int} {tx ty tt : Tok} {n : Nat} {own : List (Addr × Obj)}
    (hB : Below A₀ base outer h₀) (hF : Fr h₀ L s.heap m) (hK : (hd.heap_39 w.params).In h₀) (hN : News h₀ L s.heap ((src, listOf [.int x tx, .int y ty].toArray n) :: own)) (hO : OwnOff own [src]) (hT : Top hd.view_39 (looseW hd.view_39 [Str.ofString "HintWork"]) mean mg mb h₀) (hk : cs.kind = .function)
    (hd1 : dp + 1 < recursionLimit)
    (ht : 0 < top) (ht2 : top ≤ 1000) (hx : 0 ≤ x) (hy : 0 ≤ y) (hy2 : y < 2147483648)
    (hret : ∀ (r : Int) (tr : Tok) (x' y' : Int) (tx' ty' : Tok) (n' : Nat) (h' : Heap) (tk' : Nat), 0 ≤ r → r < top → 0 ≤ x' → x' ≤ x → 0 ≤ y' → y' < 2147483648 → Fr h₀ L h' m → News h₀ L h' ((src, listOf [.int x' tx', .int y' ty'].toArray n') :: own) →
      Q (.int r tr) { s with heap := h', toks := tk' }) :
    wpAny (model PySem.Challenge.rw_xm0721_01.row.prog w) (ktrTop dp un gd cn cs L a ccd cl outer) (call (.ref 286) [.ref src, .int top tt]) Q E s := by
  refine wpAny_call ?_
  k_dflt cell_enter
  k_steps
  · refine hret _ _ _ _ _ _ _ _ _ ?_ ?_ ?_ ?_ ?_ ?_ (by k_asm) (by k_asm)
    · exact Int.fmod_nonneg_of_pos _ ht
    · exact Int.fmod_lt_of_pos _ ht
    · show 0 ≤ x.fdiv top
      rw [Int.fdiv_eq_ediv_of_nonneg _ (by omega)]; exact Int.ediv_nonneg hx (by omega)
    · show x.fdiv top ≤ x
      rw [Int.fdiv_eq_ediv_of_nonneg _ (by omega)]; exact Int.ediv_le_self _ hx
    · exact hy
    · exact hy2
  · have hm0 : 0 ≤ (y * 39373 + 7).fmod 2147483647 := Int.fmod_nonneg_of_pos _ (by omega)
    have hm1 : (y * 39373 + 7).fmod 2147483647 < 2147483647 := Int.fmod_lt_of_pos _ (by omega)
    refine mul_int ?_ (IntMulOk.of_right (intBits_le_64 ?_ ?_))
    · k_steps
      refine hret _ _ _ _ _ _ _ _ _ ?_ ?_ ?_ ?_ ?_ ?_ (by k_asm) (by k_asm)
      · exact Int.fmod_nonneg_of_pos _ ht
      · exact Int.fmod_lt_of_pos _ ht
      · exact hx
      · exact Int.le_refl _
      · exact hm0
      · show (y * 39373 + 7).fmod 2147483647 < 2147483648
        omega
    · show -(2 ^ 64) < (y * 39373 + 7).fmod 2147483647
      omega
    · show (y * 39373 + 7).fmod 2147483647 < 2 ^ 64
      omega
theorem take_use {w : World} {mean : ExcName → Option Value} {mg mb : Str → Option Value} {dp un : Nat} {gd : Option (List Code)} {cn : Str} {cs : Scope} {a : Addr} {ccd : Value} {cl : List (Str × Addr)} {outer : List Env} {A₀ : Around} {base h₀ : Heap} {L : Addr} {m : Str → Option Value} {s : Shared} {Q E : Value → Shared → Prop}
    {src : Addr} {x y top : Int} {tx ty tt : Tok} {n : Nat} {news : List (Addr × Obj)} {g : Obj → List (Addr × Obj)}
    (hB : Below A₀ base outer h₀) (hF : Fr h₀ L s.heap m) (hK : (hd.heap_39 w.params).In h₀) (hN : News h₀ L s.heap news) (hU : UpdF src (listOf [.int x tx, .int y ty].toArray n) news g) (hT : Top hd.view_39 (looseW hd.view_39 [Str.ofString "HintWork"]) mean mg mb h₀) (hk : cs.kind = .function)
    (hd1 : dp + 1 < recursionLimit)
    (ht : 0 < top) (ht2 : top ≤ 1000) (hx : 0 ≤ x) (hy : 0 ≤ y) (hy2 : y < 2147483648)
    (hret : ∀ (r : Int) (tr : Tok) (x' y' : Int) (tx' ty' : Tok) (n' : Nat) (h' : Heap) (tk' : Nat), 0 ≤ r → r < top → 0 ≤ x' → x' ≤ x → 0 ≤ y' → y' < 2147483648 → Fr h₀ L h' m → News h₀ L h' (g (listOf [.int x' tx', .int y' ty'].toArray n')) →
      Q (.int r tr) { s with heap := h', toks := tk' }) :
    wpAny (model PySem.Challenge.rw_xm0721_01.row.prog w) (ktrTop dp un gd cn cs L a ccd cl outer) (call (.ref 286) [.ref src, .int top tt]) Q E s := by
  obtain ⟨pre, post, e1, e2, n1, n2⟩ := hU.split
  subst e1
  have sub : ∀ o : Obj, ∀ p, p ∈ (src, o) :: (pre ++ post) ↔ p ∈ pre ++ (src, o) :: post := by
    intro o p
    simp only [List.mem_cons, List.mem_append]
    constructor
    · rintro (h | h | h)
      · exact .inr (.inl h)
      · exact .inl h
      · exact .inr (.inr h)
    · rintro (h | h | h)
      · exact .inr (.inl h)
      · exact .inl h
      · exact .inr (.inr h)
  refine take_spec (own := pre ++ post) hB hF hK (fun p hp => hN p ((sub _ p).mp hp)) ?_ hT hk hd1 ht ht2 hx hy hy2 ?_
  · intro p hp b hb
    rw [List.mem_singleton.mp hb]
    rcases List.mem_append.mp hp with h | h
    · exact n1 p h
    · exact n2 p h
  · intro r tr x' y' tx' ty' n' h' tk' a1 a2 a3 a4 a5 a6 F' N'
    refine hret r tr x' y' tx' ty' n' h' tk' a1 a2 a3 a4 a5 a6 F' ?_
    rw [e2]
    exact fun p hp => N' p ((sub _ p).mpr hp)
theorem pool_spec {w : World} {mean : ExcName → Option Value} {mg mb : Str → Option Value} {dp un : Nat} {gd : Option (List Code)} {cn : Str} {cs : Scope} {a : Addr} {ccd : Value} {cl : List (Str × Addr)} {outer : List Env} {A₀ : Around} {base h₀ : Heap} {L : Addr} {m : Str → Option Value} {s : Shared} {Q E : Value → Shared → Prop}
    {l : Addr} {vs : List Value} {ns : List Int} {news : List (Addr × Obj)}
    (hB : Below A₀ base outer h₀) (hF : Fr h₀ L s.heap m) (hK : (hd.heap_39 w.params).In h₀) (hN : News h₀ L s.heap news) (hT : Top hd.view_39 (looseW hd.view_39 [Str.ofString "HintWork"]) mean mg mb h₀) (hk : cs.kind = .function)
    (hd1 : dp + 1 < recursionLimit) (hl : base.IsList l vs.toArray) (hi : IntsAre vs ns) (hn : ns.length ≤ 63)
    (hret : ∀ (src : Addr) (x y : Int) (tx ty : Tok) (n : Nat) (h' : Heap) (tk' : Nat), 0 ≤ x → 0 ≤ y → y < 2147483648 → (∀ q ∈ news, q.1 < src) → Fr h₀ L h' m → News h₀ L h' ((src, listOf [.int x tx, .int y ty].toArray n) :: news) →
      Q (.ref src) { s with heap := h', toks := tk' }) :
    wpAny (model PySem.Challenge.rw_xm0721_01.row.prog w) (ktrTop dp un gd cn cs L a ccd cl outer) (call (.ref 279) [.ref l]) Q E s := by
  refine wpAny_call ?_
  k_dflt cell_enter
  k_steps
  all_goals refine hret _ _ _ _ _ _ _ _ ?_ ?_ ?_ ?_ (by k_asm) (by k_asm)
  all_goals first | exact Int.fmod_nonneg_of_pos _ (by omega) | (refine Int.lt_trans (Int.fmod_lt_of_pos _ (by omega)) (by omega)) | assumption | exact Int.le_refl 0 | (generalize ns.getD _ 0 = c at *; omega)
theorem q51 (w : World) : excXIn (hd.heap_39 w.params) 51 = true := by kernel_rfl
theorem i51 (w : World) : findIn (hd.heap_39 w.params) (.ref 51) "__init__" = some (some (.ref 35)) := by kernel_rfl
theorem f35 (w : World) : fnObjIn (hd.heap_39 w.params) 35 = true := by kernel_rfl
theorem m51 (w : World) : excMro (hd.heap_39 w.params) 51 = true := by kernel_rfl
theorem s51 (w : World) : findIn (hd.heap_39 w.params) (.ref 51) "__setattr__" = some (some (.builtin "object.__setattr__")) := by kernel_rfl
theorem t51 (w : World) : takerIn (hd.heap_39 w.params) 51 "message" = some none := by kernel_rfl
theorem d51 (w : World) : (clsIn (hd.heap_39 w.params) 51).any (·.hasDict) = true := by kernel_rfl
local macro_rules | `(tactic| k_room) => `(tactic| ((try simp only [depth_mark, depth_under_make, depth_under_kw, depth_in1, depth_deeper, depth_caller, units_in1, units_deeper, Around.mark_units, units_under_make, units_caller]); (try dsimp only [ktrTop]); first | omega | decide))
local macro_rules | `(tactic| ktr_room) => `(tactic| k_room)
local macro_rules | `(tactic| walk_at "setAttr ref") => `(tactic| (k_here; k_dflt (refine' set_excK ?F ?X ?N ?ne ?hs ?hp ?ht ?hh ?_; (case F => k_asm); (case X => k_asm); (case N => k_asm); (case ne => assumption); (case hs => exact s51 _); (case hp => exact m51 _); (case ht => exact t51 _); (case hh => exact d51 _); k_whole); intro dx' od' h' tk' F' N' l1 l2))
abbrev tup2 (p q : Int) (tp tq : Tok) : Obj := { cls := .type "tuple", data := .seq [.int p tp, .int q tq].toArray }
abbrev ent (w : World) (k : String) (t : Tok) (v : Value) : DictEntry := { hash := PyData.keyHash w.params (Str.ofString k), key := .str (Str.ofString k) t, val := v }
theorem fault_spec {w : World} {mean : ExcName → Option Value} {mg mb : Str → Option Value} {dp un : Nat} {gd : Option (List Code)} {cn : Str} {cs : Scope} {a : Addr} {ccd : Value} {cl : List (Str × Addr)} {outer : List Env} {A₀ : Around} {base h₀ : Heap} {L : Addr} {m : Str → Option Value} {s : Shared} {Q E : Value → Shared → Prop}
    {news : List (Addr × Obj)} {msg : Str} {tg : Tok}
    (hB : Below A₀ base outer h₀) (hF : Fr h₀ L s.heap m) (hK : (hd.heap_39 w.params).In h₀) (hN : News h₀ L s.heap news) (hT : Top hd.view_39 (looseW hd.view_39 [Str.ofString "HintWork"]) mean mg mb h₀) (hk : cs.kind = .function)
    (hd1 : dp + 3 < recursionLimit)
    (hret : ∀ (e t dx : Nat) (od : Obj) (h' : Heap) (tk' : Nat), Fr h₀ L h' m → News h₀ L h' ((dx, od) :: (e, excX 51 t dx) :: (t, tupO [.str msg tg]) :: news) → (∀ p ∈ news, p.1 < t) → t < e → e < dx → Q (.ref e) { s with heap := h', toks := tk' }) :
    wpAny (model PySem.Challenge.rw_xm0721_01.row.prog w) (ktrTop dp un gd cn cs L a ccd cl outer) (call (.ref 51) [.str msg tg]) Q E s := by
  refine call_excK hF hK hN (q51 w) (i51 w) (f35 w) (by simp) ?_
  intro e t h' F' N' l1 l2
  have hne : ∀ p ∈ (t, tupO [.str msg tg]) :: news, p.1 ≠ e := by
    intro p hp
    rcases List.mem_cons.mp hp with rfl | hp
    · exact Nat.ne_of_lt l2
    · exact Nat.ne_of_lt (Nat.lt_trans (l1 p hp) l2)
  clear hF hN
  refine wpAny_call ?_
  k_dflt cell_enter
  k_steps
  exact hret e t _ _ _ _ (by k_asm) (by assumption) l1 l2 (by assumption)
def Stopped (P : Prop) : Prop := P
theorem stop {P : Prop} (h : Stopped P) : P := h
local macro_rules | `(tactic| walk_at "call ref") => `(tactic| (k_here; k_dflt ((((apply take_use <;> lcg_sub) <;> try ((with_reducible show UpdF _ _ _ _); k_updF)) <;> lcg_off)); lcg_src))
def ScaleOk (p q : Int) : Prop := (p = 1 ∧ q = 1) ∨ (p = 3 ∧ q = 2) ∨ (p = 64 ∧ q = 2048) ∨ (p = 7 ∧ q = 3) ∨ (p = 1 ∧ q = 5)
theorem one_scale {w : World} {mean : ExcName → Option Value} {mg mb : Str → Option Value} {dp un : Nat} {gd : Option (List Code)} {cn : Str} {cs : Scope} {a : Addr} {ccd : Value} {cl : List (Str × Addr)} {outer : List Env} {A₀ : Around} {base h₀ : Heap} {L : Addr} {m : Str → Option Value} {s : Shared} {Q E : Value → Shared → Prop}
    {src t0 t1 t2 t3 t4 tl : Nat} {x y : Int} {tx ty u0 v0 u1 v1 u2 v2 u3 v3 u4 v4 : Tok} {n c : Nat}
    (hB : Below A₀ base outer h₀) (hF : Fr h₀ L s.heap m) (hK : (hd.heap_39 w.params).In h₀)
    (hN : News h₀ L s.heap [(tl, listOf [.ref t0, .ref t1, .ref t2, .ref t3, .ref t4].toArray c), (t4, tup2 1 5 u4 v4), (t3, tup2 7 3 u3 v3), (t2, tup2 64 2048 u2 v2), (t1, tup2 3 2 u1 v1), (t0, tup2 1 1 u0 v0), (src, listOf [.int x tx, .int y ty].toArray n)])
    (hT : Top hd.view_39 (looseW hd.view_39 [Str.ofString "HintWork"]) mean mg mb h₀) (hk : cs.kind = .function)
    (l1 : src < t0) (l2 : t0 < t1) (l3 : t1 < t2) (l4 : t2 < t3) (l5 : t3 < t4) (l6 : t4 < tl)
    (hd1 : dp + 2 < recursionLimit) (hx : 0 ≤ x) (hy : 0 ≤ y) (hy2 : y < 2147483648)
    (hret : ∀ (sc : Nat) (p q : Int) (tp tq : Tok) (x' y' : Int) (tx' ty' : Tok) (n' : Nat) (h' : Heap) (tk' : Nat), ScaleOk p q → src < sc → 0 ≤ x' → 0 ≤ y' → y' < 2147483648 → Fr h₀ L h' m → News h₀ L h' [(sc, tup2 p q tp tq), (src, listOf [.int x' tx', .int y' ty'].toArray n')] →
      Q (.ref sc) { s with heap := h', toks := tk' }) :
    wpAny (model PySem.Challenge.rw_xm0721_01.row.prog w) (ktrTop dp un gd cn cs L a ccd cl outer) (call (.ref 293) [.ref src, .ref tl]) Q E s := by
  refine wpAny_call ?_
  k_dflt cell_enter
  k_steps
  · refine hret t0 1 1 u0 v0 _ _ _ _ _ _ _ (.inl ⟨rfl, rfl⟩) l1 ?_ ?_ ?_ (by k_asm) (kst_newsOf (by assumption) (List.forall_mem_cons.mpr ⟨by k_mem, List.forall_mem_cons.mpr ⟨by k_mem, List.forall_mem_nil _⟩⟩)) <;> assumption
  · refine hret t1 3 2 u1 v1 _ _ _ _ _ _ _ (.inr (.inl ⟨rfl, rfl⟩)) (by omega) ?_ ?_ ?_ (by k_asm) (kst_newsOf (by assumption) (List.forall_mem_cons.mpr ⟨by k_mem, List.forall_mem_cons.mpr ⟨by k_mem, List.forall_mem_nil _⟩⟩)) <;> assumption
  · refine hret t2 64 2048 u2 v2 _ _ _ _ _ _ _ (.inr (.inr (.inl ⟨rfl, rfl⟩))) (by omega) ?_ ?_ ?_ (by k_asm) (kst_newsOf (by assumption) (List.forall_mem_cons.mpr ⟨by k_mem, List.forall_mem_cons.mpr ⟨by k_mem, List.forall_mem_nil _⟩⟩)) <;> assumption
  · refine hret t3 7 3 u3 v3 _ _ _ _ _ _ _ (.inr (.inr (.inr (.inl ⟨rfl, rfl⟩)))) (by omega) ?_ ?_ ?_ (by k_asm) (kst_newsOf (by assumption) (List.forall_mem_cons.mpr ⟨by k_mem, List.forall_mem_cons.mpr ⟨by k_mem, List.forall_mem_nil _⟩⟩)) <;> assumption
  · refine hret t4 1 5 u4 v4 _ _ _ _ _ _ _ (.inr (.inr (.inr (.inr ⟨rfl, rfl⟩)))) (by omega) ?_ ?_ ?_ (by k_asm) (kst_newsOf (by assumption) (List.forall_mem_cons.mpr ⟨by k_mem, List.forall_mem_cons.mpr ⟨by k_mem, List.forall_mem_nil _⟩⟩)) <;> assumption
local macro_rules | `(tactic| k_units) => `(tactic| ((have hcL9 := cLine_is); k_room))
theorem upd_own {d : Addr} {o : Obj} {news : List (Addr × Obj)} {g : Obj → List (Addr × Obj)} (U : UpdF d o news g) : ∃ own, OwnOff own [d] ∧ (∀ p, p ∈ (d, o) :: own → p ∈ news) ∧ (∀ p, p ∈ news → p.1 ≠ d → p ∈ own) ∧ ∀ o' p, p ∈ g o' → p ∈ (d, o') :: own := by
  obtain ⟨pre, post, e1, e2, n1, n2⟩ := U.split
  refine ⟨pre ++ post, ?_, ?_, ?_, ?_⟩
  · intro p hp b hb
    rw [List.mem_singleton.mp hb]
    rcases List.mem_append.mp hp with h | h
    · exact n1 p h
    · exact n2 p h
  · intro p hp
    rw [e1]
    rcases List.mem_cons.mp hp with rfl | h
    · exact List.mem_append_right _ (.head _)
    · rcases List.mem_append.mp h with h | h
      · exact List.mem_append_left _ h
      · exact List.mem_append_right _ (.tail _ h)
  · intro p hp hne
    rw [e1] at hp
    rcases List.mem_append.mp hp with h | h
    · exact List.mem_append_left _ h
    · rcases List.mem_cons.mp h with rfl | h
      · exact absurd rfl hne
      · exact List.mem_append_right _ h
  · intro o' p hp
    rw [e2] at hp
    rcases List.mem_append.mp hp with h | h
    · exact .tail _ (List.mem_append_left _ h)
    · rcases List.mem_cons.mp h with rfl | h
      · exact .head _
      · exact .tail _ (List.mem_append_right _ h)
theorem wrap_spec {w : World} {mean : ExcName → Option Value} {mg mb : Str → Option Value} {dp un : Nat} {gd : Option (List Code)} {cn : Str} {cs : Scope} {a : Addr} {ccd : Value} {cl : List (Str × Addr)} {outer : List Env} {A₀ : Around} {base h₀ : Heap} {L : Addr} {m : Str → Option Value} {s : Shared} {Q E : Value → Shared → Prop} {news : List (Addr × Obj)} {n : Int} {tn : Tok}
    (hB : Below A₀ base outer h₀) (hF : Fr h₀ L s.heap m) (hK : (hd.heap_39 w.params).In h₀) (hN : News h₀ L s.heap (news)) (hT : Top hd.view_39 (looseW hd.view_39 [Str.ofString "HintWork"]) mean mg mb h₀) (hk : cs.kind = .function) (hd1 : dp + 1 < recursionLimit) (hu : un + 25 < cLine)
    (h1 : -2147483648 ≤ n) (h2 : n ≤ 2147483647)
    (hret : ∀ (t : Tok) (h' : Heap) (tk' : Nat), Fr h₀ L h' m → News h₀ L h' news → Q (.int n t) { s with heap := h', toks := tk' }) :
    wpAny (model PySem.Challenge.rw_xm0721_01.row.prog w) (ktrTop dp un gd cn cs L a ccd cl outer) (call (.ref 67) [.int n tn]) Q E s := by
  refine wpAny_call ?_
  k_dflt cell_enter
  k_steps
  have e : (n + 2147483648).fmod 4294967296 - 2147483648 = n := by
    rw [Int.fmod_eq_emod_of_nonneg _ (by omega)]
    omega
  rw [e]
  exact hret _ _ _ (by k_asm) (by k_asm)
abbrev row17 (v3 v4 v5 v6 v7 v8 v9 u0 u1 u2 u3 u4 u5 r1 r3 r5 : Tok) (x0 x1 x2 x3 x4 x5 : Int) : List Value := [.int 0 v3, .int 0 v4, .int 0 v5, .int 1 v6, .int 1 v7, .int 1 v8, .int 1 v9, .int x0 u0, .int x1 u1, .int x2 u2, .int x3 u3, .int x4 u4, .int x5 u5, .bool true, .int 64 r1, .int 0 r3, .int 32 r5]
theorem row_core {w : World} {mean : ExcName → Option Value} {mg mb : Str → Option Value} {dp un : Nat} {gd : Option (List Code)} {cn : Str} {cs : Scope} {a : Addr} {ccd : Value} {cl : List (Str × Addr)} {outer : List Env} {A₀ : Around} {base h₀ : Heap} {L : Addr} {m : Str → Option Value} {s : Shared} {Q E : Value → Shared → Prop} {news : List (Addr × Obj)} {st dS ro dR fr pr du : Nat} {x0 x1 x2 x3 x4 x5 : Int} {k0 k1 k2 k3 k4 k5 k6 k7 k8 k9 k10 k11 k12 k13 k14 k15 k16 k17 v3 v4 v5 v6 v7 v8 v9 u0 u1 u2 u3 u4 u5 r0 r1 r2 r3 r4 r5 : Tok}
    (hB : Below A₀ base outer h₀) (hF : Fr h₀ L s.heap m) (hK : (hd.heap_39 w.params).In h₀) (hN : News h₀ L s.heap ((st, instObj 154 dS) :: (dS, dictOf [ent w "freedom" k0 (.ref fr), ent w "projection" k1 (.ref pr), ent w "dual" k2 (.ref du), ent w "rp0" k3 (.int 0 v3), ent w "rp1" k4 (.int 0 v4), ent w "rp2" k5 (.int 0 v5), ent w "zp0" k6 (.int 1 v6), ent w "zp1" k7 (.int 1 v7), ent w "zp2" k8 (.int 1 v8), ent w "loop" k9 (.int 1 v9), ent w "minimum" k10 (.int x0 u0), ent w "cut_in" k11 (.int x1 u1), ent w "single_cut_in" k12 (.int x2 u2), ent w "single_width" k13 (.int x3 u3), ent w "delta_base" k14 (.int x4 u4), ent w "delta_shift" k15 (.int x5 u5), ent w "auto_flip" k16 (.bool true), ent w "rounding" k17 (.ref ro)] 18) :: (ro, instObj 98 dR) :: (dR, dictOf [ent w "period" r0 (.int 64 r1), ent w "phase" r2 (.int 0 r3), ent w "threshold" r4 (.int 32 r5)] 3) :: news)) (hT : Top hd.view_39 (looseW hd.view_39 [Str.ofString "HintWork"]) mean mg mb h₀) (hk : cs.kind = .function) (hd1 : dp + 4 < recursionLimit) (hu : un + 100 < cLine)
    (hret : ∀ (D : Nat) (h' : Heap) (tk' : Nat), Fr h₀ L h' m → News h₀ L h' ((D, tupO [.int 0 v3, .int 0 v4, .int 0 v5, .int 1 v6, .int 1 v7, .int 1 v8, .int 1 v9, .int x0 u0, .int x1 u1, .int x2 u2, .int x3 u3, .int x4 u4, .int x5 u5, .bool true, .int 64 r1, .int 0 r3, .int 32 r5]) :: news) → (∀ p ∈ news, p.1 < D) → Q (.ref D) { s with heap := h', toks := tk' }) :
    wpAny (model PySem.Challenge.rw_xm0721_01.row.prog w) (ktrTop dp un gd cn cs L a ccd cl outer) (call (.ref 151) [.ref st]) Q E s := by
  dsimp only [ent] at hN
  refine wpAny_call ?_
  k_dflt cell_enter
  k_steps
  refine hret _ _ _ (by k_asm) (kst_newsOf (by assumption) (List.forall_mem_cons.mpr ⟨by k_mem, fun p hp => ?_⟩)) ?_
  · repeat (first | exact hp | refine List.mem_cons_of_mem _ ?_)
  · (rename _ ∧ _ => hl9)
    repeat (first | exact kst_ltOf hl9 | replace hl9 := hl9.2)
theorem row_spec {w : World} {mean : ExcName → Option Value} {mg mb : Str → Option Value} {dp un : Nat} {gd : Option (List Code)} {cn : Str} {cs : Scope} {a : Addr} {ccd : Value} {cl : List (Str × Addr)} {outer : List Env} {A₀ : Around} {base h₀ : Heap} {L : Addr} {m : Str → Option Value} {s : Shared} {Q E : Value → Shared → Prop} {news : List (Addr × Obj)} {st dS ro dR fr pr du : Nat} {x0 x1 x2 x3 x4 x5 : Int} {k0 k1 k2 k3 k4 k5 k6 k7 k8 k9 k10 k11 k12 k13 k14 k15 k16 k17 v3 v4 v5 v6 v7 v8 v9 u0 u1 u2 u3 u4 u5 r0 r1 r2 r3 r4 r5 : Tok}
    (hB : Below A₀ base outer h₀) (hF : Fr h₀ L s.heap m) (hK : (hd.heap_39 w.params).In h₀) (hN : News h₀ L s.heap (news)) (hT : Top hd.view_39 (looseW hd.view_39 [Str.ofString "HintWork"]) mean mg mb h₀) (hk : cs.kind = .function) (hd1 : dp + 4 < recursionLimit) (hu : un + 100 < cLine)
    (m1 : (st, instObj 154 dS) ∈ news) (m2 : (dS, dictOf [ent w "freedom" k0 (.ref fr), ent w "projection" k1 (.ref pr), ent w "dual" k2 (.ref du), ent w "rp0" k3 (.int 0 v3), ent w "rp1" k4 (.int 0 v4), ent w "rp2" k5 (.int 0 v5), ent w "zp0" k6 (.int 1 v6), ent w "zp1" k7 (.int 1 v7), ent w "zp2" k8 (.int 1 v8), ent w "loop" k9 (.int 1 v9), ent w "minimum" k10 (.int x0 u0), ent w "cut_in" k11 (.int x1 u1), ent w "single_cut_in" k12 (.int x2 u2), ent w "single_width" k13 (.int x3 u3), ent w "delta_base" k14 (.int x4 u4), ent w "delta_shift" k15 (.int x5 u5), ent w "auto_flip" k16 (.bool true), ent w "rounding" k17 (.ref ro)] 18) ∈ news) (m3 : (ro, instObj 98 dR) ∈ news) (m4 : (dR, dictOf [ent w "period" r0 (.int 64 r1), ent w "phase" r2 (.int 0 r3), ent w "threshold" r4 (.int 32 r5)] 3) ∈ news)
    (hret : ∀ (D : Nat) (h' : Heap) (tk' : Nat), Fr h₀ L h' m → News h₀ L h' ((D, tupO [.int 0 v3, .int 0 v4, .int 0 v5, .int 1 v6, .int 1 v7, .int 1 v8, .int 1 v9, .int x0 u0, .int x1 u1, .int x2 u2, .int x3 u3, .int x4 u4, .int x5 u5, .bool true, .int 64 r1, .int 0 r3, .int 32 r5]) :: news) → (∀ p ∈ news, p.1 < D) → Q (.ref D) { s with heap := h', toks := tk' }) :
    wpAny (model PySem.Challenge.rw_xm0721_01.row.prog w) (ktrTop dp un gd cn cs L a ccd cl outer) (call (.ref 151) [.ref st]) Q E s := by
  refine row_core (dS := dS) (ro := ro) (dR := dR) (fr := fr) (pr := pr) (du := du) (k0 := k0) (k1 := k1) (k2 := k2) (k3 := k3) (k4 := k4) (k5 := k5) (k6 := k6) (k7 := k7) (k8 := k8) (k9 := k9) (k10 := k10) (k11 := k11) (k12 := k12) (k13 := k13) (k14 := k14) (k15 := k15) (k16 := k16) (k17 := k17) (v3 := v3) (v4 := v4) (v5 := v5) (v6 := v6) (v7 := v7) (v8 := v8) (v9 := v9) (u0 := u0) (u1 := u1) (u2 := u2) (u3 := u3) (u4 := u4) (u5 := u5) (r0 := r0) (r1 := r1) (r2 := r2) (r3 := r3) (r4 := r4) (r5 := r5) hB hF hK (fun p hp => ?_) hT hk hd1 hu hret
  rcases List.mem_cons.mp hp with rfl | hp
  · exact hN _ m1
  rcases List.mem_cons.mp hp with rfl | hp
  · exact hN _ m2
  rcases List.mem_cons.mp hp with rfl | hp
  · exact hN _ m3
  rcases List.mem_cons.mp hp with rfl | hp
  · exact hN _ m4
  exact hN _ hp
local macro_rules | `(tactic| walk_at "call ref") => `(tactic| (k_here; k_dflt ((((apply wrap_spec <;> lcg_sub) <;> try ((with_reducible show UpdF _ _ _ _); k_updF)) <;> lcg_off)); lcg_src))
theorem push0_core {w : World} {mean : ExcName → Option Value} {mg mb : Str → Option Value} {dp un : Nat} {gd : Option (List Code)} {cn : Str} {cs : Scope} {a : Addr} {ccd : Value} {cl : List (Str × Addr)} {outer : List Env} {A₀ : Around} {base h₀ : Heap} {L : Addr} {m : Str → Option Value} {s : Shared} {Q E : Value → Shared → Prop} {own : List (Addr × Obj)} {nl sk dK : Nat} {c : Nat} {c0 c1 c2 : Tok} {n : Int} {tn : Tok}
    (hB : Below A₀ base outer h₀) (hF : Fr h₀ L s.heap m) (hK : (hd.heap_39 w.params).In h₀) (hN : News h₀ L s.heap ((nl, listOf [].toArray c) :: (sk, instObj 217 dK) :: (dK, dictOf [ent w "most" c0 (.int 64 c1), ent w "numbers" c2 (.ref nl)] 2) :: own)) (hT : Top hd.view_39 (looseW hd.view_39 [Str.ofString "HintWork"]) mean mg mb h₀) (hk : cs.kind = .function) (hd1 : dp + 4 < recursionLimit) (hu : un + 100 < cLine)
    (hO : OwnOff own [nl]) (l1 : dK < sk) (l2 : sk < nl) (hn1 : -2147483648 ≤ n) (hn2 : n ≤ 2147483647)
    (hret : ∀ (tz : Tok) (c' : Nat) (h' : Heap) (tk' : Nat), Fr h₀ L h' m → News h₀ L h' ((nl, listOf [.int n tz].toArray c') :: (sk, instObj 217 dK) :: (dK, dictOf [ent w "most" c0 (.int 64 c1), ent w "numbers" c2 (.ref nl)] 2) :: own) → Q (.none) { s with heap := h', toks := tk' }) :
    wpAny (model PySem.Challenge.rw_xm0721_01.row.prog w) (ktrTop dp un gd cn cs L a ccd cl outer) (call (.ref 179) [.ref sk, .int n tn]) Q E s := by
  dsimp only [ent] at hN
  refine wpAny_call ?_
  k_dflt cell_enter
  k_steps
  all_goals first | ((rename decide (_ = _) = true => hz); exact absurd (of_decide_eq_true hz) (List.cons_ne_nil _ _)) | exact hret _ _ _ _ (by k_asm) (by k_asm) | exact hret _ _ _ _ (by k_asm) (kst_newsOf (by assumption) (fun p hp => List.mem_cons_of_mem _ hp))
theorem push0_use {w : World} {mean : ExcName → Option Value} {mg mb : Str → Option Value} {dp un : Nat} {gd : Option (List Code)} {cn : Str} {cs : Scope} {a : Addr} {ccd : Value} {cl : List (Str × Addr)} {outer : List Env} {A₀ : Around} {base h₀ : Heap} {L : Addr} {m : Str → Option Value} {s : Shared} {Q E : Value → Shared → Prop} {news : List (Addr × Obj)} {g : Obj → List (Addr × Obj)} {nl sk dK : Nat} {c : Nat} {c0 c1 c2 : Tok} {n : Int} {tn : Tok}
    (hB : Below A₀ base outer h₀) (hF : Fr h₀ L s.heap m) (hK : (hd.heap_39 w.params).In h₀) (hN : News h₀ L s.heap (news)) (hT : Top hd.view_39 (looseW hd.view_39 [Str.ofString "HintWork"]) mean mg mb h₀) (hk : cs.kind = .function) (hd1 : dp + 4 < recursionLimit) (hu : un + 100 < cLine)
    (hU : UpdF nl (listOf [].toArray c) news g) (m1 : (sk, instObj 217 dK) ∈ news) (m2 : (dK, dictOf [ent w "most" c0 (.int 64 c1), ent w "numbers" c2 (.ref nl)] 2) ∈ news) (l1 : dK < sk) (l2 : sk < nl) (hn1 : -2147483648 ≤ n) (hn2 : n ≤ 2147483647)
    (hret : ∀ (tz : Tok) (c' : Nat) (h' : Heap) (tk' : Nat), Fr h₀ L h' m → News h₀ L h' (g (listOf [.int n tz].toArray c')) → Q (.none) { s with heap := h', toks := tk' }) :
    wpAny (model PySem.Challenge.rw_xm0721_01.row.prog w) (ktrTop dp un gd cn cs L a ccd cl outer) (call (.ref 179) [.ref sk, .int n tn]) Q E s := by
  obtain ⟨own, ho, h1, h2, h3⟩ := upd_own hU
  have ne1 : sk ≠ nl := Nat.ne_of_lt l2
  have ne2 : dK ≠ nl := Nat.ne_of_lt (Nat.lt_trans l1 l2)
  refine push0_core (own := own) (nl := nl) (sk := sk) (dK := dK) (c := c) (c0 := c0) (c1 := c1) (c2 := c2) hB hF hK (fun p hp => ?_) hT hk hd1 hu ho l1 l2 hn1 hn2 (fun tz c' h' tk' F' N' => hret tz c' h' tk' F' fun p hp => ?_)
  · rcases List.mem_cons.mp hp with rfl | hp
    · exact hN _ (h1 _ (.head _))
    rcases List.mem_cons.mp hp with rfl | hp
    · exact hN _ m1
    rcases List.mem_cons.mp hp with rfl | hp
    · exact hN _ m2
    exact hN _ (h1 _ (.tail _ hp))
  · rcases List.mem_cons.mp (h3 _ _ hp) with rfl | hq
    · exact N' _ (.head _)
    · exact N' _ (.tail _ (.tail _ (.tail _ hq)))
theorem push1_core {w : World} {mean : ExcName → Option Value} {mg mb : Str → Option Value} {dp un : Nat} {gd : Option (List Code)} {cn : Str} {cs : Scope} {a : Addr} {ccd : Value} {cl : List (Str × Addr)} {outer : List Env} {A₀ : Around} {base h₀ : Heap} {L : Addr} {m : Str → Option Value} {s : Shared} {Q E : Value → Shared → Prop} {own : List (Addr × Obj)} {nl sk dK : Nat} {c : Nat} {c0 c1 c2 : Tok} {n a0 : Int} {tn t0 : Tok}
    (hB : Below A₀ base outer h₀) (hF : Fr h₀ L s.heap m) (hK : (hd.heap_39 w.params).In h₀) (hN : News h₀ L s.heap ((nl, listOf [.int a0 t0].toArray c) :: (sk, instObj 217 dK) :: (dK, dictOf [ent w "most" c0 (.int 64 c1), ent w "numbers" c2 (.ref nl)] 2) :: own)) (hT : Top hd.view_39 (looseW hd.view_39 [Str.ofString "HintWork"]) mean mg mb h₀) (hk : cs.kind = .function) (hd1 : dp + 4 < recursionLimit) (hu : un + 100 < cLine)
    (hO : OwnOff own [nl]) (l1 : dK < sk) (l2 : sk < nl) (hn1 : -2147483648 ≤ n) (hn2 : n ≤ 2147483647)
    (hret : ∀ (tz : Tok) (c' : Nat) (h' : Heap) (tk' : Nat), Fr h₀ L h' m → News h₀ L h' ((nl, listOf [.int a0 t0, .int n tz].toArray c') :: (sk, instObj 217 dK) :: (dK, dictOf [ent w "most" c0 (.int 64 c1), ent w "numbers" c2 (.ref nl)] 2) :: own) → Q (.none) { s with heap := h', toks := tk' }) :
    wpAny (model PySem.Challenge.rw_xm0721_01.row.prog w) (ktrTop dp un gd cn cs L a ccd cl outer) (call (.ref 179) [.ref sk, .int n tn]) Q E s := by
  dsimp only [ent] at hN
  refine wpAny_call ?_
  k_dflt cell_enter
  k_steps
  all_goals first | ((rename decide (_ = _) = true => hz); exact absurd (of_decide_eq_true hz) (List.cons_ne_nil _ _)) | exact hret _ _ _ _ (by k_asm) (by k_asm) | exact hret _ _ _ _ (by k_asm) (kst_newsOf (by assumption) (fun p hp => List.mem_cons_of_mem _ hp))
theorem push1_use {w : World} {mean : ExcName → Option Value} {mg mb : Str → Option Value} {dp un : Nat} {gd : Option (List Code)} {cn : Str} {cs : Scope} {a : Addr} {ccd : Value} {cl : List (Str × Addr)} {outer : List Env} {A₀ : Around} {base h₀ : Heap} {L : Addr} {m : Str → Option Value} {s : Shared} {Q E : Value → Shared → Prop} {news : List (Addr × Obj)} {g : Obj → List (Addr × Obj)} {nl sk dK : Nat} {c : Nat} {c0 c1 c2 : Tok} {n a0 : Int} {tn t0 : Tok}
    (hB : Below A₀ base outer h₀) (hF : Fr h₀ L s.heap m) (hK : (hd.heap_39 w.params).In h₀) (hN : News h₀ L s.heap (news)) (hT : Top hd.view_39 (looseW hd.view_39 [Str.ofString "HintWork"]) mean mg mb h₀) (hk : cs.kind = .function) (hd1 : dp + 4 < recursionLimit) (hu : un + 100 < cLine)
    (hU : UpdF nl (listOf [.int a0 t0].toArray c) news g) (m1 : (sk, instObj 217 dK) ∈ news) (m2 : (dK, dictOf [ent w "most" c0 (.int 64 c1), ent w "numbers" c2 (.ref nl)] 2) ∈ news) (l1 : dK < sk) (l2 : sk < nl) (hn1 : -2147483648 ≤ n) (hn2 : n ≤ 2147483647)
    (hret : ∀ (tz : Tok) (c' : Nat) (h' : Heap) (tk' : Nat), Fr h₀ L h' m → News h₀ L h' (g (listOf [.int a0 t0, .int n tz].toArray c')) → Q (.none) { s with heap := h', toks := tk' }) :
    wpAny (model PySem.Challenge.rw_xm0721_01.row.prog w) (ktrTop dp un gd cn cs L a ccd cl outer) (call (.ref 179) [.ref sk, .int n tn]) Q E s := by
  obtain ⟨own, ho, h1, h2, h3⟩ := upd_own hU
  have ne1 : sk ≠ nl := Nat.ne_of_lt l2
  have ne2 : dK ≠ nl := Nat.ne_of_lt (Nat.lt_trans l1 l2)
  refine push1_core (own := own) (nl := nl) (sk := sk) (dK := dK) (c := c) (c0 := c0) (c1 := c1) (c2 := c2) (a0 := a0) (t0 := t0) hB hF hK (fun p hp => ?_) hT hk hd1 hu ho l1 l2 hn1 hn2 (fun tz c' h' tk' F' N' => hret tz c' h' tk' F' fun p hp => ?_)
  · rcases List.mem_cons.mp hp with rfl | hp
    · exact hN _ (h1 _ (.head _))
    rcases List.mem_cons.mp hp with rfl | hp
    · exact hN _ m1
    rcases List.mem_cons.mp hp with rfl | hp
    · exact hN _ m2
    exact hN _ (h1 _ (.tail _ hp))
  · rcases List.mem_cons.mp (h3 _ _ hp) with rfl | hq
    · exact N' _ (.head _)
    · exact N' _ (.tail _ (.tail _ (.tail _ hq)))
theorem pop2_core {w : World} {mean : ExcName → Option Value} {mg mb : Str → Option Value} {dp un : Nat} {gd : Option (List Code)} {cn : Str} {cs : Scope} {a : Addr} {ccd : Value} {cl : List (Str × Addr)} {outer : List Env} {A₀ : Around} {base h₀ : Heap} {L : Addr} {m : Str → Option Value} {s : Shared} {Q E : Value → Shared → Prop} {own : List (Addr × Obj)} {nl sk dK : Nat} {c : Nat} {c0 c1 c2 : Tok} {n a0 : Int} {tn t0 : Tok}
    (hB : Below A₀ base outer h₀) (hF : Fr h₀ L s.heap m) (hK : (hd.heap_39 w.params).In h₀) (hN : News h₀ L s.heap ((nl, listOf [.int a0 t0, .int n tn].toArray c) :: (sk, instObj 217 dK) :: (dK, dictOf [ent w "most" c0 (.int 64 c1), ent w "numbers" c2 (.ref nl)] 2) :: own)) (hT : Top hd.view_39 (looseW hd.view_39 [Str.ofString "HintWork"]) mean mg mb h₀) (hk : cs.kind = .function) (hd1 : dp + 4 < recursionLimit) (hu : un + 100 < cLine)
    (hO : OwnOff own [nl]) (l1 : dK < sk) (l2 : sk < nl) 
    (hret : ∀  (c' : Nat) (h' : Heap) (tk' : Nat), Fr h₀ L h' m → News h₀ L h' ((nl, listOf [.int a0 t0].toArray c') :: (sk, instObj 217 dK) :: (dK, dictOf [ent w "most" c0 (.int 64 c1), ent w "numbers" c2 (.ref nl)] 2) :: own) → Q (.int n tn) { s with heap := h', toks := tk' }) :
    wpAny (model PySem.Challenge.rw_xm0721_01.row.prog w) (ktrTop dp un gd cn cs L a ccd cl outer) (call (.ref 186) [.ref sk]) Q E s := by
  dsimp only [ent] at hN
  refine wpAny_call ?_
  k_dflt cell_enter
  k_steps
  all_goals first | ((rename decide (_ = _) = true => hz); exact absurd (of_decide_eq_true hz) (List.cons_ne_nil _ _)) | exact hret _ _ _ (by k_asm) (by k_asm) | exact hret _ _ _ (by k_asm) (kst_newsOf (by assumption) (fun p hp => List.mem_cons_of_mem _ hp))
theorem pop2_use {w : World} {mean : ExcName → Option Value} {mg mb : Str → Option Value} {dp un : Nat} {gd : Option (List Code)} {cn : Str} {cs : Scope} {a : Addr} {ccd : Value} {cl : List (Str × Addr)} {outer : List Env} {A₀ : Around} {base h₀ : Heap} {L : Addr} {m : Str → Option Value} {s : Shared} {Q E : Value → Shared → Prop} {news : List (Addr × Obj)} {g : Obj → List (Addr × Obj)} {nl sk dK : Nat} {c : Nat} {c0 c1 c2 : Tok} {n a0 : Int} {tn t0 : Tok}
    (hB : Below A₀ base outer h₀) (hF : Fr h₀ L s.heap m) (hK : (hd.heap_39 w.params).In h₀) (hN : News h₀ L s.heap (news)) (hT : Top hd.view_39 (looseW hd.view_39 [Str.ofString "HintWork"]) mean mg mb h₀) (hk : cs.kind = .function) (hd1 : dp + 4 < recursionLimit) (hu : un + 100 < cLine)
    (hU : UpdF nl (listOf [.int a0 t0, .int n tn].toArray c) news g) (m1 : (sk, instObj 217 dK) ∈ news) (m2 : (dK, dictOf [ent w "most" c0 (.int 64 c1), ent w "numbers" c2 (.ref nl)] 2) ∈ news) (l1 : dK < sk) (l2 : sk < nl) 
    (hret : ∀  (c' : Nat) (h' : Heap) (tk' : Nat), Fr h₀ L h' m → News h₀ L h' (g (listOf [.int a0 t0].toArray c')) → Q (.int n tn) { s with heap := h', toks := tk' }) :
    wpAny (model PySem.Challenge.rw_xm0721_01.row.prog w) (ktrTop dp un gd cn cs L a ccd cl outer) (call (.ref 186) [.ref sk]) Q E s := by
  obtain ⟨own, ho, h1, h2, h3⟩ := upd_own hU
  have ne1 : sk ≠ nl := Nat.ne_of_lt l2
  have ne2 : dK ≠ nl := Nat.ne_of_lt (Nat.lt_trans l1 l2)
  refine pop2_core (own := own) (nl := nl) (sk := sk) (dK := dK) (c := c) (c0 := c0) (c1 := c1) (c2 := c2) (a0 := a0) (t0 := t0) (n := n) (tn := tn) hB hF hK (fun p hp => ?_) hT hk hd1 hu ho l1 l2 (fun c' h' tk' F' N' => hret c' h' tk' F' fun p hp => ?_)
  · rcases List.mem_cons.mp hp with rfl | hp
    · exact hN _ (h1 _ (.head _))
    rcases List.mem_cons.mp hp with rfl | hp
    · exact hN _ m1
    rcases List.mem_cons.mp hp with rfl | hp
    · exact hN _ m2
    exact hN _ (h1 _ (.tail _ hp))
  · rcases List.mem_cons.mp (h3 _ _ hp) with rfl | hq
    · exact N' _ (.head _)
    · exact N' _ (.tail _ (.tail _ (.tail _ hq)))
theorem pop1_core {w : World} {mean : ExcName → Option Value} {mg mb : Str → Option Value} {dp un : Nat} {gd : Option (List Code)} {cn : Str} {cs : Scope} {a : Addr} {ccd : Value} {cl : List (Str × Addr)} {outer : List Env} {A₀ : Around} {base h₀ : Heap} {L : Addr} {m : Str → Option Value} {s : Shared} {Q E : Value → Shared → Prop} {own : List (Addr × Obj)} {nl sk dK : Nat} {c : Nat} {c0 c1 c2 : Tok} {n : Int} {tn : Tok}
    (hB : Below A₀ base outer h₀) (hF : Fr h₀ L s.heap m) (hK : (hd.heap_39 w.params).In h₀) (hN : News h₀ L s.heap ((nl, listOf [.int n tn].toArray c) :: (sk, instObj 217 dK) :: (dK, dictOf [ent w "most" c0 (.int 64 c1), ent w "numbers" c2 (.ref nl)] 2) :: own)) (hT : Top hd.view_39 (looseW hd.view_39 [Str.ofString "HintWork"]) mean mg mb h₀) (hk : cs.kind = .function) (hd1 : dp + 4 < recursionLimit) (hu : un + 100 < cLine)
    (hO : OwnOff own [nl]) (l1 : dK < sk) (l2 : sk < nl) 
    (hret : ∀  (c' : Nat) (h' : Heap) (tk' : Nat), Fr h₀ L h' m → News h₀ L h' ((nl, listOf [].toArray c') :: (sk, instObj 217 dK) :: (dK, dictOf [ent w "most" c0 (.int 64 c1), ent w "numbers" c2 (.ref nl)] 2) :: own) → Q (.int n tn) { s with heap := h', toks := tk' }) :
    wpAny (model PySem.Challenge.rw_xm0721_01.row.prog w) (ktrTop dp un gd cn cs L a ccd cl outer) (call (.ref 186) [.ref sk]) Q E s := by
  dsimp only [ent] at hN
  refine wpAny_call ?_
  k_dflt cell_enter
  k_steps
  all_goals first | ((rename decide (_ = _) = true => hz); exact absurd (of_decide_eq_true hz) (List.cons_ne_nil _ _)) | exact hret _ _ _ (by k_asm) (by k_asm) | exact hret _ _ _ (by k_asm) (kst_newsOf (by assumption) (fun p hp => List.mem_cons_of_mem _ hp))
theorem pop1_use {w : World} {mean : ExcName → Option Value} {mg mb : Str → Option Value} {dp un : Nat} {gd : Option (List Code)} {cn : Str} {cs : Scope} {a : Addr} {ccd : Value} {cl : List (Str × Addr)} {outer : List Env} {A₀ : Around} {base h₀ : Heap} {L : Addr} {m : Str → Option Value} {s : Shared} {Q E : Value → Shared → Prop} {news : List (Addr × Obj)} {g : Obj → List (Addr × Obj)} {nl sk dK : Nat} {c : Nat} {c0 c1 c2 : Tok} {n : Int} {tn : Tok}
    (hB : Below A₀ base outer h₀) (hF : Fr h₀ L s.heap m) (hK : (hd.heap_39 w.params).In h₀) (hN : News h₀ L s.heap (news)) (hT : Top hd.view_39 (looseW hd.view_39 [Str.ofString "HintWork"]) mean mg mb h₀) (hk : cs.kind = .function) (hd1 : dp + 4 < recursionLimit) (hu : un + 100 < cLine)
    (hU : UpdF nl (listOf [.int n tn].toArray c) news g) (m1 : (sk, instObj 217 dK) ∈ news) (m2 : (dK, dictOf [ent w "most" c0 (.int 64 c1), ent w "numbers" c2 (.ref nl)] 2) ∈ news) (l1 : dK < sk) (l2 : sk < nl) 
    (hret : ∀  (c' : Nat) (h' : Heap) (tk' : Nat), Fr h₀ L h' m → News h₀ L h' (g (listOf [].toArray c')) → Q (.int n tn) { s with heap := h', toks := tk' }) :
    wpAny (model PySem.Challenge.rw_xm0721_01.row.prog w) (ktrTop dp un gd cn cs L a ccd cl outer) (call (.ref 186) [.ref sk]) Q E s := by
  obtain ⟨own, ho, h1, h2, h3⟩ := upd_own hU
  have ne1 : sk ≠ nl := Nat.ne_of_lt l2
  have ne2 : dK ≠ nl := Nat.ne_of_lt (Nat.lt_trans l1 l2)
  refine pop1_core (own := own) (nl := nl) (sk := sk) (dK := dK) (c := c) (c0 := c0) (c1 := c1) (c2 := c2) (n := n) (tn := tn) hB hF hK (fun p hp => ?_) hT hk hd1 hu ho l1 l2 (fun c' h' tk' F' N' => hret c' h' tk' F' fun p hp => ?_)
  · rcases List.mem_cons.mp hp with rfl | hp
    · exact hN _ (h1 _ (.head _))
    rcases List.mem_cons.mp hp with rfl | hp
    · exact hN _ m1
    rcases List.mem_cons.mp hp with rfl | hp
    · exact hN _ m2
    exact hN _ (h1 _ (.tail _ hp))
  · rcases List.mem_cons.mp (h3 _ _ hp) with rfl | hq
    · exact N' _ (.head _)
    · exact N' _ (.tail _ (.tail _ (.tail _ hq)))
theorem place26 {w : World} {mean : ExcName → Option Value} {mg mb : Str → Option Value} {dp un : Nat} {gd : Option (List Code)} {cn : Str} {cs : Scope} {a : Addr} {ccd : Value} {cl : List (Str × Addr)} {outer : List Env} {A₀ : Around} {base h₀ : Heap} {L : Addr} {m : Str → Option Value} {s : Shared} {Q E : Value → Shared → Prop} {news : List (Addr × Obj)} {tc : Tok}
    (hB : Below A₀ base outer h₀) (hF : Fr h₀ L s.heap m) (hK : (hd.heap_39 w.params).In h₀) (hN : News h₀ L s.heap (news)) (hT : Top hd.view_39 (looseW hd.view_39 [Str.ofString "HintWork"]) mean mg mb h₀) (hk : cs.kind = .function) (hd1 : dp + 4 < recursionLimit) (hu : un + 100 < cLine)
    (hret : ∀ (t : Tok) (h' : Heap) (tk' : Nat), Fr h₀ L h' m → News h₀ L h' news → Q (.int 7 t) { s with heap := h', toks := tk' }) :
    wpAny (model PySem.Challenge.rw_xm0721_01.row.prog w) (ktrTop dp un gd cn cs L a ccd cl outer) (call (.ref 307) [.int 26 tc]) Q E s := by
  refine wpAny_call ?_
  k_dflt cell_enter
  k_steps
  exact hret _ _ _ (by k_asm) (kst_newsOf (by assumption) (fun p hp => by repeat (first | exact hp | refine List.mem_cons_of_mem _ ?_)))
theorem place29 {w : World} {mean : ExcName → Option Value} {mg mb : Str → Option Value} {dp un : Nat} {gd : Option (List Code)} {cn : Str} {cs : Scope} {a : Addr} {ccd : Value} {cl : List (Str × Addr)} {outer : List Env} {A₀ : Around} {base h₀ : Heap} {L : Addr} {m : Str → Option Value} {s : Shared} {Q E : Value → Shared → Prop} {news : List (Addr × Obj)} {tc : Tok}
    (hB : Below A₀ base outer h₀) (hF : Fr h₀ L s.heap m) (hK : (hd.heap_39 w.params).In h₀) (hN : News h₀ L s.heap (news)) (hT : Top hd.view_39 (looseW hd.view_39 [Str.ofString "HintWork"]) mean mg mb h₀) (hk : cs.kind = .function) (hd1 : dp + 4 < recursionLimit) (hu : un + 100 < cLine)
    (hret : ∀ (t : Tok) (h' : Heap) (tk' : Nat), Fr h₀ L h' m → News h₀ L h' news → Q (.int 8 t) { s with heap := h', toks := tk' }) :
    wpAny (model PySem.Challenge.rw_xm0721_01.row.prog w) (ktrTop dp un gd cn cs L a ccd cl outer) (call (.ref 307) [.int 29 tc]) Q E s := by
  refine wpAny_call ?_
  k_dflt cell_enter
  k_steps
  exact hret _ _ _ (by k_asm) (kst_newsOf (by assumption) (fun p hp => by repeat (first | exact hp | refine List.mem_cons_of_mem _ ?_)))
theorem place30 {w : World} {mean : ExcName → Option Value} {mg mb : Str → Option Value} {dp un : Nat} {gd : Option (List Code)} {cn : Str} {cs : Scope} {a : Addr} {ccd : Value} {cl : List (Str × Addr)} {outer : List Env} {A₀ : Around} {base h₀ : Heap} {L : Addr} {m : Str → Option Value} {s : Shared} {Q E : Value → Shared → Prop} {news : List (Addr × Obj)} {tc : Tok}
    (hB : Below A₀ base outer h₀) (hF : Fr h₀ L s.heap m) (hK : (hd.heap_39 w.params).In h₀) (hN : News h₀ L s.heap (news)) (hT : Top hd.view_39 (looseW hd.view_39 [Str.ofString "HintWork"]) mean mg mb h₀) (hk : cs.kind = .function) (hd1 : dp + 4 < recursionLimit) (hu : un + 100 < cLine)
    (hret : ∀ (t : Tok) (h' : Heap) (tk' : Nat), Fr h₀ L h' m → News h₀ L h' news → Q (.int 9 t) { s with heap := h', toks := tk' }) :
    wpAny (model PySem.Challenge.rw_xm0721_01.row.prog w) (ktrTop dp un gd cn cs L a ccd cl outer) (call (.ref 307) [.int 30 tc]) Q E s := by
  refine wpAny_call ?_
  k_dflt cell_enter
  k_steps
  exact hret _ _ _ (by k_asm) (kst_newsOf (by assumption) (fun p hp => by repeat (first | exact hp | refine List.mem_cons_of_mem _ ?_)))
theorem place31 {w : World} {mean : ExcName → Option Value} {mg mb : Str → Option Value} {dp un : Nat} {gd : Option (List Code)} {cn : Str} {cs : Scope} {a : Addr} {ccd : Value} {cl : List (Str × Addr)} {outer : List Env} {A₀ : Around} {base h₀ : Heap} {L : Addr} {m : Str → Option Value} {s : Shared} {Q E : Value → Shared → Prop} {news : List (Addr × Obj)} {tc : Tok}
    (hB : Below A₀ base outer h₀) (hF : Fr h₀ L s.heap m) (hK : (hd.heap_39 w.params).In h₀) (hN : News h₀ L s.heap (news)) (hT : Top hd.view_39 (looseW hd.view_39 [Str.ofString "HintWork"]) mean mg mb h₀) (hk : cs.kind = .function) (hd1 : dp + 4 < recursionLimit) (hu : un + 100 < cLine)
    (hret : ∀ (t : Tok) (h' : Heap) (tk' : Nat), Fr h₀ L h' m → News h₀ L h' news → Q (.int 10 t) { s with heap := h', toks := tk' }) :
    wpAny (model PySem.Challenge.rw_xm0721_01.row.prog w) (ktrTop dp un gd cn cs L a ccd cl outer) (call (.ref 307) [.int 31 tc]) Q E s := by
  refine wpAny_call ?_
  k_dflt cell_enter
  k_steps
  exact hret _ _ _ (by k_asm) (kst_newsOf (by assumption) (fun p hp => by repeat (first | exact hp | refine List.mem_cons_of_mem _ ?_)))
theorem place94 {w : World} {mean : ExcName → Option Value} {mg mb : Str → Option Value} {dp un : Nat} {gd : Option (List Code)} {cn : Str} {cs : Scope} {a : Addr} {ccd : Value} {cl : List (Str × Addr)} {outer : List Env} {A₀ : Around} {base h₀ : Heap} {L : Addr} {m : Str → Option Value} {s : Shared} {Q E : Value → Shared → Prop} {news : List (Addr × Obj)} {tc : Tok}
    (hB : Below A₀ base outer h₀) (hF : Fr h₀ L s.heap m) (hK : (hd.heap_39 w.params).In h₀) (hN : News h₀ L s.heap (news)) (hT : Top hd.view_39 (looseW hd.view_39 [Str.ofString "HintWork"]) mean mg mb h₀) (hk : cs.kind = .function) (hd1 : dp + 4 < recursionLimit) (hu : un + 100 < cLine)
    (hret : ∀ (t : Tok) (h' : Heap) (tk' : Nat), Fr h₀ L h' m → News h₀ L h' news → Q (.int 11 t) { s with heap := h', toks := tk' }) :
    wpAny (model PySem.Challenge.rw_xm0721_01.row.prog w) (ktrTop dp un gd cn cs L a ccd cl outer) (call (.ref 307) [.int 94 tc]) Q E s := by
  refine wpAny_call ?_
  k_dflt cell_enter
  k_steps
  exact hret _ _ _ (by k_asm) (kst_newsOf (by assumption) (fun p hp => by repeat (first | exact hp | refine List.mem_cons_of_mem _ ?_)))
theorem place95 {w : World} {mean : ExcName → Option Value} {mg mb : Str → Option Value} {dp un : Nat} {gd : Option (List Code)} {cn : Str} {cs : Scope} {a : Addr} {ccd : Value} {cl : List (Str × Addr)} {outer : List Env} {A₀ : Around} {base h₀ : Heap} {L : Addr} {m : Str → Option Value} {s : Shared} {Q E : Value → Shared → Prop} {news : List (Addr × Obj)} {tc : Tok}
    (hB : Below A₀ base outer h₀) (hF : Fr h₀ L s.heap m) (hK : (hd.heap_39 w.params).In h₀) (hN : News h₀ L s.heap (news)) (hT : Top hd.view_39 (looseW hd.view_39 [Str.ofString "HintWork"]) mean mg mb h₀) (hk : cs.kind = .function) (hd1 : dp + 4 < recursionLimit) (hu : un + 100 < cLine)
    (hret : ∀ (t : Tok) (h' : Heap) (tk' : Nat), Fr h₀ L h' m → News h₀ L h' news → Q (.int 12 t) { s with heap := h', toks := tk' }) :
    wpAny (model PySem.Challenge.rw_xm0721_01.row.prog w) (ktrTop dp un gd cn cs L a ccd cl outer) (call (.ref 307) [.int 95 tc]) Q E s := by
  refine wpAny_call ?_
  k_dflt cell_enter
  k_steps
  exact hret _ _ _ (by k_asm) (kst_newsOf (by assumption) (fun p hp => by repeat (first | exact hp | refine List.mem_cons_of_mem _ ?_)))
theorem place0 {w : World} {mean : ExcName → Option Value} {mg mb : Str → Option Value} {dp un : Nat} {gd : Option (List Code)} {cn : Str} {cs : Scope} {a : Addr} {ccd : Value} {cl : List (Str × Addr)} {outer : List Env} {A₀ : Around} {base h₀ : Heap} {L : Addr} {m : Str → Option Value} {s : Shared} {Q E : Value → Shared → Prop} {news : List (Addr × Obj)} {tc : Tok}
    (hB : Below A₀ base outer h₀) (hF : Fr h₀ L s.heap m) (hK : (hd.heap_39 w.params).In h₀) (hN : News h₀ L s.heap (news)) (hT : Top hd.view_39 (looseW hd.view_39 [Str.ofString "HintWork"]) mean mg mb h₀) (hk : cs.kind = .function) (hd1 : dp + 4 < recursionLimit) (hu : un + 100 < cLine)
    (hret : ∀ (t : Tok) (h' : Heap) (tk' : Nat), Fr h₀ L h' m → News h₀ L h' news → Q (.int 12 t) { s with heap := h', toks := tk' }) :
    wpAny (model PySem.Challenge.rw_xm0721_01.row.prog w) (ktrTop dp un gd cn cs L a ccd cl outer) (call (.ref 307) [.int 0 tc]) Q E s := by
  refine wpAny_call ?_
  k_dflt cell_enter
  k_steps
  exact hret _ _ _ (by k_asm) (kst_newsOf (by assumption) (fun p hp => by repeat (first | exact hp | refine List.mem_cons_of_mem _ ?_)))
def mdv (a b c : Int) : Int := if a * b < 0 then 0 - (0 - 2 * (a * b) + c).fdiv (2 * c) else (2 * (a * b) + c).fdiv (2 * c)
def Near (T q r : Int) : Prop := 2 * ((T - q * r).natAbs : Int) < q ∨ (2 * ((T - q * r).natAbs : Int) = q ∧ (T.natAbs : Int) < ((q * r).natAbs : Int))
theorem near_mdv {a b c : Int} (hc : 0 < c) : Near (a * b) c (mdv a b c) := by
  unfold Near mdv
  generalize a * b = T
  split
  · rename_i h
    rw [Int.fdiv_eq_ediv_of_nonneg _ (by omega)]
    have h1 := Int.mul_ediv_add_emod (0 - 2 * T + c) (2 * c)
    have h2 := Int.emod_nonneg (0 - 2 * T + c) (show 2 * c ≠ 0 by omega)
    have h3 := Int.emod_lt_of_pos (0 - 2 * T + c) (show 0 < 2 * c by omega)
    generalize (0 - 2 * T + c) / (2 * c) = d at *
    generalize (0 - 2 * T + c) % (2 * c) = e at *
    have h4 : c * (0 - d) = - (c * d) := by rw [Int.zero_sub, Int.mul_neg]
    have h5 : 2 * c * d = 2 * (c * d) := by rw [Int.mul_assoc]
    rw [h4]
    rw [h5] at h1
    generalize c * d = x at *
    omega
  · rename_i h
    rw [Int.fdiv_eq_ediv_of_nonneg _ (by omega)]
    have h1 := Int.mul_ediv_add_emod (2 * T + c) (2 * c)
    have h2 := Int.emod_nonneg (2 * T + c) (show 2 * c ≠ 0 by omega)
    have h3 := Int.emod_lt_of_pos (2 * T + c) (show 0 < 2 * c by omega)
    generalize (2 * T + c) / (2 * c) = d at *
    generalize (2 * T + c) % (2 * c) = e at *
    have h5 : 2 * c * d = 2 * (c * d) := by rw [Int.mul_assoc]
    rw [h5] at h1
    generalize c * d = x at *
    omega
theorem upd_own2 {nl dS : Addr} {o1 o2 : Obj} {news : List (Addr × Obj)} {g1 : Obj → List (Addr × Obj)} {g2 : Obj → Obj → List (Addr × Obj)} (hne : dS ≠ nl) (U1 : UpdF nl o1 news g1) (U2 : ∀ x, UpdF dS o2 (g1 x) (g2 x)) :
    ∃ own, OwnOff own [nl, dS] ∧ (∀ p, p ∈ (nl, o1) :: (dS, o2) :: own → p ∈ news) ∧ (∀ p, p ∈ news → p.1 ≠ nl → p.1 ≠ dS → p ∈ own) ∧ ∀ x y p, p ∈ g2 x y → p ∈ (nl, x) :: (dS, y) :: own := by
  obtain ⟨pre, post, e1, e2, n1, n2⟩ := U1.split
  have inn : ∀ p, p ∈ pre ++ post → p ∈ news := fun p hp => by
    rw [e1]
    rcases List.mem_append.mp hp with h | h
    · exact List.mem_append_left _ h
    · exact List.mem_append_right _ (.tail _ h)
  have ing : ∀ x p, p ∈ g1 x → p = (nl, x) ∨ p ∈ pre ++ post := fun x p hp => by
    rw [e2] at hp
    rcases List.mem_append.mp hp with h | h
    · exact .inr (List.mem_append_left _ h)
    · rcases List.mem_cons.mp h with h | h
      · exact .inl h
      · exact .inr (List.mem_append_right _ h)
  have noff : ∀ p, p ∈ pre ++ post → p.1 ≠ nl := fun p hp => by
    rcases List.mem_append.mp hp with h | h
    · exact n1 p h
    · exact n2 p h
  refine ⟨news.filter (fun p => decide (p.1 ≠ nl) && decide (p.1 ≠ dS)), ?_, ?_, ?_, ?_⟩
  · intro p hp b hb
    have z := (List.mem_filter.mp hp).2
    simp only [Bool.and_eq_true, decide_eq_true_eq] at z
    rcases List.mem_cons.mp hb with rfl | hb
    · exact z.1
    · rw [List.mem_singleton.mp hb]; exact z.2
  · intro p hp
    rcases List.mem_cons.mp hp with rfl | hp
    · rw [e1]; exact List.mem_append_right _ (.head _)
    rcases List.mem_cons.mp hp with rfl | hp
    · obtain ⟨pre2, post2, f1, f2, _, _⟩ := (U2 o1).split
      have : (dS, o2) ∈ g1 o1 := by rw [f1]; exact List.mem_append_right _ (.head _)
      rcases ing o1 _ this with h | h
      · exact absurd (congrArg Prod.fst h) hne
      · exact inn _ h
    · exact (List.mem_filter.mp hp).1
  · intro p hp h1 h2
    refine List.mem_filter.mpr ⟨hp, ?_⟩
    simp only [Bool.and_eq_true, decide_eq_true_eq]
    exact ⟨h1, h2⟩
  · intro x y p hp
    obtain ⟨pre2, post2, f1, f2, m1, m2⟩ := (U2 x).split
    rw [f2] at hp
    have key : p ∈ pre2 ++ post2 → p ∈ (nl, x) :: (dS, y) :: news.filter (fun p => decide (p.1 ≠ nl) && decide (p.1 ≠ dS)) := fun h => by
      have hd : p.1 ≠ dS := by
        rcases List.mem_append.mp h with h | h
        · exact m1 p h
        · exact m2 p h
      have hg : p ∈ g1 x := by
        rw [f1]
        rcases List.mem_append.mp h with h | h
        · exact List.mem_append_left _ h
        · exact List.mem_append_right _ (.tail _ h)
      rcases ing x p hg with h | h
      · rw [h]; exact .head _
      · refine .tail _ (.tail _ (List.mem_filter.mpr ⟨inn p h, ?_⟩))
        simp only [Bool.and_eq_true, decide_eq_true_eq]
        exact ⟨noff p h, hd⟩
    rcases List.mem_append.mp hp with h | h
    · exact key (List.mem_append_left _ h)
    · rcases List.mem_cons.mp h with rfl | h
      · exact .tail _ (.head _)
      · exact key (List.mem_append_right _ h)
theorem muldiv_spec {w : World} {mean : ExcName → Option Value} {mg mb : Str → Option Value} {dp un : Nat} {gd : Option (List Code)} {cn : Str} {cs : Scope} {a : Addr} {ccd : Value} {cl : List (Str × Addr)} {outer : List Env} {A₀ : Around} {base h₀ : Heap} {L : Addr} {m : Str → Option Value} {s : Shared} {Q E : Value → Shared → Prop} {news : List (Addr × Obj)} {n p q : Int} {tn tp tq : Tok}
    (hB : Below A₀ base outer h₀) (hF : Fr h₀ L s.heap m) (hK : (hd.heap_39 w.params).In h₀) (hN : News h₀ L s.heap (news)) (hT : Top hd.view_39 (looseW hd.view_39 [Str.ofString "HintWork"]) mean mg mb h₀) (hk : cs.kind = .function) (hd1 : dp + 2 < recursionLimit) (hu : un + 50 < cLine)
    (hn1 : -2147483648 ≤ n) (hn2 : n ≤ 2147483647) (hq : 0 < q) (hq2 : q ≤ 2048) (hp : 0 < p) (hp2 : p ≤ 64)
    (hret : ∀ (t : Tok) (h' : Heap) (tk' : Nat), Fr h₀ L h' m → News h₀ L h' news → Q (.int (mdv n p q) t) { s with heap := h', toks := tk' }) :
    wpAny (model PySem.Challenge.rw_xm0721_01.row.prog w) (ktrTop dp un gd cn cs L a ccd cl outer) (call (.ref 60) [.int n tn, .int p tp, .int q tq]) Q E s := by
  refine wpAny_call ?_
  k_dflt cell_enter
  k_steps
  · have e : mdv n p q = 0 - (0 - 2 * (n * p) + q).fdiv (2 * q) := if_pos (by assumption)
    rw [← e]
    exact hret _ _ _ (by k_asm) (by k_asm)
  · have e : mdv n p q = (2 * (n * p) + q).fdiv (2 * q) := if_neg (by assumption)
    rw [← e]
    exact hret _ _ _ (by k_asm) (by k_asm)
theorem absI (x : Int) : (if x < 0 then -x else x) = (x.natAbs : Int) := by split <;> omega
theorem near_spec {w : World} {mean : ExcName → Option Value} {mg mb : Str → Option Value} {dp un : Nat} {gd : Option (List Code)} {cn : Str} {cs : Scope} {a : Addr} {ccd : Value} {cl : List (Str × Addr)} {outer : List Env} {A₀ : Around} {base h₀ : Heap} {L : Addr} {m : Str → Option Value} {s : Shared} {Q E : Value → Shared → Prop} {news : List (Addr × Obj)} {T q r : Int} {tn tq tr : Tok}
    (hB : Below A₀ base outer h₀) (hF : Fr h₀ L s.heap m) (hK : (hd.heap_39 w.params).In h₀) (hN : News h₀ L s.heap (news)) (hT : Top hd.view_39 (looseW hd.view_39 [Str.ofString "HintWork"]) mean mg mb h₀) (hk : cs.kind = .function) (hd1 : dp + 2 < recursionLimit) (hu : un + 50 < cLine)
    (hq : 0 < q) (hq2 : q ≤ 2048) (hNear : Near T q r)
    (hret : ∀ (h' : Heap) (tk' : Nat), Fr h₀ L h' m → News h₀ L h' news → Q (.bool true) { s with heap := h', toks := tk' }) :
    wpAny (model PySem.Challenge.rw_xm0721_01.row.prog w) (ktrTop dp un gd cn cs L a ccd cl outer) (call (.ref 300) [.int T tn, .int q tq, .int r tr]) Q E s := by
  refine wpAny_call ?_
  k_dflt cell_enter
  k_steps
  · rw [decide_eq_true (by assumption)]
    exact hret _ _ (by k_asm) (by k_asm)
  · rw [decide_eq_true (show (if T < 0 then -T else T) < (if q * r < 0 then -(q * r) else q * r) by
      simp only [absI] at *
      unfold Near at hNear
      omega)]
    exact hret _ _ (by k_asm) (by k_asm)
  · exfalso
    simp only [absI] at *
    unfold Near at hNear
    omega
local macro_rules | `(tactic| walk_at "call ref") => `(tactic| (k_here; k_dflt ((((apply pop2_use <;> lcg_sub) <;> try ((with_reducible show UpdF _ _ _ _); k_updF)) <;> lcg_off)); lcg_src))
local macro_rules | `(tactic| walk_at "call ref") => `(tactic| (k_here; k_dflt ((((apply muldiv_spec <;> lcg_sub) <;> try ((with_reducible show UpdF _ _ _ _); k_updF)) <;> lcg_off)); lcg_src))
theorem dist26_core {w : World} {mean : ExcName → Option Value} {mg mb : Str → Option Value} {dp un : Nat} {gd : Option (List Code)} {cn : Str} {cs : Scope} {a : Addr} {ccd : Value} {cl : List (Str × Addr)} {outer : List Env} {A₀ : Around} {base h₀ : Heap} {L : Addr} {m : Str → Option Value} {s : Shared} {Q E : Value → Shared → Prop} {own : List (Addr × Obj)} {sc dW wk dS st fr pr du ro dK sk nl : Nat} {zo cv so : Addr} {n a0 p q x0 x1 x2 x3 x4 x5 : Int} {k0 k1 k2 k3 k4 k5 k6 k7 k8 k9 k10 k11 k12 k13 k14 k15 k16 k17 v3 v4 v5 v6 v7 v8 v9 u0 u1 u2 u3 u4 u5 w0 w1 w2 w3 w4 w5 w6 w7 b5 b6 c0 c1 c2 tp tq tn t0 tc : Tok} {c : Nat}
    (hB : Below A₀ base outer h₀) (hF : Fr h₀ L s.heap m) (hK : (hd.heap_39 w.params).In h₀) (hN : News h₀ L s.heap ((nl, listOf [.int a0 t0, .int n tn].toArray c) :: (dS, dictOf [ent w "freedom" k0 (.ref fr), ent w "projection" k1 (.ref pr), ent w "dual" k2 (.ref du), ent w "rp0" k3 (.int 0 v3), ent w "rp1" k4 (.int 0 v4), ent w "rp2" k5 (.int 0 v5), ent w "zp0" k6 (.int 1 v6), ent w "zp1" k7 (.int 1 v7), ent w "zp2" k8 (.int 1 v8), ent w "loop" k9 (.int 1 v9), ent w "minimum" k10 (.int x0 u0), ent w "cut_in" k11 (.int x1 u1), ent w "single_cut_in" k12 (.int x2 u2), ent w "single_width" k13 (.int x3 u3), ent w "delta_base" k14 (.int x4 u4), ent w "delta_shift" k15 (.int x5 u5), ent w "auto_flip" k16 (.bool true), ent w "rounding" k17 (.ref ro)] 18) :: (wk, instObj 268 dW) :: (dW, dictOf [ent w "state" w0 (.ref st), ent w "stack" w1 (.ref sk), ent w "zones" w2 (.ref zo), ent w "cvt" w3 (.ref cv), ent w "storage" w4 (.ref so), ent w "ppem" w5 (.int 12 b5), ent w "point_size" w6 (.int 768 b6), ent w "scale" w7 (.ref sc)] 8) :: (st, instObj 154 dS) :: (sk, instObj 217 dK) :: (dK, dictOf [ent w "most" c0 (.int 64 c1), ent w "numbers" c2 (.ref nl)] 2) :: (sc, tup2 p q tp tq) :: own)) (hT : Top hd.view_39 (looseW hd.view_39 [Str.ofString "HintWork"]) mean mg mb h₀) (hk : cs.kind = .function) (hd1 : dp + 6 < recursionLimit) (hu : un + 150 < cLine)
    (hO : OwnOff own [nl, dS]) (l1 : sc < dW) (l2 : dW < wk) (l3 : wk < dS) (l4 : dS < st) (l5 : st < dK) (l6 : dK < sk) (l7 : sk < nl) (hn1 : -2147483648 ≤ n) (hn2 : n ≤ 2147483647)
    (hret : ∀ (tz : Tok) (c' : Nat) (h' : Heap) (tk' : Nat), Fr h₀ L h' m → News h₀ L h' ((nl, listOf [.int a0 t0].toArray c') :: (dS, dictOf [ent w "freedom" k0 (.ref fr), ent w "projection" k1 (.ref pr), ent w "dual" k2 (.ref du), ent w "rp0" k3 (.int 0 v3), ent w "rp1" k4 (.int 0 v4), ent w "rp2" k5 (.int 0 v5), ent w "zp0" k6 (.int 1 v6), ent w "zp1" k7 (.int 1 v7), ent w "zp2" k8 (.int 1 v8), ent w "loop" k9 (.int 1 v9), ent w "minimum" k10 (.int n tz), ent w "cut_in" k11 (.int x1 u1), ent w "single_cut_in" k12 (.int x2 u2), ent w "single_width" k13 (.int x3 u3), ent w "delta_base" k14 (.int x4 u4), ent w "delta_shift" k15 (.int x5 u5), ent w "auto_flip" k16 (.bool true), ent w "rounding" k17 (.ref ro)] 18) :: (wk, instObj 268 dW) :: (dW, dictOf [ent w "state" w0 (.ref st), ent w "stack" w1 (.ref sk), ent w "zones" w2 (.ref zo), ent w "cvt" w3 (.ref cv), ent w "storage" w4 (.ref so), ent w "ppem" w5 (.int 12 b5), ent w "point_size" w6 (.int 768 b6), ent w "scale" w7 (.ref sc)] 8) :: (st, instObj 154 dS) :: (sk, instObj 217 dK) :: (dK, dictOf [ent w "most" c0 (.int 64 c1), ent w "numbers" c2 (.ref nl)] 2) :: (sc, tup2 p q tp tq) :: own) → Q .none { s with heap := h', toks := tk' }) :
    wpAny (model PySem.Challenge.rw_xm0721_01.row.prog w) (ktrTop dp un gd cn cs L a ccd cl outer) (call (.ref 74) [.ref wk, .int 26 tc]) Q E s := by
  dsimp only [ent] at hN
  refine wpAny_call ?_
  k_dflt cell_enter
  k_steps
  all_goals exact hret _ _ _ _ (by k_asm) (kst_newsOf (by assumption) (fun p hp => List.mem_cons_of_mem _ hp))
theorem dist26_use {w : World} {mean : ExcName → Option Value} {mg mb : Str → Option Value} {dp un : Nat} {gd : Option (List Code)} {cn : Str} {cs : Scope} {a : Addr} {ccd : Value} {cl : List (Str × Addr)} {outer : List Env} {A₀ : Around} {base h₀ : Heap} {L : Addr} {m : Str → Option Value} {s : Shared} {Q E : Value → Shared → Prop} {news : List (Addr × Obj)} {g1 : Obj → List (Addr × Obj)} {g2 : Obj → Obj → List (Addr × Obj)} {sc dW wk dS st fr pr du ro dK sk nl : Nat} {zo cv so : Addr} {n a0 p q x0 x1 x2 x3 x4 x5 : Int} {k0 k1 k2 k3 k4 k5 k6 k7 k8 k9 k10 k11 k12 k13 k14 k15 k16 k17 v3 v4 v5 v6 v7 v8 v9 u0 u1 u2 u3 u4 u5 w0 w1 w2 w3 w4 w5 w6 w7 b5 b6 c0 c1 c2 tp tq tn t0 tc : Tok} {c : Nat}
    (hB : Below A₀ base outer h₀) (hF : Fr h₀ L s.heap m) (hK : (hd.heap_39 w.params).In h₀) (hN : News h₀ L s.heap (news)) (hT : Top hd.view_39 (looseW hd.view_39 [Str.ofString "HintWork"]) mean mg mb h₀) (hk : cs.kind = .function) (hd1 : dp + 6 < recursionLimit) (hu : un + 150 < cLine)
    (hU1 : UpdF nl (listOf [.int a0 t0, .int n tn].toArray c) news g1) (hU2 : ∀ x, UpdF dS (dictOf [ent w "freedom" k0 (.ref fr), ent w "projection" k1 (.ref pr), ent w "dual" k2 (.ref du), ent w "rp0" k3 (.int 0 v3), ent w "rp1" k4 (.int 0 v4), ent w "rp2" k5 (.int 0 v5), ent w "zp0" k6 (.int 1 v6), ent w "zp1" k7 (.int 1 v7), ent w "zp2" k8 (.int 1 v8), ent w "loop" k9 (.int 1 v9), ent w "minimum" k10 (.int x0 u0), ent w "cut_in" k11 (.int x1 u1), ent w "single_cut_in" k12 (.int x2 u2), ent w "single_width" k13 (.int x3 u3), ent w "delta_base" k14 (.int x4 u4), ent w "delta_shift" k15 (.int x5 u5), ent w "auto_flip" k16 (.bool true), ent w "rounding" k17 (.ref ro)] 18) (g1 x) (g2 x))
    (m0 : (wk, instObj 268 dW) ∈ news) (m1 : (dW, dictOf [ent w "state" w0 (.ref st), ent w "stack" w1 (.ref sk), ent w "zones" w2 (.ref zo), ent w "cvt" w3 (.ref cv), ent w "storage" w4 (.ref so), ent w "ppem" w5 (.int 12 b5), ent w "point_size" w6 (.int 768 b6), ent w "scale" w7 (.ref sc)] 8) ∈ news) (m2 : (st, instObj 154 dS) ∈ news) (m3 : (sk, instObj 217 dK) ∈ news) (m4 : (dK, dictOf [ent w "most" c0 (.int 64 c1), ent w "numbers" c2 (.ref nl)] 2) ∈ news) (m5 : (sc, tup2 p q tp tq) ∈ news)
    (l1 : sc < dW) (l2 : dW < wk) (l3 : wk < dS) (l4 : dS < st) (l5 : st < dK) (l6 : dK < sk) (l7 : sk < nl) (hn1 : -2147483648 ≤ n) (hn2 : n ≤ 2147483647)
    (hret : ∀ (tz : Tok) (c' : Nat) (h' : Heap) (tk' : Nat), Fr h₀ L h' m → News h₀ L h' (g2 (listOf [.int a0 t0].toArray c') (dictOf [ent w "freedom" k0 (.ref fr), ent w "projection" k1 (.ref pr), ent w "dual" k2 (.ref du), ent w "rp0" k3 (.int 0 v3), ent w "rp1" k4 (.int 0 v4), ent w "rp2" k5 (.int 0 v5), ent w "zp0" k6 (.int 1 v6), ent w "zp1" k7 (.int 1 v7), ent w "zp2" k8 (.int 1 v8), ent w "loop" k9 (.int 1 v9), ent w "minimum" k10 (.int n tz), ent w "cut_in" k11 (.int x1 u1), ent w "single_cut_in" k12 (.int x2 u2), ent w "single_width" k13 (.int x3 u3), ent w "delta_base" k14 (.int x4 u4), ent w "delta_shift" k15 (.int x5 u5), ent w "auto_flip" k16 (.bool true), ent w "rounding" k17 (.ref ro)] 18)) → Q .none { s with heap := h', toks := tk' }) :
    wpAny (model PySem.Challenge.rw_xm0721_01.row.prog w) (ktrTop dp un gd cn cs L a ccd cl outer) (call (.ref 74) [.ref wk, .int 26 tc]) Q E s := by
  obtain ⟨own, ho, h1, h2, h3⟩ := upd_own2 (Nat.ne_of_lt (Nat.lt_trans l4 (Nat.lt_trans l5 (Nat.lt_trans l6 l7)))) hU1 hU2
  refine dist26_core (own := own) (sc := sc) (dW := dW) (wk := wk) (dS := dS) (st := st) (fr := fr) (pr := pr) (du := du) (ro := ro) (dK := dK) (sk := sk) (nl := nl) (zo := zo) (cv := cv) (so := so) (n := n) (a0 := a0) (p := p) (q := q) (x0 := x0) (x1 := x1) (x2 := x2) (x3 := x3) (x4 := x4) (x5 := x5) (k0 := k0) (k1 := k1) (k2 := k2) (k3 := k3) (k4 := k4) (k5 := k5) (k6 := k6) (k7 := k7) (k8 := k8) (k9 := k9) (k10 := k10) (k11 := k11) (k12 := k12) (k13 := k13) (k14 := k14) (k15 := k15) (k16 := k16) (k17 := k17) (v3 := v3) (v4 := v4) (v5 := v5) (v6 := v6) (v7 := v7) (v8 := v8) (v9 := v9) (u0 := u0) (u1 := u1) (u2 := u2) (u3 := u3) (u4 := u4) (u5 := u5) (w0 := w0) (w1 := w1) (w2 := w2) (w3 := w3) (w4 := w4) (w5 := w5) (w6 := w6) (w7 := w7) (b5 := b5) (b6 := b6) (c0 := c0) (c1 := c1) (c2 := c2) (tp := tp) (tq := tq) (tn := tn) (t0 := t0) (c := c) hB hF hK (fun p hp => ?_) hT hk hd1 hu ho l1 l2 l3 l4 l5 l6 l7 hn1 hn2 (fun tz c' h' tk' F' N' => hret tz c' h' tk' F' fun p hp => ?_)
  · rcases List.mem_cons.mp hp with rfl | hp
    · exact hN _ (h1 _ (.head _))
    rcases List.mem_cons.mp hp with rfl | hp
    · exact hN _ (h1 _ (.tail _ (.head _)))
    rcases List.mem_cons.mp hp with rfl | hp
    · exact hN _ m0
    rcases List.mem_cons.mp hp with rfl | hp
    · exact hN _ m1
    rcases List.mem_cons.mp hp with rfl | hp
    · exact hN _ m2
    rcases List.mem_cons.mp hp with rfl | hp
    · exact hN _ m3
    rcases List.mem_cons.mp hp with rfl | hp
    · exact hN _ m4
    rcases List.mem_cons.mp hp with rfl | hp
    · exact hN _ m5
    exact hN _ (h1 _ (.tail _ (.tail _ hp)))
  · rcases List.mem_cons.mp (h3 _ _ _ hp) with rfl | hq
    · exact N' _ (.head _)
    rcases List.mem_cons.mp hq with rfl | hq
    · exact N' _ (.tail _ (.head _))
    · exact N' _ (.tail _ (.tail _ (.tail _ (.tail _ (.tail _ (.tail _ (.tail _ (.tail _ hq))))))))
theorem dist29_core {w : World} {mean : ExcName → Option Value} {mg mb : Str → Option Value} {dp un : Nat} {gd : Option (List Code)} {cn : Str} {cs : Scope} {a : Addr} {ccd : Value} {cl : List (Str × Addr)} {outer : List Env} {A₀ : Around} {base h₀ : Heap} {L : Addr} {m : Str → Option Value} {s : Shared} {Q E : Value → Shared → Prop} {own : List (Addr × Obj)} {sc dW wk dS st fr pr du ro dK sk nl : Nat} {zo cv so : Addr} {n a0 p q x0 x1 x2 x3 x4 x5 : Int} {k0 k1 k2 k3 k4 k5 k6 k7 k8 k9 k10 k11 k12 k13 k14 k15 k16 k17 v3 v4 v5 v6 v7 v8 v9 u0 u1 u2 u3 u4 u5 w0 w1 w2 w3 w4 w5 w6 w7 b5 b6 c0 c1 c2 tp tq tn t0 tc : Tok} {c : Nat}
    (hB : Below A₀ base outer h₀) (hF : Fr h₀ L s.heap m) (hK : (hd.heap_39 w.params).In h₀) (hN : News h₀ L s.heap ((nl, listOf [.int a0 t0, .int n tn].toArray c) :: (dS, dictOf [ent w "freedom" k0 (.ref fr), ent w "projection" k1 (.ref pr), ent w "dual" k2 (.ref du), ent w "rp0" k3 (.int 0 v3), ent w "rp1" k4 (.int 0 v4), ent w "rp2" k5 (.int 0 v5), ent w "zp0" k6 (.int 1 v6), ent w "zp1" k7 (.int 1 v7), ent w "zp2" k8 (.int 1 v8), ent w "loop" k9 (.int 1 v9), ent w "minimum" k10 (.int x0 u0), ent w "cut_in" k11 (.int x1 u1), ent w "single_cut_in" k12 (.int x2 u2), ent w "single_width" k13 (.int x3 u3), ent w "delta_base" k14 (.int x4 u4), ent w "delta_shift" k15 (.int x5 u5), ent w "auto_flip" k16 (.bool true), ent w "rounding" k17 (.ref ro)] 18) :: (wk, instObj 268 dW) :: (dW, dictOf [ent w "state" w0 (.ref st), ent w "stack" w1 (.ref sk), ent w "zones" w2 (.ref zo), ent w "cvt" w3 (.ref cv), ent w "storage" w4 (.ref so), ent w "ppem" w5 (.int 12 b5), ent w "point_size" w6 (.int 768 b6), ent w "scale" w7 (.ref sc)] 8) :: (st, instObj 154 dS) :: (sk, instObj 217 dK) :: (dK, dictOf [ent w "most" c0 (.int 64 c1), ent w "numbers" c2 (.ref nl)] 2) :: (sc, tup2 p q tp tq) :: own)) (hT : Top hd.view_39 (looseW hd.view_39 [Str.ofString "HintWork"]) mean mg mb h₀) (hk : cs.kind = .function) (hd1 : dp + 6 < recursionLimit) (hu : un + 150 < cLine)
    (hO : OwnOff own [nl, dS]) (l1 : sc < dW) (l2 : dW < wk) (l3 : wk < dS) (l4 : dS < st) (l5 : st < dK) (l6 : dK < sk) (l7 : sk < nl) (hn1 : -2147483648 ≤ n) (hn2 : n ≤ 2147483647)
    (hret : ∀ (tz : Tok) (c' : Nat) (h' : Heap) (tk' : Nat), Fr h₀ L h' m → News h₀ L h' ((nl, listOf [.int a0 t0].toArray c') :: (dS, dictOf [ent w "freedom" k0 (.ref fr), ent w "projection" k1 (.ref pr), ent w "dual" k2 (.ref du), ent w "rp0" k3 (.int 0 v3), ent w "rp1" k4 (.int 0 v4), ent w "rp2" k5 (.int 0 v5), ent w "zp0" k6 (.int 1 v6), ent w "zp1" k7 (.int 1 v7), ent w "zp2" k8 (.int 1 v8), ent w "loop" k9 (.int 1 v9), ent w "minimum" k10 (.int x0 u0), ent w "cut_in" k11 (.int n tz), ent w "single_cut_in" k12 (.int x2 u2), ent w "single_width" k13 (.int x3 u3), ent w "delta_base" k14 (.int x4 u4), ent w "delta_shift" k15 (.int x5 u5), ent w "auto_flip" k16 (.bool true), ent w "rounding" k17 (.ref ro)] 18) :: (wk, instObj 268 dW) :: (dW, dictOf [ent w "state" w0 (.ref st), ent w "stack" w1 (.ref sk), ent w "zones" w2 (.ref zo), ent w "cvt" w3 (.ref cv), ent w "storage" w4 (.ref so), ent w "ppem" w5 (.int 12 b5), ent w "point_size" w6 (.int 768 b6), ent w "scale" w7 (.ref sc)] 8) :: (st, instObj 154 dS) :: (sk, instObj 217 dK) :: (dK, dictOf [ent w "most" c0 (.int 64 c1), ent w "numbers" c2 (.ref nl)] 2) :: (sc, tup2 p q tp tq) :: own) → Q .none { s with heap := h', toks := tk' }) :
    wpAny (model PySem.Challenge.rw_xm0721_01.row.prog w) (ktrTop dp un gd cn cs L a ccd cl outer) (call (.ref 74) [.ref wk, .int 29 tc]) Q E s := by
  dsimp only [ent] at hN
  refine wpAny_call ?_
  k_dflt cell_enter
  k_steps
  all_goals exact hret _ _ _ _ (by k_asm) (kst_newsOf (by assumption) (fun p hp => List.mem_cons_of_mem _ hp))
theorem dist29_use {w : World} {mean : ExcName → Option Value} {mg mb : Str → Option Value} {dp un : Nat} {gd : Option (List Code)} {cn : Str} {cs : Scope} {a : Addr} {ccd : Value} {cl : List (Str × Addr)} {outer : List Env} {A₀ : Around} {base h₀ : Heap} {L : Addr} {m : Str → Option Value} {s : Shared} {Q E : Value → Shared → Prop} {news : List (Addr × Obj)} {g1 : Obj → List (Addr × Obj)} {g2 : Obj → Obj → List (Addr × Obj)} {sc dW wk dS st fr pr du ro dK sk nl : Nat} {zo cv so : Addr} {n a0 p q x0 x1 x2 x3 x4 x5 : Int} {k0 k1 k2 k3 k4 k5 k6 k7 k8 k9 k10 k11 k12 k13 k14 k15 k16 k17 v3 v4 v5 v6 v7 v8 v9 u0 u1 u2 u3 u4 u5 w0 w1 w2 w3 w4 w5 w6 w7 b5 b6 c0 c1 c2 tp tq tn t0 tc : Tok} {c : Nat}
    (hB : Below A₀ base outer h₀) (hF : Fr h₀ L s.heap m) (hK : (hd.heap_39 w.params).In h₀) (hN : News h₀ L s.heap (news)) (hT : Top hd.view_39 (looseW hd.view_39 [Str.ofString "HintWork"]) mean mg mb h₀) (hk : cs.kind = .function) (hd1 : dp + 6 < recursionLimit) (hu : un + 150 < cLine)
    (hU1 : UpdF nl (listOf [.int a0 t0, .int n tn].toArray c) news g1) (hU2 : ∀ x, UpdF dS (dictOf [ent w "freedom" k0 (.ref fr), ent w "projection" k1 (.ref pr), ent w "dual" k2 (.ref du), ent w "rp0" k3 (.int 0 v3), ent w "rp1" k4 (.int 0 v4), ent w "rp2" k5 (.int 0 v5), ent w "zp0" k6 (.int 1 v6), ent w "zp1" k7 (.int 1 v7), ent w "zp2" k8 (.int 1 v8), ent w "loop" k9 (.int 1 v9), ent w "minimum" k10 (.int x0 u0), ent w "cut_in" k11 (.int x1 u1), ent w "single_cut_in" k12 (.int x2 u2), ent w "single_width" k13 (.int x3 u3), ent w "delta_base" k14 (.int x4 u4), ent w "delta_shift" k15 (.int x5 u5), ent w "auto_flip" k16 (.bool true), ent w "rounding" k17 (.ref ro)] 18) (g1 x) (g2 x))
    (m0 : (wk, instObj 268 dW) ∈ news) (m1 : (dW, dictOf [ent w "state" w0 (.ref st), ent w "stack" w1 (.ref sk), ent w "zones" w2 (.ref zo), ent w "cvt" w3 (.ref cv), ent w "storage" w4 (.ref so), ent w "ppem" w5 (.int 12 b5), ent w "point_size" w6 (.int 768 b6), ent w "scale" w7 (.ref sc)] 8) ∈ news) (m2 : (st, instObj 154 dS) ∈ news) (m3 : (sk, instObj 217 dK) ∈ news) (m4 : (dK, dictOf [ent w "most" c0 (.int 64 c1), ent w "numbers" c2 (.ref nl)] 2) ∈ news) (m5 : (sc, tup2 p q tp tq) ∈ news)
    (l1 : sc < dW) (l2 : dW < wk) (l3 : wk < dS) (l4 : dS < st) (l5 : st < dK) (l6 : dK < sk) (l7 : sk < nl) (hn1 : -2147483648 ≤ n) (hn2 : n ≤ 2147483647)
    (hret : ∀ (tz : Tok) (c' : Nat) (h' : Heap) (tk' : Nat), Fr h₀ L h' m → News h₀ L h' (g2 (listOf [.int a0 t0].toArray c') (dictOf [ent w "freedom" k0 (.ref fr), ent w "projection" k1 (.ref pr), ent w "dual" k2 (.ref du), ent w "rp0" k3 (.int 0 v3), ent w "rp1" k4 (.int 0 v4), ent w "rp2" k5 (.int 0 v5), ent w "zp0" k6 (.int 1 v6), ent w "zp1" k7 (.int 1 v7), ent w "zp2" k8 (.int 1 v8), ent w "loop" k9 (.int 1 v9), ent w "minimum" k10 (.int x0 u0), ent w "cut_in" k11 (.int n tz), ent w "single_cut_in" k12 (.int x2 u2), ent w "single_width" k13 (.int x3 u3), ent w "delta_base" k14 (.int x4 u4), ent w "delta_shift" k15 (.int x5 u5), ent w "auto_flip" k16 (.bool true), ent w "rounding" k17 (.ref ro)] 18)) → Q .none { s with heap := h', toks := tk' }) :
    wpAny (model PySem.Challenge.rw_xm0721_01.row.prog w) (ktrTop dp un gd cn cs L a ccd cl outer) (call (.ref 74) [.ref wk, .int 29 tc]) Q E s := by
  obtain ⟨own, ho, h1, h2, h3⟩ := upd_own2 (Nat.ne_of_lt (Nat.lt_trans l4 (Nat.lt_trans l5 (Nat.lt_trans l6 l7)))) hU1 hU2
  refine dist29_core (own := own) (sc := sc) (dW := dW) (wk := wk) (dS := dS) (st := st) (fr := fr) (pr := pr) (du := du) (ro := ro) (dK := dK) (sk := sk) (nl := nl) (zo := zo) (cv := cv) (so := so) (n := n) (a0 := a0) (p := p) (q := q) (x0 := x0) (x1 := x1) (x2 := x2) (x3 := x3) (x4 := x4) (x5 := x5) (k0 := k0) (k1 := k1) (k2 := k2) (k3 := k3) (k4 := k4) (k5 := k5) (k6 := k6) (k7 := k7) (k8 := k8) (k9 := k9) (k10 := k10) (k11 := k11) (k12 := k12) (k13 := k13) (k14 := k14) (k15 := k15) (k16 := k16) (k17 := k17) (v3 := v3) (v4 := v4) (v5 := v5) (v6 := v6) (v7 := v7) (v8 := v8) (v9 := v9) (u0 := u0) (u1 := u1) (u2 := u2) (u3 := u3) (u4 := u4) (u5 := u5) (w0 := w0) (w1 := w1) (w2 := w2) (w3 := w3) (w4 := w4) (w5 := w5) (w6 := w6) (w7 := w7) (b5 := b5) (b6 := b6) (c0 := c0) (c1 := c1) (c2 := c2) (tp := tp) (tq := tq) (tn := tn) (t0 := t0) (c := c) hB hF hK (fun p hp => ?_) hT hk hd1 hu ho l1 l2 l3 l4 l5 l6 l7 hn1 hn2 (fun tz c' h' tk' F' N' => hret tz c' h' tk' F' fun p hp => ?_)
  · rcases List.mem_cons.mp hp with rfl | hp
    · exact hN _ (h1 _ (.head _))
    rcases List.mem_cons.mp hp with rfl | hp
    · exact hN _ (h1 _ (.tail _ (.head _)))
    rcases List.mem_cons.mp hp with rfl | hp
    · exact hN _ m0
    rcases List.mem_cons.mp hp with rfl | hp
    · exact hN _ m1
    rcases List.mem_cons.mp hp with rfl | hp
    · exact hN _ m2
    rcases List.mem_cons.mp hp with rfl | hp
    · exact hN _ m3
    rcases List.mem_cons.mp hp with rfl | hp
    · exact hN _ m4
    rcases List.mem_cons.mp hp with rfl | hp
    · exact hN _ m5
    exact hN _ (h1 _ (.tail _ (.tail _ hp)))
  · rcases List.mem_cons.mp (h3 _ _ _ hp) with rfl | hq
    · exact N' _ (.head _)
    rcases List.mem_cons.mp hq with rfl | hq
    · exact N' _ (.tail _ (.head _))
    · exact N' _ (.tail _ (.tail _ (.tail _ (.tail _ (.tail _ (.tail _ (.tail _ (.tail _ hq))))))))
theorem dist30_core {w : World} {mean : ExcName → Option Value} {mg mb : Str → Option Value} {dp un : Nat} {gd : Option (List Code)} {cn : Str} {cs : Scope} {a : Addr} {ccd : Value} {cl : List (Str × Addr)} {outer : List Env} {A₀ : Around} {base h₀ : Heap} {L : Addr} {m : Str → Option Value} {s : Shared} {Q E : Value → Shared → Prop} {own : List (Addr × Obj)} {sc dW wk dS st fr pr du ro dK sk nl : Nat} {zo cv so : Addr} {n a0 p q x0 x1 x2 x3 x4 x5 : Int} {k0 k1 k2 k3 k4 k5 k6 k7 k8 k9 k10 k11 k12 k13 k14 k15 k16 k17 v3 v4 v5 v6 v7 v8 v9 u0 u1 u2 u3 u4 u5 w0 w1 w2 w3 w4 w5 w6 w7 b5 b6 c0 c1 c2 tp tq tn t0 tc : Tok} {c : Nat}
    (hB : Below A₀ base outer h₀) (hF : Fr h₀ L s.heap m) (hK : (hd.heap_39 w.params).In h₀) (hN : News h₀ L s.heap ((nl, listOf [.int a0 t0, .int n tn].toArray c) :: (dS, dictOf [ent w "freedom" k0 (.ref fr), ent w "projection" k1 (.ref pr), ent w "dual" k2 (.ref du), ent w "rp0" k3 (.int 0 v3), ent w "rp1" k4 (.int 0 v4), ent w "rp2" k5 (.int 0 v5), ent w "zp0" k6 (.int 1 v6), ent w "zp1" k7 (.int 1 v7), ent w "zp2" k8 (.int 1 v8), ent w "loop" k9 (.int 1 v9), ent w "minimum" k10 (.int x0 u0), ent w "cut_in" k11 (.int x1 u1), ent w "single_cut_in" k12 (.int x2 u2), ent w "single_width" k13 (.int x3 u3), ent w "delta_base" k14 (.int x4 u4), ent w "delta_shift" k15 (.int x5 u5), ent w "auto_flip" k16 (.bool true), ent w "rounding" k17 (.ref ro)] 18) :: (wk, instObj 268 dW) :: (dW, dictOf [ent w "state" w0 (.ref st), ent w "stack" w1 (.ref sk), ent w "zones" w2 (.ref zo), ent w "cvt" w3 (.ref cv), ent w "storage" w4 (.ref so), ent w "ppem" w5 (.int 12 b5), ent w "point_size" w6 (.int 768 b6), ent w "scale" w7 (.ref sc)] 8) :: (st, instObj 154 dS) :: (sk, instObj 217 dK) :: (dK, dictOf [ent w "most" c0 (.int 64 c1), ent w "numbers" c2 (.ref nl)] 2) :: (sc, tup2 p q tp tq) :: own)) (hT : Top hd.view_39 (looseW hd.view_39 [Str.ofString "HintWork"]) mean mg mb h₀) (hk : cs.kind = .function) (hd1 : dp + 6 < recursionLimit) (hu : un + 150 < cLine)
    (hO : OwnOff own [nl, dS]) (l1 : sc < dW) (l2 : dW < wk) (l3 : wk < dS) (l4 : dS < st) (l5 : st < dK) (l6 : dK < sk) (l7 : sk < nl) (hn1 : -2147483648 ≤ n) (hn2 : n ≤ 2147483647)
    (hret : ∀ (tz : Tok) (c' : Nat) (h' : Heap) (tk' : Nat), Fr h₀ L h' m → News h₀ L h' ((nl, listOf [.int a0 t0].toArray c') :: (dS, dictOf [ent w "freedom" k0 (.ref fr), ent w "projection" k1 (.ref pr), ent w "dual" k2 (.ref du), ent w "rp0" k3 (.int 0 v3), ent w "rp1" k4 (.int 0 v4), ent w "rp2" k5 (.int 0 v5), ent w "zp0" k6 (.int 1 v6), ent w "zp1" k7 (.int 1 v7), ent w "zp2" k8 (.int 1 v8), ent w "loop" k9 (.int 1 v9), ent w "minimum" k10 (.int x0 u0), ent w "cut_in" k11 (.int x1 u1), ent w "single_cut_in" k12 (.int n tz), ent w "single_width" k13 (.int x3 u3), ent w "delta_base" k14 (.int x4 u4), ent w "delta_shift" k15 (.int x5 u5), ent w "auto_flip" k16 (.bool true), ent w "rounding" k17 (.ref ro)] 18) :: (wk, instObj 268 dW) :: (dW, dictOf [ent w "state" w0 (.ref st), ent w "stack" w1 (.ref sk), ent w "zones" w2 (.ref zo), ent w "cvt" w3 (.ref cv), ent w "storage" w4 (.ref so), ent w "ppem" w5 (.int 12 b5), ent w "point_size" w6 (.int 768 b6), ent w "scale" w7 (.ref sc)] 8) :: (st, instObj 154 dS) :: (sk, instObj 217 dK) :: (dK, dictOf [ent w "most" c0 (.int 64 c1), ent w "numbers" c2 (.ref nl)] 2) :: (sc, tup2 p q tp tq) :: own) → Q .none { s with heap := h', toks := tk' }) :
    wpAny (model PySem.Challenge.rw_xm0721_01.row.prog w) (ktrTop dp un gd cn cs L a ccd cl outer) (call (.ref 74) [.ref wk, .int 30 tc]) Q E s := by
  dsimp only [ent] at hN
  refine wpAny_call ?_
  k_dflt cell_enter
  k_steps
  all_goals exact hret _ _ _ _ (by k_asm) (kst_newsOf (by assumption) (fun p hp => List.mem_cons_of_mem _ hp))
theorem dist30_use {w : World} {mean : ExcName → Option Value} {mg mb : Str → Option Value} {dp un : Nat} {gd : Option (List Code)} {cn : Str} {cs : Scope} {a : Addr} {ccd : Value} {cl : List (Str × Addr)} {outer : List Env} {A₀ : Around} {base h₀ : Heap} {L : Addr} {m : Str → Option Value} {s : Shared} {Q E : Value → Shared → Prop} {news : List (Addr × Obj)} {g1 : Obj → List (Addr × Obj)} {g2 : Obj → Obj → List (Addr × Obj)} {sc dW wk dS st fr pr du ro dK sk nl : Nat} {zo cv so : Addr} {n a0 p q x0 x1 x2 x3 x4 x5 : Int} {k0 k1 k2 k3 k4 k5 k6 k7 k8 k9 k10 k11 k12 k13 k14 k15 k16 k17 v3 v4 v5 v6 v7 v8 v9 u0 u1 u2 u3 u4 u5 w0 w1 w2 w3 w4 w5 w6 w7 b5 b6 c0 c1 c2 tp tq tn t0 tc : Tok} {c : Nat}
    (hB : Below A₀ base outer h₀) (hF : Fr h₀ L s.heap m) (hK : (hd.heap_39 w.params).In h₀) (hN : News h₀ L s.heap (news)) (hT : Top hd.view_39 (looseW hd.view_39 [Str.ofString "HintWork"]) mean mg mb h₀) (hk : cs.kind = .function) (hd1 : dp + 6 < recursionLimit) (hu : un + 150 < cLine)
    (hU1 : UpdF nl (listOf [.int a0 t0, .int n tn].toArray c) news g1) (hU2 : ∀ x, UpdF dS (dictOf [ent w "freedom" k0 (.ref fr), ent w "projection" k1 (.ref pr), ent w "dual" k2 (.ref du), ent w "rp0" k3 (.int 0 v3), ent w "rp1" k4 (.int 0 v4), ent w "rp2" k5 (.int 0 v5), ent w "zp0" k6 (.int 1 v6), ent w "zp1" k7 (.int 1 v7), ent w "zp2" k8 (.int 1 v8), ent w "loop" k9 (.int 1 v9), ent w "minimum" k10 (.int x0 u0), ent w "cut_in" k11 (.int x1 u1), ent w "single_cut_in" k12 (.int x2 u2), ent w "single_width" k13 (.int x3 u3), ent w "delta_base" k14 (.int x4 u4), ent w "delta_shift" k15 (.int x5 u5), ent w "auto_flip" k16 (.bool true), ent w "rounding" k17 (.ref ro)] 18) (g1 x) (g2 x))
    (m0 : (wk, instObj 268 dW) ∈ news) (m1 : (dW, dictOf [ent w "state" w0 (.ref st), ent w "stack" w1 (.ref sk), ent w "zones" w2 (.ref zo), ent w "cvt" w3 (.ref cv), ent w "storage" w4 (.ref so), ent w "ppem" w5 (.int 12 b5), ent w "point_size" w6 (.int 768 b6), ent w "scale" w7 (.ref sc)] 8) ∈ news) (m2 : (st, instObj 154 dS) ∈ news) (m3 : (sk, instObj 217 dK) ∈ news) (m4 : (dK, dictOf [ent w "most" c0 (.int 64 c1), ent w "numbers" c2 (.ref nl)] 2) ∈ news) (m5 : (sc, tup2 p q tp tq) ∈ news)
    (l1 : sc < dW) (l2 : dW < wk) (l3 : wk < dS) (l4 : dS < st) (l5 : st < dK) (l6 : dK < sk) (l7 : sk < nl) (hn1 : -2147483648 ≤ n) (hn2 : n ≤ 2147483647)
    (hret : ∀ (tz : Tok) (c' : Nat) (h' : Heap) (tk' : Nat), Fr h₀ L h' m → News h₀ L h' (g2 (listOf [.int a0 t0].toArray c') (dictOf [ent w "freedom" k0 (.ref fr), ent w "projection" k1 (.ref pr), ent w "dual" k2 (.ref du), ent w "rp0" k3 (.int 0 v3), ent w "rp1" k4 (.int 0 v4), ent w "rp2" k5 (.int 0 v5), ent w "zp0" k6 (.int 1 v6), ent w "zp1" k7 (.int 1 v7), ent w "zp2" k8 (.int 1 v8), ent w "loop" k9 (.int 1 v9), ent w "minimum" k10 (.int x0 u0), ent w "cut_in" k11 (.int x1 u1), ent w "single_cut_in" k12 (.int n tz), ent w "single_width" k13 (.int x3 u3), ent w "delta_base" k14 (.int x4 u4), ent w "delta_shift" k15 (.int x5 u5), ent w "auto_flip" k16 (.bool true), ent w "rounding" k17 (.ref ro)] 18)) → Q .none { s with heap := h', toks := tk' }) :
    wpAny (model PySem.Challenge.rw_xm0721_01.row.prog w) (ktrTop dp un gd cn cs L a ccd cl outer) (call (.ref 74) [.ref wk, .int 30 tc]) Q E s := by
  obtain ⟨own, ho, h1, h2, h3⟩ := upd_own2 (Nat.ne_of_lt (Nat.lt_trans l4 (Nat.lt_trans l5 (Nat.lt_trans l6 l7)))) hU1 hU2
  refine dist30_core (own := own) (sc := sc) (dW := dW) (wk := wk) (dS := dS) (st := st) (fr := fr) (pr := pr) (du := du) (ro := ro) (dK := dK) (sk := sk) (nl := nl) (zo := zo) (cv := cv) (so := so) (n := n) (a0 := a0) (p := p) (q := q) (x0 := x0) (x1 := x1) (x2 := x2) (x3 := x3) (x4 := x4) (x5 := x5) (k0 := k0) (k1 := k1) (k2 := k2) (k3 := k3) (k4 := k4) (k5 := k5) (k6 := k6) (k7 := k7) (k8 := k8) (k9 := k9) (k10 := k10) (k11 := k11) (k12 := k12) (k13 := k13) (k14 := k14) (k15 := k15) (k16 := k16) (k17 := k17) (v3 := v3) (v4 := v4) (v5 := v5) (v6 := v6) (v7 := v7) (v8 := v8) (v9 := v9) (u0 := u0) (u1 := u1) (u2 := u2) (u3 := u3) (u4 := u4) (u5 := u5) (w0 := w0) (w1 := w1) (w2 := w2) (w3 := w3) (w4 := w4) (w5 := w5) (w6 := w6) (w7 := w7) (b5 := b5) (b6 := b6) (c0 := c0) (c1 := c1) (c2 := c2) (tp := tp) (tq := tq) (tn := tn) (t0 := t0) (c := c) hB hF hK (fun p hp => ?_) hT hk hd1 hu ho l1 l2 l3 l4 l5 l6 l7 hn1 hn2 (fun tz c' h' tk' F' N' => hret tz c' h' tk' F' fun p hp => ?_)
  · rcases List.mem_cons.mp hp with rfl | hp
    · exact hN _ (h1 _ (.head _))
    rcases List.mem_cons.mp hp with rfl | hp
    · exact hN _ (h1 _ (.tail _ (.head _)))
    rcases List.mem_cons.mp hp with rfl | hp
    · exact hN _ m0
    rcases List.mem_cons.mp hp with rfl | hp
    · exact hN _ m1
    rcases List.mem_cons.mp hp with rfl | hp
    · exact hN _ m2
    rcases List.mem_cons.mp hp with rfl | hp
    · exact hN _ m3
    rcases List.mem_cons.mp hp with rfl | hp
    · exact hN _ m4
    rcases List.mem_cons.mp hp with rfl | hp
    · exact hN _ m5
    exact hN _ (h1 _ (.tail _ (.tail _ hp)))
  · rcases List.mem_cons.mp (h3 _ _ _ hp) with rfl | hq
    · exact N' _ (.head _)
    rcases List.mem_cons.mp hq with rfl | hq
    · exact N' _ (.tail _ (.head _))
    · exact N' _ (.tail _ (.tail _ (.tail _ (.tail _ (.tail _ (.tail _ (.tail _ (.tail _ hq))))))))
theorem dist31_core {w : World} {mean : ExcName → Option Value} {mg mb : Str → Option Value} {dp un : Nat} {gd : Option (List Code)} {cn : Str} {cs : Scope} {a : Addr} {ccd : Value} {cl : List (Str × Addr)} {outer : List Env} {A₀ : Around} {base h₀ : Heap} {L : Addr} {m : Str → Option Value} {s : Shared} {Q E : Value → Shared → Prop} {own : List (Addr × Obj)} {sc dW wk dS st fr pr du ro dK sk nl : Nat} {zo cv so : Addr} {n a0 p q x0 x1 x2 x3 x4 x5 : Int} {k0 k1 k2 k3 k4 k5 k6 k7 k8 k9 k10 k11 k12 k13 k14 k15 k16 k17 v3 v4 v5 v6 v7 v8 v9 u0 u1 u2 u3 u4 u5 w0 w1 w2 w3 w4 w5 w6 w7 b5 b6 c0 c1 c2 tp tq tn t0 tc : Tok} {c : Nat}
    (hB : Below A₀ base outer h₀) (hF : Fr h₀ L s.heap m) (hK : (hd.heap_39 w.params).In h₀) (hN : News h₀ L s.heap ((nl, listOf [.int a0 t0, .int n tn].toArray c) :: (dS, dictOf [ent w "freedom" k0 (.ref fr), ent w "projection" k1 (.ref pr), ent w "dual" k2 (.ref du), ent w "rp0" k3 (.int 0 v3), ent w "rp1" k4 (.int 0 v4), ent w "rp2" k5 (.int 0 v5), ent w "zp0" k6 (.int 1 v6), ent w "zp1" k7 (.int 1 v7), ent w "zp2" k8 (.int 1 v8), ent w "loop" k9 (.int 1 v9), ent w "minimum" k10 (.int x0 u0), ent w "cut_in" k11 (.int x1 u1), ent w "single_cut_in" k12 (.int x2 u2), ent w "single_width" k13 (.int x3 u3), ent w "delta_base" k14 (.int x4 u4), ent w "delta_shift" k15 (.int x5 u5), ent w "auto_flip" k16 (.bool true), ent w "rounding" k17 (.ref ro)] 18) :: (wk, instObj 268 dW) :: (dW, dictOf [ent w "state" w0 (.ref st), ent w "stack" w1 (.ref sk), ent w "zones" w2 (.ref zo), ent w "cvt" w3 (.ref cv), ent w "storage" w4 (.ref so), ent w "ppem" w5 (.int 12 b5), ent w "point_size" w6 (.int 768 b6), ent w "scale" w7 (.ref sc)] 8) :: (st, instObj 154 dS) :: (sk, instObj 217 dK) :: (dK, dictOf [ent w "most" c0 (.int 64 c1), ent w "numbers" c2 (.ref nl)] 2) :: (sc, tup2 p q tp tq) :: own)) (hT : Top hd.view_39 (looseW hd.view_39 [Str.ofString "HintWork"]) mean mg mb h₀) (hk : cs.kind = .function) (hd1 : dp + 6 < recursionLimit) (hu : un + 150 < cLine)
    (hO : OwnOff own [nl, dS]) (l1 : sc < dW) (l2 : dW < wk) (l3 : wk < dS) (l4 : dS < st) (l5 : st < dK) (l6 : dK < sk) (l7 : sk < nl) (hn1 : -2147483648 ≤ n) (hn2 : n ≤ 2147483647) (hq : 0 < q) (hq2 : q ≤ 2048) (hp : 0 < p) (hp2 : p ≤ 64)
    (hret : ∀ (tz : Tok) (c' : Nat) (h' : Heap) (tk' : Nat), Fr h₀ L h' m → News h₀ L h' ((nl, listOf [.int a0 t0].toArray c') :: (dS, dictOf [ent w "freedom" k0 (.ref fr), ent w "projection" k1 (.ref pr), ent w "dual" k2 (.ref du), ent w "rp0" k3 (.int 0 v3), ent w "rp1" k4 (.int 0 v4), ent w "rp2" k5 (.int 0 v5), ent w "zp0" k6 (.int 1 v6), ent w "zp1" k7 (.int 1 v7), ent w "zp2" k8 (.int 1 v8), ent w "loop" k9 (.int 1 v9), ent w "minimum" k10 (.int x0 u0), ent w "cut_in" k11 (.int x1 u1), ent w "single_cut_in" k12 (.int x2 u2), ent w "single_width" k13 (.int (mdv n p q) tz), ent w "delta_base" k14 (.int x4 u4), ent w "delta_shift" k15 (.int x5 u5), ent w "auto_flip" k16 (.bool true), ent w "rounding" k17 (.ref ro)] 18) :: (wk, instObj 268 dW) :: (dW, dictOf [ent w "state" w0 (.ref st), ent w "stack" w1 (.ref sk), ent w "zones" w2 (.ref zo), ent w "cvt" w3 (.ref cv), ent w "storage" w4 (.ref so), ent w "ppem" w5 (.int 12 b5), ent w "point_size" w6 (.int 768 b6), ent w "scale" w7 (.ref sc)] 8) :: (st, instObj 154 dS) :: (sk, instObj 217 dK) :: (dK, dictOf [ent w "most" c0 (.int 64 c1), ent w "numbers" c2 (.ref nl)] 2) :: (sc, tup2 p q tp tq) :: own) → Q .none { s with heap := h', toks := tk' }) :
    wpAny (model PySem.Challenge.rw_xm0721_01.row.prog w) (ktrTop dp un gd cn cs L a ccd cl outer) (call (.ref 74) [.ref wk, .int 31 tc]) Q E s := by
  dsimp only [ent] at hN
  refine wpAny_call ?_
  k_dflt cell_enter
  k_steps
  all_goals exact hret _ _ _ _ (by k_asm) (kst_newsOf (by assumption) (fun p hp => List.mem_cons_of_mem _ hp))
theorem dist31_use {w : World} {mean : ExcName → Option Value} {mg mb : Str → Option Value} {dp un : Nat} {gd : Option (List Code)} {cn : Str} {cs : Scope} {a : Addr} {ccd : Value} {cl : List (Str × Addr)} {outer : List Env} {A₀ : Around} {base h₀ : Heap} {L : Addr} {m : Str → Option Value} {s : Shared} {Q E : Value → Shared → Prop} {news : List (Addr × Obj)} {g1 : Obj → List (Addr × Obj)} {g2 : Obj → Obj → List (Addr × Obj)} {sc dW wk dS st fr pr du ro dK sk nl : Nat} {zo cv so : Addr} {n a0 p q x0 x1 x2 x3 x4 x5 : Int} {k0 k1 k2 k3 k4 k5 k6 k7 k8 k9 k10 k11 k12 k13 k14 k15 k16 k17 v3 v4 v5 v6 v7 v8 v9 u0 u1 u2 u3 u4 u5 w0 w1 w2 w3 w4 w5 w6 w7 b5 b6 c0 c1 c2 tp tq tn t0 tc : Tok} {c : Nat}
    (hB : Below A₀ base outer h₀) (hF : Fr h₀ L s.heap m) (hK : (hd.heap_39 w.params).In h₀) (hN : News h₀ L s.heap (news)) (hT : Top hd.view_39 (looseW hd.view_39 [Str.ofString "HintWork"]) mean mg mb h₀) (hk : cs.kind = .function) (hd1 : dp + 6 < recursionLimit) (hu : un + 150 < cLine)
    (hU1 : UpdF nl (listOf [.int a0 t0, .int n tn].toArray c) news g1) (hU2 : ∀ x, UpdF dS (dictOf [ent w "freedom" k0 (.ref fr), ent w "projection" k1 (.ref pr), ent w "dual" k2 (.ref du), ent w "rp0" k3 (.int 0 v3), ent w "rp1" k4 (.int 0 v4), ent w "rp2" k5 (.int 0 v5), ent w "zp0" k6 (.int 1 v6), ent w "zp1" k7 (.int 1 v7), ent w "zp2" k8 (.int 1 v8), ent w "loop" k9 (.int 1 v9), ent w "minimum" k10 (.int x0 u0), ent w "cut_in" k11 (.int x1 u1), ent w "single_cut_in" k12 (.int x2 u2), ent w "single_width" k13 (.int x3 u3), ent w "delta_base" k14 (.int x4 u4), ent w "delta_shift" k15 (.int x5 u5), ent w "auto_flip" k16 (.bool true), ent w "rounding" k17 (.ref ro)] 18) (g1 x) (g2 x))
    (m0 : (wk, instObj 268 dW) ∈ news) (m1 : (dW, dictOf [ent w "state" w0 (.ref st), ent w "stack" w1 (.ref sk), ent w "zones" w2 (.ref zo), ent w "cvt" w3 (.ref cv), ent w "storage" w4 (.ref so), ent w "ppem" w5 (.int 12 b5), ent w "point_size" w6 (.int 768 b6), ent w "scale" w7 (.ref sc)] 8) ∈ news) (m2 : (st, instObj 154 dS) ∈ news) (m3 : (sk, instObj 217 dK) ∈ news) (m4 : (dK, dictOf [ent w "most" c0 (.int 64 c1), ent w "numbers" c2 (.ref nl)] 2) ∈ news) (m5 : (sc, tup2 p q tp tq) ∈ news)
    (l1 : sc < dW) (l2 : dW < wk) (l3 : wk < dS) (l4 : dS < st) (l5 : st < dK) (l6 : dK < sk) (l7 : sk < nl) (hn1 : -2147483648 ≤ n) (hn2 : n ≤ 2147483647) (hq : 0 < q) (hq2 : q ≤ 2048) (hp : 0 < p) (hp2 : p ≤ 64)
    (hret : ∀ (tz : Tok) (c' : Nat) (h' : Heap) (tk' : Nat), Fr h₀ L h' m → News h₀ L h' (g2 (listOf [.int a0 t0].toArray c') (dictOf [ent w "freedom" k0 (.ref fr), ent w "projection" k1 (.ref pr), ent w "dual" k2 (.ref du), ent w "rp0" k3 (.int 0 v3), ent w "rp1" k4 (.int 0 v4), ent w "rp2" k5 (.int 0 v5), ent w "zp0" k6 (.int 1 v6), ent w "zp1" k7 (.int 1 v7), ent w "zp2" k8 (.int 1 v8), ent w "loop" k9 (.int 1 v9), ent w "minimum" k10 (.int x0 u0), ent w "cut_in" k11 (.int x1 u1), ent w "single_cut_in" k12 (.int x2 u2), ent w "single_width" k13 (.int (mdv n p q) tz), ent w "delta_base" k14 (.int x4 u4), ent w "delta_shift" k15 (.int x5 u5), ent w "auto_flip" k16 (.bool true), ent w "rounding" k17 (.ref ro)] 18)) → Q .none { s with heap := h', toks := tk' }) :
    wpAny (model PySem.Challenge.rw_xm0721_01.row.prog w) (ktrTop dp un gd cn cs L a ccd cl outer) (call (.ref 74) [.ref wk, .int 31 tc]) Q E s := by
  obtain ⟨own, ho, h1, h2, h3⟩ := upd_own2 (Nat.ne_of_lt (Nat.lt_trans l4 (Nat.lt_trans l5 (Nat.lt_trans l6 l7)))) hU1 hU2
  refine dist31_core (own := own) (sc := sc) (dW := dW) (wk := wk) (dS := dS) (st := st) (fr := fr) (pr := pr) (du := du) (ro := ro) (dK := dK) (sk := sk) (nl := nl) (zo := zo) (cv := cv) (so := so) (n := n) (a0 := a0) (p := p) (q := q) (x0 := x0) (x1 := x1) (x2 := x2) (x3 := x3) (x4 := x4) (x5 := x5) (k0 := k0) (k1 := k1) (k2 := k2) (k3 := k3) (k4 := k4) (k5 := k5) (k6 := k6) (k7 := k7) (k8 := k8) (k9 := k9) (k10 := k10) (k11 := k11) (k12 := k12) (k13 := k13) (k14 := k14) (k15 := k15) (k16 := k16) (k17 := k17) (v3 := v3) (v4 := v4) (v5 := v5) (v6 := v6) (v7 := v7) (v8 := v8) (v9 := v9) (u0 := u0) (u1 := u1) (u2 := u2) (u3 := u3) (u4 := u4) (u5 := u5) (w0 := w0) (w1 := w1) (w2 := w2) (w3 := w3) (w4 := w4) (w5 := w5) (w6 := w6) (w7 := w7) (b5 := b5) (b6 := b6) (c0 := c0) (c1 := c1) (c2 := c2) (tp := tp) (tq := tq) (tn := tn) (t0 := t0) (c := c) hB hF hK (fun p hp => ?_) hT hk hd1 hu ho l1 l2 l3 l4 l5 l6 l7 hn1 hn2 hq hq2 hp hp2 (fun tz c' h' tk' F' N' => hret tz c' h' tk' F' fun p hp => ?_)
  · rcases List.mem_cons.mp hp with rfl | hp
    · exact hN _ (h1 _ (.head _))
    rcases List.mem_cons.mp hp with rfl | hp
    · exact hN _ (h1 _ (.tail _ (.head _)))
    rcases List.mem_cons.mp hp with rfl | hp
    · exact hN _ m0
    rcases List.mem_cons.mp hp with rfl | hp
    · exact hN _ m1
    rcases List.mem_cons.mp hp with rfl | hp
    · exact hN _ m2
    rcases List.mem_cons.mp hp with rfl | hp
    · exact hN _ m3
    rcases List.mem_cons.mp hp with rfl | hp
    · exact hN _ m4
    rcases List.mem_cons.mp hp with rfl | hp
    · exact hN _ m5
    exact hN _ (h1 _ (.tail _ (.tail _ hp)))
  · rcases List.mem_cons.mp (h3 _ _ _ hp) with rfl | hq
    · exact N' _ (.head _)
    rcases List.mem_cons.mp hq with rfl | hq
    · exact N' _ (.tail _ (.head _))
    · exact N' _ (.tail _ (.tail _ (.tail _ (.tail _ (.tail _ (.tail _ (.tail _ (.tail _ hq))))))))
theorem dist94_core {w : World} {mean : ExcName → Option Value} {mg mb : Str → Option Value} {dp un : Nat} {gd : Option (List Code)} {cn : Str} {cs : Scope} {a : Addr} {ccd : Value} {cl : List (Str × Addr)} {outer : List Env} {A₀ : Around} {base h₀ : Heap} {L : Addr} {m : Str → Option Value} {s : Shared} {Q E : Value → Shared → Prop} {own : List (Addr × Obj)} {sc dW wk dS st fr pr du ro dK sk nl : Nat} {zo cv so : Addr} {n a0 p q x0 x1 x2 x3 x4 x5 : Int} {k0 k1 k2 k3 k4 k5 k6 k7 k8 k9 k10 k11 k12 k13 k14 k15 k16 k17 v3 v4 v5 v6 v7 v8 v9 u0 u1 u2 u3 u4 u5 w0 w1 w2 w3 w4 w5 w6 w7 b5 b6 c0 c1 c2 tp tq tn t0 tc : Tok} {c : Nat}
    (hB : Below A₀ base outer h₀) (hF : Fr h₀ L s.heap m) (hK : (hd.heap_39 w.params).In h₀) (hN : News h₀ L s.heap ((nl, listOf [.int a0 t0, .int n tn].toArray c) :: (dS, dictOf [ent w "freedom" k0 (.ref fr), ent w "projection" k1 (.ref pr), ent w "dual" k2 (.ref du), ent w "rp0" k3 (.int 0 v3), ent w "rp1" k4 (.int 0 v4), ent w "rp2" k5 (.int 0 v5), ent w "zp0" k6 (.int 1 v6), ent w "zp1" k7 (.int 1 v7), ent w "zp2" k8 (.int 1 v8), ent w "loop" k9 (.int 1 v9), ent w "minimum" k10 (.int x0 u0), ent w "cut_in" k11 (.int x1 u1), ent w "single_cut_in" k12 (.int x2 u2), ent w "single_width" k13 (.int x3 u3), ent w "delta_base" k14 (.int x4 u4), ent w "delta_shift" k15 (.int x5 u5), ent w "auto_flip" k16 (.bool true), ent w "rounding" k17 (.ref ro)] 18) :: (wk, instObj 268 dW) :: (dW, dictOf [ent w "state" w0 (.ref st), ent w "stack" w1 (.ref sk), ent w "zones" w2 (.ref zo), ent w "cvt" w3 (.ref cv), ent w "storage" w4 (.ref so), ent w "ppem" w5 (.int 12 b5), ent w "point_size" w6 (.int 768 b6), ent w "scale" w7 (.ref sc)] 8) :: (st, instObj 154 dS) :: (sk, instObj 217 dK) :: (dK, dictOf [ent w "most" c0 (.int 64 c1), ent w "numbers" c2 (.ref nl)] 2) :: (sc, tup2 p q tp tq) :: own)) (hT : Top hd.view_39 (looseW hd.view_39 [Str.ofString "HintWork"]) mean mg mb h₀) (hk : cs.kind = .function) (hd1 : dp + 6 < recursionLimit) (hu : un + 150 < cLine)
    (hO : OwnOff own [nl, dS]) (l1 : sc < dW) (l2 : dW < wk) (l3 : wk < dS) (l4 : dS < st) (l5 : st < dK) (l6 : dK < sk) (l7 : sk < nl) (hn1 : -2147483648 ≤ n) (hn2 : n ≤ 2147483647)
    (hret : ∀ (tz : Tok) (c' : Nat) (h' : Heap) (tk' : Nat), Fr h₀ L h' m → News h₀ L h' ((nl, listOf [.int a0 t0].toArray c') :: (dS, dictOf [ent w "freedom" k0 (.ref fr), ent w "projection" k1 (.ref pr), ent w "dual" k2 (.ref du), ent w "rp0" k3 (.int 0 v3), ent w "rp1" k4 (.int 0 v4), ent w "rp2" k5 (.int 0 v5), ent w "zp0" k6 (.int 1 v6), ent w "zp1" k7 (.int 1 v7), ent w "zp2" k8 (.int 1 v8), ent w "loop" k9 (.int 1 v9), ent w "minimum" k10 (.int x0 u0), ent w "cut_in" k11 (.int x1 u1), ent w "single_cut_in" k12 (.int x2 u2), ent w "single_width" k13 (.int x3 u3), ent w "delta_base" k14 (.int n tz), ent w "delta_shift" k15 (.int x5 u5), ent w "auto_flip" k16 (.bool true), ent w "rounding" k17 (.ref ro)] 18) :: (wk, instObj 268 dW) :: (dW, dictOf [ent w "state" w0 (.ref st), ent w "stack" w1 (.ref sk), ent w "zones" w2 (.ref zo), ent w "cvt" w3 (.ref cv), ent w "storage" w4 (.ref so), ent w "ppem" w5 (.int 12 b5), ent w "point_size" w6 (.int 768 b6), ent w "scale" w7 (.ref sc)] 8) :: (st, instObj 154 dS) :: (sk, instObj 217 dK) :: (dK, dictOf [ent w "most" c0 (.int 64 c1), ent w "numbers" c2 (.ref nl)] 2) :: (sc, tup2 p q tp tq) :: own) → Q .none { s with heap := h', toks := tk' }) :
    wpAny (model PySem.Challenge.rw_xm0721_01.row.prog w) (ktrTop dp un gd cn cs L a ccd cl outer) (call (.ref 74) [.ref wk, .int 94 tc]) Q E s := by
  dsimp only [ent] at hN
  refine wpAny_call ?_
  k_dflt cell_enter
  k_steps
  all_goals exact hret _ _ _ _ (by k_asm) (kst_newsOf (by assumption) (fun p hp => List.mem_cons_of_mem _ hp))
theorem dist94_use {w : World} {mean : ExcName → Option Value} {mg mb : Str → Option Value} {dp un : Nat} {gd : Option (List Code)} {cn : Str} {cs : Scope} {a : Addr} {ccd : Value} {cl : List (Str × Addr)} {outer : List Env} {A₀ : Around} {base h₀ : Heap} {L : Addr} {m : Str → Option Value} {s : Shared} {Q E : Value → Shared → Prop} {news : List (Addr × Obj)} {g1 : Obj → List (Addr × Obj)} {g2 : Obj → Obj → List (Addr × Obj)} {sc dW wk dS st fr pr du ro dK sk nl : Nat} {zo cv so : Addr} {n a0 p q x0 x1 x2 x3 x4 x5 : Int} {k0 k1 k2 k3 k4 k5 k6 k7 k8 k9 k10 k11 k12 k13 k14 k15 k16 k17 v3 v4 v5 v6 v7 v8 v9 u0 u1 u2 u3 u4 u5 w0 w1 w2 w3 w4 w5 w6 w7 b5 b6 c0 c1 c2 tp tq tn t0 tc : Tok} {c : Nat}
    (hB : Below A₀ base outer h₀) (hF : Fr h₀ L s.heap m) (hK : (hd.heap_39 w.params).In h₀) (hN : News h₀ L s.heap (news)) (hT : Top hd.view_39 (looseW hd.view_39 [Str.ofString "HintWork"]) mean mg mb h₀) (hk : cs.kind = .function) (hd1 : dp + 6 < recursionLimit) (hu : un + 150 < cLine)
    (hU1 : UpdF nl (listOf [.int a0 t0, .int n tn].toArray c) news g1) (hU2 : ∀ x, UpdF dS (dictOf [ent w "freedom" k0 (.ref fr), ent w "projection" k1 (.ref pr), ent w "dual" k2 (.ref du), ent w "rp0" k3 (.int 0 v3), ent w "rp1" k4 (.int 0 v4), ent w "rp2" k5 (.int 0 v5), ent w "zp0" k6 (.int 1 v6), ent w "zp1" k7 (.int 1 v7), ent w "zp2" k8 (.int 1 v8), ent w "loop" k9 (.int 1 v9), ent w "minimum" k10 (.int x0 u0), ent w "cut_in" k11 (.int x1 u1), ent w "single_cut_in" k12 (.int x2 u2), ent w "single_width" k13 (.int x3 u3), ent w "delta_base" k14 (.int x4 u4), ent w "delta_shift" k15 (.int x5 u5), ent w "auto_flip" k16 (.bool true), ent w "rounding" k17 (.ref ro)] 18) (g1 x) (g2 x))
    (m0 : (wk, instObj 268 dW) ∈ news) (m1 : (dW, dictOf [ent w "state" w0 (.ref st), ent w "stack" w1 (.ref sk), ent w "zones" w2 (.ref zo), ent w "cvt" w3 (.ref cv), ent w "storage" w4 (.ref so), ent w "ppem" w5 (.int 12 b5), ent w "point_size" w6 (.int 768 b6), ent w "scale" w7 (.ref sc)] 8) ∈ news) (m2 : (st, instObj 154 dS) ∈ news) (m3 : (sk, instObj 217 dK) ∈ news) (m4 : (dK, dictOf [ent w "most" c0 (.int 64 c1), ent w "numbers" c2 (.ref nl)] 2) ∈ news) (m5 : (sc, tup2 p q tp tq) ∈ news)
    (l1 : sc < dW) (l2 : dW < wk) (l3 : wk < dS) (l4 : dS < st) (l5 : st < dK) (l6 : dK < sk) (l7 : sk < nl) (hn1 : -2147483648 ≤ n) (hn2 : n ≤ 2147483647)
    (hret : ∀ (tz : Tok) (c' : Nat) (h' : Heap) (tk' : Nat), Fr h₀ L h' m → News h₀ L h' (g2 (listOf [.int a0 t0].toArray c') (dictOf [ent w "freedom" k0 (.ref fr), ent w "projection" k1 (.ref pr), ent w "dual" k2 (.ref du), ent w "rp0" k3 (.int 0 v3), ent w "rp1" k4 (.int 0 v4), ent w "rp2" k5 (.int 0 v5), ent w "zp0" k6 (.int 1 v6), ent w "zp1" k7 (.int 1 v7), ent w "zp2" k8 (.int 1 v8), ent w "loop" k9 (.int 1 v9), ent w "minimum" k10 (.int x0 u0), ent w "cut_in" k11 (.int x1 u1), ent w "single_cut_in" k12 (.int x2 u2), ent w "single_width" k13 (.int x3 u3), ent w "delta_base" k14 (.int n tz), ent w "delta_shift" k15 (.int x5 u5), ent w "auto_flip" k16 (.bool true), ent w "rounding" k17 (.ref ro)] 18)) → Q .none { s with heap := h', toks := tk' }) :
    wpAny (model PySem.Challenge.rw_xm0721_01.row.prog w) (ktrTop dp un gd cn cs L a ccd cl outer) (call (.ref 74) [.ref wk, .int 94 tc]) Q E s := by
  obtain ⟨own, ho, h1, h2, h3⟩ := upd_own2 (Nat.ne_of_lt (Nat.lt_trans l4 (Nat.lt_trans l5 (Nat.lt_trans l6 l7)))) hU1 hU2
  refine dist94_core (own := own) (sc := sc) (dW := dW) (wk := wk) (dS := dS) (st := st) (fr := fr) (pr := pr) (du := du) (ro := ro) (dK := dK) (sk := sk) (nl := nl) (zo := zo) (cv := cv) (so := so) (n := n) (a0 := a0) (p := p) (q := q) (x0 := x0) (x1 := x1) (x2 := x2) (x3 := x3) (x4 := x4) (x5 := x5) (k0 := k0) (k1 := k1) (k2 := k2) (k3 := k3) (k4 := k4) (k5 := k5) (k6 := k6) (k7 := k7) (k8 := k8) (k9 := k9) (k10 := k10) (k11 := k11) (k12 := k12) (k13 := k13) (k14 := k14) (k15 := k15) (k16 := k16) (k17 := k17) (v3 := v3) (v4 := v4) (v5 := v5) (v6 := v6) (v7 := v7) (v8 := v8) (v9 := v9) (u0 := u0) (u1 := u1) (u2 := u2) (u3 := u3) (u4 := u4) (u5 := u5) (w0 := w0) (w1 := w1) (w2 := w2) (w3 := w3) (w4 := w4) (w5 := w5) (w6 := w6) (w7 := w7) (b5 := b5) (b6 := b6) (c0 := c0) (c1 := c1) (c2 := c2) (tp := tp) (tq := tq) (tn := tn) (t0 := t0) (c := c) hB hF hK (fun p hp => ?_) hT hk hd1 hu ho l1 l2 l3 l4 l5 l6 l7 hn1 hn2 (fun tz c' h' tk' F' N' => hret tz c' h' tk' F' fun p hp => ?_)
  · rcases List.mem_cons.mp hp with rfl | hp
    · exact hN _ (h1 _ (.head _))
    rcases List.mem_cons.mp hp with rfl | hp
    · exact hN _ (h1 _ (.tail _ (.head _)))
    rcases List.mem_cons.mp hp with rfl | hp
    · exact hN _ m0
    rcases List.mem_cons.mp hp with rfl | hp
    · exact hN _ m1
    rcases List.mem_cons.mp hp with rfl | hp
    · exact hN _ m2
    rcases List.mem_cons.mp hp with rfl | hp
    · exact hN _ m3
    rcases List.mem_cons.mp hp with rfl | hp
    · exact hN _ m4
    rcases List.mem_cons.mp hp with rfl | hp
    · exact hN _ m5
    exact hN _ (h1 _ (.tail _ (.tail _ hp)))
  · rcases List.mem_cons.mp (h3 _ _ _ hp) with rfl | hq
    · exact N' _ (.head _)
    rcases List.mem_cons.mp hq with rfl | hq
    · exact N' _ (.tail _ (.head _))
    · exact N' _ (.tail _ (.tail _ (.tail _ (.tail _ (.tail _ (.tail _ (.tail _ (.tail _ hq))))))))
theorem dist95_core {w : World} {mean : ExcName → Option Value} {mg mb : Str → Option Value} {dp un : Nat} {gd : Option (List Code)} {cn : Str} {cs : Scope} {a : Addr} {ccd : Value} {cl : List (Str × Addr)} {outer : List Env} {A₀ : Around} {base h₀ : Heap} {L : Addr} {m : Str → Option Value} {s : Shared} {Q E : Value → Shared → Prop} {own : List (Addr × Obj)} {sc dW wk dS st fr pr du ro dK sk nl : Nat} {zo cv so : Addr} {n a0 p q x0 x1 x2 x3 x4 x5 : Int} {k0 k1 k2 k3 k4 k5 k6 k7 k8 k9 k10 k11 k12 k13 k14 k15 k16 k17 v3 v4 v5 v6 v7 v8 v9 u0 u1 u2 u3 u4 u5 w0 w1 w2 w3 w4 w5 w6 w7 b5 b6 c0 c1 c2 tp tq tn t0 tc : Tok} {c : Nat}
    (hB : Below A₀ base outer h₀) (hF : Fr h₀ L s.heap m) (hK : (hd.heap_39 w.params).In h₀) (hN : News h₀ L s.heap ((nl, listOf [.int a0 t0, .int n tn].toArray c) :: (dS, dictOf [ent w "freedom" k0 (.ref fr), ent w "projection" k1 (.ref pr), ent w "dual" k2 (.ref du), ent w "rp0" k3 (.int 0 v3), ent w "rp1" k4 (.int 0 v4), ent w "rp2" k5 (.int 0 v5), ent w "zp0" k6 (.int 1 v6), ent w "zp1" k7 (.int 1 v7), ent w "zp2" k8 (.int 1 v8), ent w "loop" k9 (.int 1 v9), ent w "minimum" k10 (.int x0 u0), ent w "cut_in" k11 (.int x1 u1), ent w "single_cut_in" k12 (.int x2 u2), ent w "single_width" k13 (.int x3 u3), ent w "delta_base" k14 (.int x4 u4), ent w "delta_shift" k15 (.int x5 u5), ent w "auto_flip" k16 (.bool true), ent w "rounding" k17 (.ref ro)] 18) :: (wk, instObj 268 dW) :: (dW, dictOf [ent w "state" w0 (.ref st), ent w "stack" w1 (.ref sk), ent w "zones" w2 (.ref zo), ent w "cvt" w3 (.ref cv), ent w "storage" w4 (.ref so), ent w "ppem" w5 (.int 12 b5), ent w "point_size" w6 (.int 768 b6), ent w "scale" w7 (.ref sc)] 8) :: (st, instObj 154 dS) :: (sk, instObj 217 dK) :: (dK, dictOf [ent w "most" c0 (.int 64 c1), ent w "numbers" c2 (.ref nl)] 2) :: (sc, tup2 p q tp tq) :: own)) (hT : Top hd.view_39 (looseW hd.view_39 [Str.ofString "HintWork"]) mean mg mb h₀) (hk : cs.kind = .function) (hd1 : dp + 6 < recursionLimit) (hu : un + 150 < cLine)
    (hO : OwnOff own [nl, dS]) (l1 : sc < dW) (l2 : dW < wk) (l3 : wk < dS) (l4 : dS < st) (l5 : st < dK) (l6 : dK < sk) (l7 : sk < nl) (hn1 : -2147483648 ≤ n) (hn2 : n ≤ 2147483647) (hg1 : 0 ≤ n) (hg2 : n ≤ 6)
    (hret : ∀ (tz : Tok) (c' : Nat) (h' : Heap) (tk' : Nat), Fr h₀ L h' m → News h₀ L h' ((nl, listOf [.int a0 t0].toArray c') :: (dS, dictOf [ent w "freedom" k0 (.ref fr), ent w "projection" k1 (.ref pr), ent w "dual" k2 (.ref du), ent w "rp0" k3 (.int 0 v3), ent w "rp1" k4 (.int 0 v4), ent w "rp2" k5 (.int 0 v5), ent w "zp0" k6 (.int 1 v6), ent w "zp1" k7 (.int 1 v7), ent w "zp2" k8 (.int 1 v8), ent w "loop" k9 (.int 1 v9), ent w "minimum" k10 (.int x0 u0), ent w "cut_in" k11 (.int x1 u1), ent w "single_cut_in" k12 (.int x2 u2), ent w "single_width" k13 (.int x3 u3), ent w "delta_base" k14 (.int x4 u4), ent w "delta_shift" k15 (.int n tz), ent w "auto_flip" k16 (.bool true), ent w "rounding" k17 (.ref ro)] 18) :: (wk, instObj 268 dW) :: (dW, dictOf [ent w "state" w0 (.ref st), ent w "stack" w1 (.ref sk), ent w "zones" w2 (.ref zo), ent w "cvt" w3 (.ref cv), ent w "storage" w4 (.ref so), ent w "ppem" w5 (.int 12 b5), ent w "point_size" w6 (.int 768 b6), ent w "scale" w7 (.ref sc)] 8) :: (st, instObj 154 dS) :: (sk, instObj 217 dK) :: (dK, dictOf [ent w "most" c0 (.int 64 c1), ent w "numbers" c2 (.ref nl)] 2) :: (sc, tup2 p q tp tq) :: own) → Q .none { s with heap := h', toks := tk' }) :
    wpAny (model PySem.Challenge.rw_xm0721_01.row.prog w) (ktrTop dp un gd cn cs L a ccd cl outer) (call (.ref 74) [.ref wk, .int 95 tc]) Q E s := by
  dsimp only [ent] at hN
  refine wpAny_call ?_
  k_dflt cell_enter
  k_steps
  all_goals exact hret _ _ _ _ (by k_asm) (kst_newsOf (by assumption) (fun p hp => List.mem_cons_of_mem _ hp))
theorem dist95_use {w : World} {mean : ExcName → Option Value} {mg mb : Str → Option Value} {dp un : Nat} {gd : Option (List Code)} {cn : Str} {cs : Scope} {a : Addr} {ccd : Value} {cl : List (Str × Addr)} {outer : List Env} {A₀ : Around} {base h₀ : Heap} {L : Addr} {m : Str → Option Value} {s : Shared} {Q E : Value → Shared → Prop} {news : List (Addr × Obj)} {g1 : Obj → List (Addr × Obj)} {g2 : Obj → Obj → List (Addr × Obj)} {sc dW wk dS st fr pr du ro dK sk nl : Nat} {zo cv so : Addr} {n a0 p q x0 x1 x2 x3 x4 x5 : Int} {k0 k1 k2 k3 k4 k5 k6 k7 k8 k9 k10 k11 k12 k13 k14 k15 k16 k17 v3 v4 v5 v6 v7 v8 v9 u0 u1 u2 u3 u4 u5 w0 w1 w2 w3 w4 w5 w6 w7 b5 b6 c0 c1 c2 tp tq tn t0 tc : Tok} {c : Nat}
    (hB : Below A₀ base outer h₀) (hF : Fr h₀ L s.heap m) (hK : (hd.heap_39 w.params).In h₀) (hN : News h₀ L s.heap (news)) (hT : Top hd.view_39 (looseW hd.view_39 [Str.ofString "HintWork"]) mean mg mb h₀) (hk : cs.kind = .function) (hd1 : dp + 6 < recursionLimit) (hu : un + 150 < cLine)
    (hU1 : UpdF nl (listOf [.int a0 t0, .int n tn].toArray c) news g1) (hU2 : ∀ x, UpdF dS (dictOf [ent w "freedom" k0 (.ref fr), ent w "projection" k1 (.ref pr), ent w "dual" k2 (.ref du), ent w "rp0" k3 (.int 0 v3), ent w "rp1" k4 (.int 0 v4), ent w "rp2" k5 (.int 0 v5), ent w "zp0" k6 (.int 1 v6), ent w "zp1" k7 (.int 1 v7), ent w "zp2" k8 (.int 1 v8), ent w "loop" k9 (.int 1 v9), ent w "minimum" k10 (.int x0 u0), ent w "cut_in" k11 (.int x1 u1), ent w "single_cut_in" k12 (.int x2 u2), ent w "single_width" k13 (.int x3 u3), ent w "delta_base" k14 (.int x4 u4), ent w "delta_shift" k15 (.int x5 u5), ent w "auto_flip" k16 (.bool true), ent w "rounding" k17 (.ref ro)] 18) (g1 x) (g2 x))
    (m0 : (wk, instObj 268 dW) ∈ news) (m1 : (dW, dictOf [ent w "state" w0 (.ref st), ent w "stack" w1 (.ref sk), ent w "zones" w2 (.ref zo), ent w "cvt" w3 (.ref cv), ent w "storage" w4 (.ref so), ent w "ppem" w5 (.int 12 b5), ent w "point_size" w6 (.int 768 b6), ent w "scale" w7 (.ref sc)] 8) ∈ news) (m2 : (st, instObj 154 dS) ∈ news) (m3 : (sk, instObj 217 dK) ∈ news) (m4 : (dK, dictOf [ent w "most" c0 (.int 64 c1), ent w "numbers" c2 (.ref nl)] 2) ∈ news) (m5 : (sc, tup2 p q tp tq) ∈ news)
    (l1 : sc < dW) (l2 : dW < wk) (l3 : wk < dS) (l4 : dS < st) (l5 : st < dK) (l6 : dK < sk) (l7 : sk < nl) (hn1 : -2147483648 ≤ n) (hn2 : n ≤ 2147483647) (hg1 : 0 ≤ n) (hg2 : n ≤ 6)
    (hret : ∀ (tz : Tok) (c' : Nat) (h' : Heap) (tk' : Nat), Fr h₀ L h' m → News h₀ L h' (g2 (listOf [.int a0 t0].toArray c') (dictOf [ent w "freedom" k0 (.ref fr), ent w "projection" k1 (.ref pr), ent w "dual" k2 (.ref du), ent w "rp0" k3 (.int 0 v3), ent w "rp1" k4 (.int 0 v4), ent w "rp2" k5 (.int 0 v5), ent w "zp0" k6 (.int 1 v6), ent w "zp1" k7 (.int 1 v7), ent w "zp2" k8 (.int 1 v8), ent w "loop" k9 (.int 1 v9), ent w "minimum" k10 (.int x0 u0), ent w "cut_in" k11 (.int x1 u1), ent w "single_cut_in" k12 (.int x2 u2), ent w "single_width" k13 (.int x3 u3), ent w "delta_base" k14 (.int x4 u4), ent w "delta_shift" k15 (.int n tz), ent w "auto_flip" k16 (.bool true), ent w "rounding" k17 (.ref ro)] 18)) → Q .none { s with heap := h', toks := tk' }) :
    wpAny (model PySem.Challenge.rw_xm0721_01.row.prog w) (ktrTop dp un gd cn cs L a ccd cl outer) (call (.ref 74) [.ref wk, .int 95 tc]) Q E s := by
  obtain ⟨own, ho, h1, h2, h3⟩ := upd_own2 (Nat.ne_of_lt (Nat.lt_trans l4 (Nat.lt_trans l5 (Nat.lt_trans l6 l7)))) hU1 hU2
  refine dist95_core (own := own) (sc := sc) (dW := dW) (wk := wk) (dS := dS) (st := st) (fr := fr) (pr := pr) (du := du) (ro := ro) (dK := dK) (sk := sk) (nl := nl) (zo := zo) (cv := cv) (so := so) (n := n) (a0 := a0) (p := p) (q := q) (x0 := x0) (x1 := x1) (x2 := x2) (x3 := x3) (x4 := x4) (x5 := x5) (k0 := k0) (k1 := k1) (k2 := k2) (k3 := k3) (k4 := k4) (k5 := k5) (k6 := k6) (k7 := k7) (k8 := k8) (k9 := k9) (k10 := k10) (k11 := k11) (k12 := k12) (k13 := k13) (k14 := k14) (k15 := k15) (k16 := k16) (k17 := k17) (v3 := v3) (v4 := v4) (v5 := v5) (v6 := v6) (v7 := v7) (v8 := v8) (v9 := v9) (u0 := u0) (u1 := u1) (u2 := u2) (u3 := u3) (u4 := u4) (u5 := u5) (w0 := w0) (w1 := w1) (w2 := w2) (w3 := w3) (w4 := w4) (w5 := w5) (w6 := w6) (w7 := w7) (b5 := b5) (b6 := b6) (c0 := c0) (c1 := c1) (c2 := c2) (tp := tp) (tq := tq) (tn := tn) (t0 := t0) (c := c) hB hF hK (fun p hp => ?_) hT hk hd1 hu ho l1 l2 l3 l4 l5 l6 l7 hn1 hn2 hg1 hg2 (fun tz c' h' tk' F' N' => hret tz c' h' tk' F' fun p hp => ?_)
  · rcases List.mem_cons.mp hp with rfl | hp
    · exact hN _ (h1 _ (.head _))
    rcases List.mem_cons.mp hp with rfl | hp
    · exact hN _ (h1 _ (.tail _ (.head _)))
    rcases List.mem_cons.mp hp with rfl | hp
    · exact hN _ m0
    rcases List.mem_cons.mp hp with rfl | hp
    · exact hN _ m1
    rcases List.mem_cons.mp hp with rfl | hp
    · exact hN _ m2
    rcases List.mem_cons.mp hp with rfl | hp
    · exact hN _ m3
    rcases List.mem_cons.mp hp with rfl | hp
    · exact hN _ m4
    rcases List.mem_cons.mp hp with rfl | hp
    · exact hN _ m5
    exact hN _ (h1 _ (.tail _ (.tail _ hp)))
  · rcases List.mem_cons.mp (h3 _ _ _ hp) with rfl | hq
    · exact N' _ (.head _)
    rcases List.mem_cons.mp hq with rfl | hq
    · exact N' _ (.tail _ (.head _))
    · exact N' _ (.tail _ (.tail _ (.tail _ (.tail _ (.tail _ (.tail _ (.tail _ (.tail _ hq))))))))
theorem dist0_core {w : World} {mean : ExcName → Option Value} {mg mb : Str → Option Value} {dp un : Nat} {gd : Option (List Code)} {cn : Str} {cs : Scope} {a : Addr} {ccd : Value} {cl : List (Str × Addr)} {outer : List Env} {A₀ : Around} {base h₀ : Heap} {L : Addr} {m : Str → Option Value} {s : Shared} {Q E : Value → Shared → Prop} {own : List (Addr × Obj)} {sc dW wk dS st fr pr du ro dK sk nl : Nat} {zo cv so : Addr} {n a0 p q x0 x1 x2 x3 x4 x5 : Int} {k0 k1 k2 k3 k4 k5 k6 k7 k8 k9 k10 k11 k12 k13 k14 k15 k16 k17 v3 v4 v5 v6 v7 v8 v9 u0 u1 u2 u3 u4 u5 w0 w1 w2 w3 w4 w5 w6 w7 b5 b6 c0 c1 c2 tp tq tn t0 tc : Tok} {c : Nat}
    (hB : Below A₀ base outer h₀) (hF : Fr h₀ L s.heap m) (hK : (hd.heap_39 w.params).In h₀) (hN : News h₀ L s.heap ((nl, listOf [.int a0 t0, .int n tn].toArray c) :: (dS, dictOf [ent w "freedom" k0 (.ref fr), ent w "projection" k1 (.ref pr), ent w "dual" k2 (.ref du), ent w "rp0" k3 (.int 0 v3), ent w "rp1" k4 (.int 0 v4), ent w "rp2" k5 (.int 0 v5), ent w "zp0" k6 (.int 1 v6), ent w "zp1" k7 (.int 1 v7), ent w "zp2" k8 (.int 1 v8), ent w "loop" k9 (.int 1 v9), ent w "minimum" k10 (.int x0 u0), ent w "cut_in" k11 (.int x1 u1), ent w "single_cut_in" k12 (.int x2 u2), ent w "single_width" k13 (.int x3 u3), ent w "delta_base" k14 (.int x4 u4), ent w "delta_shift" k15 (.int x5 u5), ent w "auto_flip" k16 (.bool true), ent w "rounding" k17 (.ref ro)] 18) :: (wk, instObj 268 dW) :: (dW, dictOf [ent w "state" w0 (.ref st), ent w "stack" w1 (.ref sk), ent w "zones" w2 (.ref zo), ent w "cvt" w3 (.ref cv), ent w "storage" w4 (.ref so), ent w "ppem" w5 (.int 12 b5), ent w "point_size" w6 (.int 768 b6), ent w "scale" w7 (.ref sc)] 8) :: (st, instObj 154 dS) :: (sk, instObj 217 dK) :: (dK, dictOf [ent w "most" c0 (.int 64 c1), ent w "numbers" c2 (.ref nl)] 2) :: (sc, tup2 p q tp tq) :: own)) (hT : Top hd.view_39 (looseW hd.view_39 [Str.ofString "HintWork"]) mean mg mb h₀) (hk : cs.kind = .function) (hd1 : dp + 6 < recursionLimit) (hu : un + 150 < cLine)
    (hO : OwnOff own [nl, dS]) (l1 : sc < dW) (l2 : dW < wk) (l3 : wk < dS) (l4 : dS < st) (l5 : st < dK) (l6 : dK < sk) (l7 : sk < nl) (hn1 : -2147483648 ≤ n) (hn2 : n ≤ 2147483647) (hg1 : 0 ≤ n) (hg2 : n ≤ 6)
    (hret : ∀ (tz : Tok) (c' : Nat) (h' : Heap) (tk' : Nat), Fr h₀ L h' m → News h₀ L h' ((nl, listOf [.int a0 t0].toArray c') :: (dS, dictOf [ent w "freedom" k0 (.ref fr), ent w "projection" k1 (.ref pr), ent w "dual" k2 (.ref du), ent w "rp0" k3 (.int 0 v3), ent w "rp1" k4 (.int 0 v4), ent w "rp2" k5 (.int 0 v5), ent w "zp0" k6 (.int 1 v6), ent w "zp1" k7 (.int 1 v7), ent w "zp2" k8 (.int 1 v8), ent w "loop" k9 (.int 1 v9), ent w "minimum" k10 (.int x0 u0), ent w "cut_in" k11 (.int x1 u1), ent w "single_cut_in" k12 (.int x2 u2), ent w "single_width" k13 (.int x3 u3), ent w "delta_base" k14 (.int x4 u4), ent w "delta_shift" k15 (.int n tz), ent w "auto_flip" k16 (.bool true), ent w "rounding" k17 (.ref ro)] 18) :: (wk, instObj 268 dW) :: (dW, dictOf [ent w "state" w0 (.ref st), ent w "stack" w1 (.ref sk), ent w "zones" w2 (.ref zo), ent w "cvt" w3 (.ref cv), ent w "storage" w4 (.ref so), ent w "ppem" w5 (.int 12 b5), ent w "point_size" w6 (.int 768 b6), ent w "scale" w7 (.ref sc)] 8) :: (st, instObj 154 dS) :: (sk, instObj 217 dK) :: (dK, dictOf [ent w "most" c0 (.int 64 c1), ent w "numbers" c2 (.ref nl)] 2) :: (sc, tup2 p q tp tq) :: own) → Q .none { s with heap := h', toks := tk' }) :
    wpAny (model PySem.Challenge.rw_xm0721_01.row.prog w) (ktrTop dp un gd cn cs L a ccd cl outer) (call (.ref 74) [.ref wk, .int 0 tc]) Q E s := by
  dsimp only [ent] at hN
  refine wpAny_call ?_
  k_dflt cell_enter
  k_steps
  all_goals exact hret _ _ _ _ (by k_asm) (kst_newsOf (by assumption) (fun p hp => List.mem_cons_of_mem _ hp))
theorem dist0_use {w : World} {mean : ExcName → Option Value} {mg mb : Str → Option Value} {dp un : Nat} {gd : Option (List Code)} {cn : Str} {cs : Scope} {a : Addr} {ccd : Value} {cl : List (Str × Addr)} {outer : List Env} {A₀ : Around} {base h₀ : Heap} {L : Addr} {m : Str → Option Value} {s : Shared} {Q E : Value → Shared → Prop} {news : List (Addr × Obj)} {g1 : Obj → List (Addr × Obj)} {g2 : Obj → Obj → List (Addr × Obj)} {sc dW wk dS st fr pr du ro dK sk nl : Nat} {zo cv so : Addr} {n a0 p q x0 x1 x2 x3 x4 x5 : Int} {k0 k1 k2 k3 k4 k5 k6 k7 k8 k9 k10 k11 k12 k13 k14 k15 k16 k17 v3 v4 v5 v6 v7 v8 v9 u0 u1 u2 u3 u4 u5 w0 w1 w2 w3 w4 w5 w6 w7 b5 b6 c0 c1 c2 tp tq tn t0 tc : Tok} {c : Nat}
    (hB : Below A₀ base outer h₀) (hF : Fr h₀ L s.heap m) (hK : (hd.heap_39 w.params).In h₀) (hN : News h₀ L s.heap (news)) (hT : Top hd.view_39 (looseW hd.view_39 [Str.ofString "HintWork"]) mean mg mb h₀) (hk : cs.kind = .function) (hd1 : dp + 6 < recursionLimit) (hu : un + 150 < cLine)
    (hU1 : UpdF nl (listOf [.int a0 t0, .int n tn].toArray c) news g1) (hU2 : ∀ x, UpdF dS (dictOf [ent w "freedom" k0 (.ref fr), ent w "projection" k1 (.ref pr), ent w "dual" k2 (.ref du), ent w "rp0" k3 (.int 0 v3), ent w "rp1" k4 (.int 0 v4), ent w "rp2" k5 (.int 0 v5), ent w "zp0" k6 (.int 1 v6), ent w "zp1" k7 (.int 1 v7), ent w "zp2" k8 (.int 1 v8), ent w "loop" k9 (.int 1 v9), ent w "minimum" k10 (.int x0 u0), ent w "cut_in" k11 (.int x1 u1), ent w "single_cut_in" k12 (.int x2 u2), ent w "single_width" k13 (.int x3 u3), ent w "delta_base" k14 (.int x4 u4), ent w "delta_shift" k15 (.int x5 u5), ent w "auto_flip" k16 (.bool true), ent w "rounding" k17 (.ref ro)] 18) (g1 x) (g2 x))
    (m0 : (wk, instObj 268 dW) ∈ news) (m1 : (dW, dictOf [ent w "state" w0 (.ref st), ent w "stack" w1 (.ref sk), ent w "zones" w2 (.ref zo), ent w "cvt" w3 (.ref cv), ent w "storage" w4 (.ref so), ent w "ppem" w5 (.int 12 b5), ent w "point_size" w6 (.int 768 b6), ent w "scale" w7 (.ref sc)] 8) ∈ news) (m2 : (st, instObj 154 dS) ∈ news) (m3 : (sk, instObj 217 dK) ∈ news) (m4 : (dK, dictOf [ent w "most" c0 (.int 64 c1), ent w "numbers" c2 (.ref nl)] 2) ∈ news) (m5 : (sc, tup2 p q tp tq) ∈ news)
    (l1 : sc < dW) (l2 : dW < wk) (l3 : wk < dS) (l4 : dS < st) (l5 : st < dK) (l6 : dK < sk) (l7 : sk < nl) (hn1 : -2147483648 ≤ n) (hn2 : n ≤ 2147483647) (hg1 : 0 ≤ n) (hg2 : n ≤ 6)
    (hret : ∀ (tz : Tok) (c' : Nat) (h' : Heap) (tk' : Nat), Fr h₀ L h' m → News h₀ L h' (g2 (listOf [.int a0 t0].toArray c') (dictOf [ent w "freedom" k0 (.ref fr), ent w "projection" k1 (.ref pr), ent w "dual" k2 (.ref du), ent w "rp0" k3 (.int 0 v3), ent w "rp1" k4 (.int 0 v4), ent w "rp2" k5 (.int 0 v5), ent w "zp0" k6 (.int 1 v6), ent w "zp1" k7 (.int 1 v7), ent w "zp2" k8 (.int 1 v8), ent w "loop" k9 (.int 1 v9), ent w "minimum" k10 (.int x0 u0), ent w "cut_in" k11 (.int x1 u1), ent w "single_cut_in" k12 (.int x2 u2), ent w "single_width" k13 (.int x3 u3), ent w "delta_base" k14 (.int x4 u4), ent w "delta_shift" k15 (.int n tz), ent w "auto_flip" k16 (.bool true), ent w "rounding" k17 (.ref ro)] 18)) → Q .none { s with heap := h', toks := tk' }) :
    wpAny (model PySem.Challenge.rw_xm0721_01.row.prog w) (ktrTop dp un gd cn cs L a ccd cl outer) (call (.ref 74) [.ref wk, .int 0 tc]) Q E s := by
  obtain ⟨own, ho, h1, h2, h3⟩ := upd_own2 (Nat.ne_of_lt (Nat.lt_trans l4 (Nat.lt_trans l5 (Nat.lt_trans l6 l7)))) hU1 hU2
  refine dist0_core (own := own) (sc := sc) (dW := dW) (wk := wk) (dS := dS) (st := st) (fr := fr) (pr := pr) (du := du) (ro := ro) (dK := dK) (sk := sk) (nl := nl) (zo := zo) (cv := cv) (so := so) (n := n) (a0 := a0) (p := p) (q := q) (x0 := x0) (x1 := x1) (x2 := x2) (x3 := x3) (x4 := x4) (x5 := x5) (k0 := k0) (k1 := k1) (k2 := k2) (k3 := k3) (k4 := k4) (k5 := k5) (k6 := k6) (k7 := k7) (k8 := k8) (k9 := k9) (k10 := k10) (k11 := k11) (k12 := k12) (k13 := k13) (k14 := k14) (k15 := k15) (k16 := k16) (k17 := k17) (v3 := v3) (v4 := v4) (v5 := v5) (v6 := v6) (v7 := v7) (v8 := v8) (v9 := v9) (u0 := u0) (u1 := u1) (u2 := u2) (u3 := u3) (u4 := u4) (u5 := u5) (w0 := w0) (w1 := w1) (w2 := w2) (w3 := w3) (w4 := w4) (w5 := w5) (w6 := w6) (w7 := w7) (b5 := b5) (b6 := b6) (c0 := c0) (c1 := c1) (c2 := c2) (tp := tp) (tq := tq) (tn := tn) (t0 := t0) (c := c) hB hF hK (fun p hp => ?_) hT hk hd1 hu ho l1 l2 l3 l4 l5 l6 l7 hn1 hn2 hg1 hg2 (fun tz c' h' tk' F' N' => hret tz c' h' tk' F' fun p hp => ?_)
  · rcases List.mem_cons.mp hp with rfl | hp
    · exact hN _ (h1 _ (.head _))
    rcases List.mem_cons.mp hp with rfl | hp
    · exact hN _ (h1 _ (.tail _ (.head _)))
    rcases List.mem_cons.mp hp with rfl | hp
    · exact hN _ m0
    rcases List.mem_cons.mp hp with rfl | hp
    · exact hN _ m1
    rcases List.mem_cons.mp hp with rfl | hp
    · exact hN _ m2
    rcases List.mem_cons.mp hp with rfl | hp
    · exact hN _ m3
    rcases List.mem_cons.mp hp with rfl | hp
    · exact hN _ m4
    rcases List.mem_cons.mp hp with rfl | hp
    · exact hN _ m5
    exact hN _ (h1 _ (.tail _ (.tail _ hp)))
  · rcases List.mem_cons.mp (h3 _ _ _ hp) with rfl | hq
    · exact N' _ (.head _)
    rcases List.mem_cons.mp hq with rfl | hq
    · exact N' _ (.tail _ (.head _))
    · exact N' _ (.tail _ (.tail _ (.tail _ (.tail _ (.tail _ (.tail _ (.tail _ (.tail _ hq))))))))
local macro_rules | `(tactic| walk_at "eval Dict") => `(tactic| (k_here; k_dflt (refine' kdn_str ?q ?F ?N ?b ?a ?l ?e ?n ?_; (case q => rfl); (case F => k_asm); (case N => first | k_asm | exact News.nil); (case b => exact Top.nolimit (by k_asm)); (case a => rfl); (case l => rfl); (case e => exact List.cons_ne_nil _ _); (case n => exact Nat.le_of_ble_eq_true rfl)); intro d' h' o' F' N' l1 lo' hd'; (try k_lt l1)))
theorem named_spec {w : World} {mean : ExcName → Option Value} {mg mb : Str → Option Value} {dp un : Nat} {gd : Option (List Code)} {cn : Str} {cs : Scope} {a : Addr} {ccd : Value} {cl : List (Str × Addr)} {outer : List Env} {A₀ : Around} {base h₀ : Heap} {L : Addr} {m : Str → Option Value} {s : Shared} {Q E : Value → Shared → Prop} {news : List (Addr × Obj)} {tg : Tok}
    (hB : Below A₀ base outer h₀) (hF : Fr h₀ L s.heap m) (hK : (hd.heap_39 w.params).In h₀) (hN : News h₀ L s.heap (news)) (hT : Top hd.view_39 (looseW hd.view_39 [Str.ofString "HintWork"]) mean mg mb h₀) (hk : cs.kind = .function) (hd1 : dp + 6 < recursionLimit) (hu : un + 150 < cLine)
    (hret : ∀ (ro dR : Nat) (r0 r1 r2 r3 r4 r5 : Tok) (h' : Heap) (tk' : Nat), Fr h₀ L h' m → News h₀ L h' ((ro, instObj 98 dR) :: (dR, dictOf [ent w "period" r0 (.int 64 r1), ent w "phase" r2 (.int 0 r3), ent w "threshold" r4 (.int 32 r5)] 3) :: news) → (∀ p ∈ news, p.1 < dR) → dR < ro → Q (.ref ro) { s with heap := h', toks := tk' }) :
    wpAny (model PySem.Challenge.rw_xm0721_01.row.prog w) (ktrTop dp un gd cn cs L a ccd cl outer) (call (.ref 109) [.str (Str.ofString "grid") tg]) Q E s := by
  refine wpAny_call ?_
  k_dflt cell_enter
  k_steps
  refine hret _ _ _ _ _ _ _ _ _ _ (by k_asm) (kst_newsOf (by assumption) (List.forall_mem_cons.mpr ⟨by k_mem, List.forall_mem_cons.mpr ⟨by k_mem, fun p hp => by repeat (first | exact hp | refine List.mem_cons_of_mem _ ?_)⟩⟩)) ?_ ?_
  · (rename _ ∧ _ => hl9)
    repeat (first | exact kst_ltOf hl9 | replace hl9 := hl9.2)
  · omega
local macro_rules | `(tactic| walk_at "call ref") => `(tactic| (k_here; k_dflt ((((apply named_spec <;> lcg_sub) <;> try ((with_reducible show UpdF _ _ _ _); k_updF)) <;> lcg_off)); lcg_src))
theorem gs_spec {w : World} {mean : ExcName → Option Value} {mg mb : Str → Option Value} {dp un : Nat} {gd : Option (List Code)} {cn : Str} {cs : Scope} {a : Addr} {ccd : Value} {cl : List (Str × Addr)} {outer : List Env} {A₀ : Around} {base h₀ : Heap} {L : Addr} {m : Str → Option Value} {s : Shared} {Q E : Value → Shared → Prop} {news : List (Addr × Obj)}
    (hB : Below A₀ base outer h₀) (hF : Fr h₀ L s.heap m) (hK : (hd.heap_39 w.params).In h₀) (hN : News h₀ L s.heap (news)) (hT : Top hd.view_39 (looseW hd.view_39 [Str.ofString "HintWork"]) mean mg mb h₀) (hk : cs.kind = .function) (hd1 : dp + 9 < recursionLimit) (hu : un + 225 < cLine)
    (hret : ∀ (st dS fr pr du dR ro : Nat) (k0 k1 k2 k3 k4 k5 k6 k7 k8 k9 k10 k11 k12 k13 k14 k15 k16 k17 v3 v4 v5 v6 v7 v8 v9 u0 u1 u2 u3 u4 u5 r0 r1 r2 r3 r4 r5 f0 f1 f2 f3 f4 f5 : Tok) (h' : Heap) (tk' : Nat), Fr h₀ L h' m → News h₀ L h' ((dS, dictOf [ent w "freedom" k0 (.ref fr), ent w "projection" k1 (.ref pr), ent w "dual" k2 (.ref du), ent w "rp0" k3 (.int 0 v3), ent w "rp1" k4 (.int 0 v4), ent w "rp2" k5 (.int 0 v5), ent w "zp0" k6 (.int 1 v6), ent w "zp1" k7 (.int 1 v7), ent w "zp2" k8 (.int 1 v8), ent w "loop" k9 (.int 1 v9), ent w "minimum" k10 (.int 64 u0), ent w "cut_in" k11 (.int 68 u1), ent w "single_cut_in" k12 (.int 0 u2), ent w "single_width" k13 (.int 0 u3), ent w "delta_base" k14 (.int 9 u4), ent w "delta_shift" k15 (.int 3 u5), ent w "auto_flip" k16 (.bool true), ent w "rounding" k17 (.ref ro)] 18) :: (st, instObj 154 dS) :: (ro, instObj 98 dR) :: (dR, dictOf [ent w "period" r0 (.int 64 r1), ent w "phase" r2 (.int 0 r3), ent w "threshold" r4 (.int 32 r5)] 3) :: (fr, tup2 16384 0 f0 f1) :: (pr, tup2 16384 0 f2 f3) :: (du, tup2 16384 0 f4 f5) :: news) → (∀ p ∈ news, p.1 < dS) → dS < st → st < fr → fr < pr → pr < du → du < dR → dR < ro → Q (.ref st) { s with heap := h', toks := tk' }) :
    wpAny (model PySem.Challenge.rw_xm0721_01.row.prog w) (ktrTop dp un gd cn cs L a ccd cl outer) (call (.ref 154) []) Q E s := by
  k_dflt (refine' call_cls ?k1 ?k2 ?k3 ?k4 ?k5 ?k6 ?_; (case k1 => k_asm); (case k2 => k_asm); (case k3 => k_asm); (case k4 => k_is); (case k5 => k_is); (case k6 => k_is); k_whole)
  intro x' d' h' F' N' l1 l2
  (try k_lt l1)
  (try k_lt2 l2)
  k_dflt cell_enter
  k_steps
  refine hret x' d' _ _ _ _ _ _ _ _ _ _ _ _ _ _ _ _ _ _ _ _ _ _ _ _ _ _ _ _ _ _ _ _ _ _ _ _ _ _ _ _ _ _ _ _ _ _ _ _ _ _ (by k_asm) (kst_newsOf (by assumption) (List.forall_mem_cons.mpr ⟨by k_mem, List.forall_mem_cons.mpr ⟨by k_mem, List.forall_mem_cons.mpr ⟨by k_mem, List.forall_mem_cons.mpr ⟨by k_mem, List.forall_mem_cons.mpr ⟨by k_mem, List.forall_mem_cons.mpr ⟨by k_mem, List.forall_mem_cons.mpr ⟨by k_mem, fun p hp => by repeat (first | exact hp | refine List.mem_cons_of_mem _ ?_)⟩⟩⟩⟩⟩⟩⟩)) (by first | exact l1 | exact kst_ltOf l1) l2 (by omega) (by omega) (by omega) (by omega) (by omega)
theorem hs_spec {w : World} {mean : ExcName → Option Value} {mg mb : Str → Option Value} {dp un : Nat} {gd : Option (List Code)} {cn : Str} {cs : Scope} {a : Addr} {ccd : Value} {cl : List (Str × Addr)} {outer : List Env} {A₀ : Around} {base h₀ : Heap} {L : Addr} {m : Str → Option Value} {s : Shared} {Q E : Value → Shared → Prop} {news : List (Addr × Obj)} {t64 : Tok}
    (hB : Below A₀ base outer h₀) (hF : Fr h₀ L s.heap m) (hK : (hd.heap_39 w.params).In h₀) (hN : News h₀ L s.heap (news)) (hT : Top hd.view_39 (looseW hd.view_39 [Str.ofString "HintWork"]) mean mg mb h₀) (hk : cs.kind = .function) (hd1 : dp + 6 < recursionLimit) (hu : un + 150 < cLine)
    (hret : ∀ (sk dK nl : Nat) (c0 c1 c2 : Tok) (c : Nat) (h' : Heap) (tk' : Nat), Fr h₀ L h' m → News h₀ L h' ((nl, listOf [].toArray c) :: (sk, instObj 217 dK) :: (dK, dictOf [ent w "most" c0 (.int 64 c1), ent w "numbers" c2 (.ref nl)] 2) :: news) → (∀ p ∈ news, p.1 < dK) → dK < sk → sk < nl → Q (.ref sk) { s with heap := h', toks := tk' }) :
    wpAny (model PySem.Challenge.rw_xm0721_01.row.prog w) (ktrTop dp un gd cn cs L a ccd cl outer) (call (.ref 217) [.int 64 t64]) Q E s := by
  k_dflt (refine' call_cls ?k1 ?k2 ?k3 ?k4 ?k5 ?k6 ?_; (case k1 => k_asm); (case k2 => k_asm); (case k3 => k_asm); (case k4 => k_is); (case k5 => k_is); (case k6 => k_is); k_whole)
  intro x' d' h' F' N' l1 l2
  (try k_lt l1)
  (try k_lt2 l2)
  k_dflt cell_enter
  k_steps
  refine hret x' d' _ _ _ _ _ _ _ (by k_asm) (kst_newsOf (by assumption) (List.forall_mem_cons.mpr ⟨by k_mem, List.forall_mem_cons.mpr ⟨by k_mem, List.forall_mem_cons.mpr ⟨by k_mem, fun p hp => by repeat (first | exact hp | refine List.mem_cons_of_mem _ ?_)⟩⟩⟩)) (by first | exact l1 | exact kst_ltOf l1) l2 (by omega)
local macro_rules | `(tactic| walk_at "call ref") => `(tactic| (k_here; k_dflt ((((apply gs_spec <;> lcg_sub) <;> try ((with_reducible show UpdF _ _ _ _); k_updF)) <;> lcg_off)); lcg_src))
local macro_rules | `(tactic| walk_at "call ref") => `(tactic| (k_here; k_dflt ((((apply hs_spec <;> lcg_sub) <;> try ((with_reducible show UpdF _ _ _ _); k_updF)) <;> lcg_off)); lcg_src))
theorem work_spec {w : World} {mean : ExcName → Option Value} {mg mb : Str → Option Value} {dp un : Nat} {gd : Option (List Code)} {cn : Str} {cs : Scope} {a : Addr} {ccd : Value} {cl : List (Str × Addr)} {outer : List Env} {A₀ : Around} {base h₀ : Heap} {L : Addr} {m : Str → Option Value} {s : Shared} {Q E : Value → Shared → Prop} {news : List (Addr × Obj)} {zo cv sc : Addr} {t64 t12 t768 : Tok}
    (hB : Below A₀ base outer h₀) (hF : Fr h₀ L s.heap m) (hK : (hd.heap_39 w.params).In h₀) (hN : News h₀ L s.heap (news)) (hT : Top hd.view_39 (looseW hd.view_39 [Str.ofString "HintWork"]) mean mg mb h₀) (hk : cs.kind = .function) (hd1 : dp + 12 < recursionLimit) (hu : un + 300 < cLine)
    (hret : ∀ (dW wk dS st fr pr du dR ro dK sk nl so : Nat) (k0 k1 k2 k3 k4 k5 k6 k7 k8 k9 k10 k11 k12 k13 k14 k15 k16 k17 v3 v4 v5 v6 v7 v8 v9 u0 u1 u2 u3 u4 u5 r0 r1 r2 r3 r4 r5 f0 f1 f2 f3 f4 f5 w0 w1 w2 w3 w4 w5 w6 w7 b5 b6 c0 c1 c2 : Tok) (c : Nat) (h' : Heap) (tk' : Nat), Fr h₀ L h' m → News h₀ L h' ((nl, listOf [].toArray c) :: (dS, dictOf [ent w "freedom" k0 (.ref fr), ent w "projection" k1 (.ref pr), ent w "dual" k2 (.ref du), ent w "rp0" k3 (.int 0 v3), ent w "rp1" k4 (.int 0 v4), ent w "rp2" k5 (.int 0 v5), ent w "zp0" k6 (.int 1 v6), ent w "zp1" k7 (.int 1 v7), ent w "zp2" k8 (.int 1 v8), ent w "loop" k9 (.int 1 v9), ent w "minimum" k10 (.int 64 u0), ent w "cut_in" k11 (.int 68 u1), ent w "single_cut_in" k12 (.int 0 u2), ent w "single_width" k13 (.int 0 u3), ent w "delta_base" k14 (.int 9 u4), ent w "delta_shift" k15 (.int 3 u5), ent w "auto_flip" k16 (.bool true), ent w "rounding" k17 (.ref ro)] 18) :: (wk, instObj 268 dW) :: (dW, dictOf [ent w "state" w0 (.ref st), ent w "stack" w1 (.ref sk), ent w "zones" w2 (.ref zo), ent w "cvt" w3 (.ref cv), ent w "storage" w4 (.ref so), ent w "ppem" w5 (.int 12 b5), ent w "point_size" w6 (.int 768 b6), ent w "scale" w7 (.ref sc)] 8) :: (st, instObj 154 dS) :: (sk, instObj 217 dK) :: (dK, dictOf [ent w "most" c0 (.int 64 c1), ent w "numbers" c2 (.ref nl)] 2) :: (ro, instObj 98 dR) :: (dR, dictOf [ent w "period" r0 (.int 64 r1), ent w "phase" r2 (.int 0 r3), ent w "threshold" r4 (.int 32 r5)] 3) :: (fr, tup2 16384 0 f0 f1) :: (pr, tup2 16384 0 f2 f3) :: (du, tup2 16384 0 f4 f5) :: news) → (∀ p ∈ news, p.1 < dW) → dW < wk → wk < dS → dS < st → st < fr → fr < pr → pr < du → du < dR → dR < ro → ro < dK → dK < sk → sk < nl → Q (.ref wk) { s with heap := h', toks := tk' }) :
    wpAny (model PySem.Challenge.rw_xm0721_01.row.prog w) (ktrTop dp un gd cn cs L a ccd cl outer) (call (.ref 268) [.ref zo, .ref cv, .int 64 t64, .int 12 t12, .int 768 t768, .ref sc]) Q E s := by
  k_dflt (refine' call_cls ?k1 ?k2 ?k3 ?k4 ?k5 ?k6 ?_; (case k1 => k_asm); (case k2 => k_asm); (case k3 => k_asm); (case k4 => k_is); (case k5 => k_is); (case k6 => k_is); k_whole)
  intro x' d' h' F' N' l1 l2
  (try k_lt l1)
  (try k_lt2 l2)
  k_dflt (refine' code_def ?k1 ?k2 ?k3 ?k4 ?k5 ?kA ?kF ?kK ?k6 ?k7 ?k8 ?k9 ?kB ?_ ?c2 ?c3 ?c4 ?c5; (case kA => exact rfl); (case kF => exact rfl); (case kK => assumption); (case k1 => k_asm); (case k2 => k_asm); (case k3 => k_asm); (case k4 => k_asm); (case k5 => k_asm); (case k6 => k_is); (case k7 => k_is); (case k8 => k_room); (case k9 => exact binds_K (by k_in) rfl (by k_is) rfl rfl rfl); (case kB => exact locs rfl); (case c2 => exact rfl); (case c3 => exact rfl); (case c4 => exact rfl); (case c5 => decide); k_whole)
  intro g' L' h' FG' F' N' B' X' T'
  (try dsimp only)
  (try k_lift B')
  (try k_fold)
  k_steps
  refine hret d' x' _ _ _ _ _ _ _ _ _ _ _ _ _ _ _ _ _ _ _ _ _ _ _ _ _ _ _ _ _ _ _ _ _ _ _ _ _ _ _ _ _ _ _ _ _ _ _ _ _ _ _ _ _ _ _ _ _ _ _ _ _ _ _ _ _ _ _ _ _ _ (by k_asm) (kst_newsOf (by assumption) (List.forall_mem_cons.mpr ⟨by k_mem, List.forall_mem_cons.mpr ⟨by k_mem, List.forall_mem_cons.mpr ⟨by k_mem, List.forall_mem_cons.mpr ⟨by k_mem, List.forall_mem_cons.mpr ⟨by k_mem, List.forall_mem_cons.mpr ⟨by k_mem, List.forall_mem_cons.mpr ⟨by k_mem, List.forall_mem_cons.mpr ⟨by k_mem, List.forall_mem_cons.mpr ⟨by k_mem, List.forall_mem_cons.mpr ⟨by k_mem, List.forall_mem_cons.mpr ⟨by k_mem, List.forall_mem_cons.mpr ⟨by k_mem, fun p hp => by repeat (first | exact hp | refine List.mem_cons_of_mem _ ?_)⟩⟩⟩⟩⟩⟩⟩⟩⟩⟩⟩⟩)) (by first | exact l1 | exact kst_ltOf l1) l2 (by omega) (by omega) (by omega) (by omega) (by omega) (by omega) (by omega) (by omega) (by omega) (by omega)
local macro_rules | `(tactic| ktr_enter) => `(tactic| (refine' code_defS0 ?k1 ?k2 ?k3 ?k4 ?k5 ?kA ?k6 ?k7 ?k8 ?k9 ?kB ?_ ?cK ?c2 ?c3 ?c4 ?c5; (case kA => exact rfl); (case k2 => k_asm); (case k1 => k_asm); (case k3 => k_asm); (case k4 => k_asm); (case k5 => k_asm); (case k6 => k_is); (case k7 => k_is); (case k8 => k_room); (case k9 => exact BindsTo.of_eq rfl); (case kB => exact locs rfl); (case cK => assumption); (case c2 => exact rfl); (case c3 => exact rfl); (case c4 => exact rfl); (case c5 => decide); k_whole; intro g' L' h' FG' F' N' B' X' T' D'; (try dsimp only); (try k_lift B'); (try k_fold)))
local macro_rules | `(tactic| walk_at "call ref") => `(tactic| (k_here; k_dflt ((((apply fault_spec <;> lcg_sub) <;> try ((with_reducible show UpdF _ _ _ _); k_updF)) <;> lcg_off)); (intros; try dsimp only)))
local macro_rules | `(tactic| walk_at "exec Raise some none") => `(tactic| (k_here; k_dflt (refine' raise_K (C := 51) ?X ?q ?hh ?_; (case X => k_asm); (case q => exact q51 _); (case hh => first | rfl | assumption); k_whole)))
local macro_rules | `(tactic| walk_at "RaiseEnd") => `(tactic| (k_here; k_dflt (refine' raiseEnd_of ?F ?N ?m ?_; (case F => k_asm); (case N => k_asm); (case m => k_mem); k_whole)))
local macro_rules | `(tactic| walk_at "leaving ref") => `(tactic| (k_here; k_dflt (refine' leave_faultS ?K ?F ?N ?h1 ?h2 ?_; (case K => k_asm); (case F => k_asm); (case N => k_asm); (case h1 => assumption); (case h2 => assumption); k_whole); intro h' S' R' U'; (try dsimp only at S' R' U' ⊢)))
local macro_rules | `(tactic| walk_at "subscriptTail Name Slice ref ref") => `(tactic| (k_here; k_dflt (first
  | (refine' tup_upto ?F ?N ?t ?a ?b ?e ?_ ?s ?g ?z; (case F => k_asm); (case N => k_asm); (case t => k_mem); (case a => decide); (case b => (simp only [List.length_cons, List.length_nil]; omega)); (case e => kl_lit); (case s => with_unfolding_all rfl); (case g => kmk_pure); (case z => (simp only [List.length_cons, List.length_nil]; omega)))
  | (refine' tup_from ?F ?N ?t ?a ?b ?e ?_ ?s ?g ?z; (case F => k_asm); (case N => k_asm); (case t => k_mem); (case a => decide); (case b => (simp only [List.length_cons, List.length_nil]; omega)); (case e => kl_lit); (case s => with_unfolding_all rfl); (case g => kmk_pure); (case z => (simp only [List.length_cons, List.length_nil]; omega)))); intro D' h' F' N' l1; (try k_lt l1)))
theorem raisedS_sub {base G : Heap} {l : List Env} {e t : Addr} {cls : Value} {vs : List Value} {news news' : List (Addr × Obj)} {h : Heap} (R : RaisedS base G l e cls t vs news h) (hs : ∀ p ∈ news', p ∈ news) : RaisedS base G l e cls t vs news' h := by
  obtain ⟨⟨B, h1, h2, h3, h4, h5⟩, h6⟩ := R
  exact ⟨⟨B, h1, h2, fun q hq => h3 q (hs q hq), h4, h5⟩, h6⟩
theorem distbad_core {w : World} {mean : ExcName → Option Value} {mg mb : Str → Option Value} {dp un : Nat} {gd : Option (List Code)} {cn : Str} {cs : Scope} {a : Addr} {ccd : Value} {cl : List (Str × Addr)} {outer : List Env} {A₀ : Around} {base h₀ : Heap} {L : Addr} {m : Str → Option Value} {s : Shared} {Q E : Value → Shared → Prop} {own : List (Addr × Obj)} {nl wk dW st dS sk dK sc : Nat} {zo cv so : Addr} {n a0 code : Int} {w0 w1 w2 w3 w4 w5 w6 w7 b5 b6 c0 c1 c2 tn t0 tc : Tok} {c : Nat}
    (hB : Below A₀ base outer h₀) (hF : Fr h₀ L s.heap m) (hK : (hd.heap_39 w.params).In h₀) (hN : News h₀ L s.heap ((nl, listOf [.int a0 t0, .int n tn].toArray c) :: (wk, instObj 268 dW) :: (dW, dictOf [ent w "state" w0 (.ref st), ent w "stack" w1 (.ref sk), ent w "zones" w2 (.ref zo), ent w "cvt" w3 (.ref cv), ent w "storage" w4 (.ref so), ent w "ppem" w5 (.int 12 b5), ent w "point_size" w6 (.int 768 b6), ent w "scale" w7 (.ref sc)] 8) :: (st, instObj 154 dS) :: (sk, instObj 217 dK) :: (dK, dictOf [ent w "most" c0 (.int 64 c1), ent w "numbers" c2 (.ref nl)] 2) :: own)) (hT : Top hd.view_39 (looseW hd.view_39 [Str.ofString "HintWork"]) mean mg mb h₀) (hk : cs.kind = .function) (hd1 : dp + 6 < recursionLimit) (hu : un + 150 < cLine)
    (hO : OwnOff own [nl]) (l2 : dW < wk) (l4 : wk < st) (l5 : st < dK) (l6 : dK < sk) (l7 : sk < nl) (hn1 : -2147483648 ≤ n) (hn2 : n ≤ 2147483647) (hc : code = 95 ∨ code = 0) (hg : n < 0 ∨ 6 < n)
    (hE : ∀ (G : Heap) (e t : Nat) (vs : List Value) (c' : Nat) (h' : Heap) (tk' : Nat), Fr h₀ L G m → RaisedS base G (envX cn cs L a ccd cl :: outer) e (.ref 51) t vs ((nl, listOf [.int a0 t0].toArray c') :: (wk, instObj 268 dW) :: (dW, dictOf [ent w "state" w0 (.ref st), ent w "stack" w1 (.ref sk), ent w "zones" w2 (.ref zo), ent w "cvt" w3 (.ref cv), ent w "storage" w4 (.ref so), ent w "ppem" w5 (.int 12 b5), ent w "point_size" w6 (.int 768 b6), ent w "scale" w7 (.ref sc)] 8) :: (st, instObj 154 dS) :: (sk, instObj 217 dK) :: (dK, dictOf [ent w "most" c0 (.int 64 c1), ent w "numbers" c2 (.ref nl)] 2) :: own) h' → G.UpToSlots h' → E (.ref e) { s with heap := h', toks := tk' }) :
    wpAny (model PySem.Challenge.rw_xm0721_01.row.prog w) (ktrTop dp un gd cn cs L a ccd cl outer) (call (.ref 74) [.ref wk, .int code tc]) Q E s := by
  dsimp only [ent] at hN
  rcases hc with rfl | rfl <;> rcases hg with hg | hg <;> (
    refine wpAny_call ?_
    k_dflt cell_enter
    k_steps)
  all_goals (refine hE _ _ _ _ _ _ _ ?_ (raisedS_sub (by assumption) (fun p hp => List.mem_cons_of_mem _ hp)) (by assumption) <;> assumption)
theorem distbad_use {w : World} {mean : ExcName → Option Value} {mg mb : Str → Option Value} {dp un : Nat} {gd : Option (List Code)} {cn : Str} {cs : Scope} {a : Addr} {ccd : Value} {cl : List (Str × Addr)} {outer : List Env} {A₀ : Around} {base h₀ : Heap} {L : Addr} {m : Str → Option Value} {s : Shared} {Q E : Value → Shared → Prop} {news : List (Addr × Obj)} {g : Obj → List (Addr × Obj)} {nl wk dW st dS sk dK sc : Nat} {zo cv so : Addr} {n a0 code : Int} {w0 w1 w2 w3 w4 w5 w6 w7 b5 b6 c0 c1 c2 tn t0 tc : Tok} {c : Nat}
    (hB : Below A₀ base outer h₀) (hF : Fr h₀ L s.heap m) (hK : (hd.heap_39 w.params).In h₀) (hN : News h₀ L s.heap (news)) (hT : Top hd.view_39 (looseW hd.view_39 [Str.ofString "HintWork"]) mean mg mb h₀) (hk : cs.kind = .function) (hd1 : dp + 6 < recursionLimit) (hu : un + 150 < cLine)
    (hU : UpdF nl (listOf [.int a0 t0, .int n tn].toArray c) news g) (m0 : (wk, instObj 268 dW) ∈ news) (m1 : (dW, dictOf [ent w "state" w0 (.ref st), ent w "stack" w1 (.ref sk), ent w "zones" w2 (.ref zo), ent w "cvt" w3 (.ref cv), ent w "storage" w4 (.ref so), ent w "ppem" w5 (.int 12 b5), ent w "point_size" w6 (.int 768 b6), ent w "scale" w7 (.ref sc)] 8) ∈ news) (m2 : (st, instObj 154 dS) ∈ news) (m3 : (sk, instObj 217 dK) ∈ news) (m4 : (dK, dictOf [ent w "most" c0 (.int 64 c1), ent w "numbers" c2 (.ref nl)] 2) ∈ news) (l2 : dW < wk) (l4 : wk < st) (l5 : st < dK) (l6 : dK < sk) (l7 : sk < nl) (hn1 : -2147483648 ≤ n) (hn2 : n ≤ 2147483647) (hc : code = 95 ∨ code = 0) (hg : n < 0 ∨ 6 < n)
    (hE : ∀ (G : Heap) (e t : Nat) (vs : List Value) (c' : Nat) (h' : Heap) (tk' : Nat), Fr h₀ L G m → RaisedS base G (envX cn cs L a ccd cl :: outer) e (.ref 51) t vs (g (listOf [.int a0 t0].toArray c')) h' → G.UpToSlots h' → E (.ref e) { s with heap := h', toks := tk' }) :
    wpAny (model PySem.Challenge.rw_xm0721_01.row.prog w) (ktrTop dp un gd cn cs L a ccd cl outer) (call (.ref 74) [.ref wk, .int code tc]) Q E s := by
  obtain ⟨own, ho, h1, h2, h3⟩ := upd_own hU
  refine distbad_core (own := own) (nl := nl) (wk := wk) (dW := dW) (st := st) (dS := dS) (sk := sk) (dK := dK) (sc := sc) (zo := zo) (cv := cv) (so := so) (n := n) (a0 := a0) (code := code) (tn := tn) (t0 := t0) (c := c) (w0 := w0) (w1 := w1) (w2 := w2) (w3 := w3) (w4 := w4) (w5 := w5) (w6 := w6) (w7 := w7) (b5 := b5) (b6 := b6) (c0 := c0) (c1 := c1) (c2 := c2) hB hF hK (fun p hp => ?_) hT hk hd1 hu ho l2 l4 l5 l6 l7 hn1 hn2 hc hg (fun G e t vs c' h' tk' F' R' U' => hE G e t vs c' h' tk' F' (raisedS_sub R' fun p hp => ?_) U')
  · rcases List.mem_cons.mp hp with rfl | hp
    · exact hN _ (h1 _ (.head _))
    rcases List.mem_cons.mp hp with rfl | hp
    · exact hN _ m0
    rcases List.mem_cons.mp hp with rfl | hp
    · exact hN _ m1
    rcases List.mem_cons.mp hp with rfl | hp
    · exact hN _ m2
    rcases List.mem_cons.mp hp with rfl | hp
    · exact hN _ m3
    rcases List.mem_cons.mp hp with rfl | hp
    · exact hN _ m4
    exact hN _ (h1 _ (.tail _ hp))
  · rcases List.mem_cons.mp (h3 _ _ hp) with rfl | hq
    · exact .head _
    · exact .tail _ (.tail _ (.tail _ (.tail _ (.tail _ (.tail _ hq)))))
theorem places {w : World} {mean : ExcName → Option Value} {mg mb : Str → Option Value} {dp un : Nat} {gd : Option (List Code)} {cn : Str} {cs : Scope} {a : Addr} {ccd : Value} {cl : List (Str × Addr)} {outer : List Env} {A₀ : Around} {base h₀ : Heap} {L : Addr} {m : Str → Option Value} {s : Shared} {Q E : Value → Shared → Prop} {news : List (Addr × Obj)} {code : Int} {tc : Tok}
    (hB : Below A₀ base outer h₀) (hF : Fr h₀ L s.heap m) (hK : (hd.heap_39 w.params).In h₀) (hN : News h₀ L s.heap (news)) (hT : Top hd.view_39 (looseW hd.view_39 [Str.ofString "HintWork"]) mean mg mb h₀) (hk : cs.kind = .function) (hd1 : dp + 4 < recursionLimit) (hu : un + 100 < cLine)
    (hc : code = 95 ∨ code = 0)
    (hret : ∀ (t : Tok) (h' : Heap) (tk' : Nat), Fr h₀ L h' m → News h₀ L h' news → Q (.int 12 t) { s with heap := h', toks := tk' }) :
    wpAny (model PySem.Challenge.rw_xm0721_01.row.prog w) (ktrTop dp un gd cn cs L a ccd cl outer) (call (.ref 307) [.int code tc]) Q E s := by
  rcases hc with rfl | rfl
  · exact place95 hB hF hK hN hT hk hd1 hu hret
  · exact place0 hB hF hK hN hT hk hd1 hu hret
theorem dists_use {w : World} {mean : ExcName → Option Value} {mg mb : Str → Option Value} {dp un : Nat} {gd : Option (List Code)} {cn : Str} {cs : Scope} {a : Addr} {ccd : Value} {cl : List (Str × Addr)} {outer : List Env} {A₀ : Around} {base h₀ : Heap} {L : Addr} {m : Str → Option Value} {s : Shared} {Q E : Value → Shared → Prop} {news : List (Addr × Obj)} {g1 : Obj → List (Addr × Obj)} {g2 : Obj → Obj → List (Addr × Obj)} {sc dW wk dS st fr pr du ro dK sk nl : Nat} {zo cv so : Addr} {n code a0 p q x0 x1 x2 x3 x4 x5 : Int} {k0 k1 k2 k3 k4 k5 k6 k7 k8 k9 k10 k11 k12 k13 k14 k15 k16 k17 v3 v4 v5 v6 v7 v8 v9 u0 u1 u2 u3 u4 u5 w0 w1 w2 w3 w4 w5 w6 w7 b5 b6 c0 c1 c2 tp tq tn t0 tc : Tok} {c : Nat}
    (hB : Below A₀ base outer h₀) (hF : Fr h₀ L s.heap m) (hK : (hd.heap_39 w.params).In h₀) (hN : News h₀ L s.heap (news)) (hT : Top hd.view_39 (looseW hd.view_39 [Str.ofString "HintWork"]) mean mg mb h₀) (hk : cs.kind = .function) (hd1 : dp + 6 < recursionLimit) (hu : un + 150 < cLine)
    (hU1 : UpdF nl (listOf [.int a0 t0, .int n tn].toArray c) news g1) (hU2 : ∀ x, UpdF dS (dictOf [ent w "freedom" k0 (.ref fr), ent w "projection" k1 (.ref pr), ent w "dual" k2 (.ref du), ent w "rp0" k3 (.int 0 v3), ent w "rp1" k4 (.int 0 v4), ent w "rp2" k5 (.int 0 v5), ent w "zp0" k6 (.int 1 v6), ent w "zp1" k7 (.int 1 v7), ent w "zp2" k8 (.int 1 v8), ent w "loop" k9 (.int 1 v9), ent w "minimum" k10 (.int x0 u0), ent w "cut_in" k11 (.int x1 u1), ent w "single_cut_in" k12 (.int x2 u2), ent w "single_width" k13 (.int x3 u3), ent w "delta_base" k14 (.int x4 u4), ent w "delta_shift" k15 (.int x5 u5), ent w "auto_flip" k16 (.bool true), ent w "rounding" k17 (.ref ro)] 18) (g1 x) (g2 x))
    (m0 : (wk, instObj 268 dW) ∈ news) (m1 : (dW, dictOf [ent w "state" w0 (.ref st), ent w "stack" w1 (.ref sk), ent w "zones" w2 (.ref zo), ent w "cvt" w3 (.ref cv), ent w "storage" w4 (.ref so), ent w "ppem" w5 (.int 12 b5), ent w "point_size" w6 (.int 768 b6), ent w "scale" w7 (.ref sc)] 8) ∈ news) (m2 : (st, instObj 154 dS) ∈ news) (m3 : (sk, instObj 217 dK) ∈ news) (m4 : (dK, dictOf [ent w "most" c0 (.int 64 c1), ent w "numbers" c2 (.ref nl)] 2) ∈ news) (m5 : (sc, tup2 p q tp tq) ∈ news)
    (l1 : sc < dW) (l2 : dW < wk) (l3 : wk < dS) (l4 : dS < st) (l5 : st < dK) (l6 : dK < sk) (l7 : sk < nl) (hn1 : -2147483648 ≤ n) (hn2 : n ≤ 2147483647) (hg1 : 0 ≤ n) (hg2 : n ≤ 6) (hc : code = 95 ∨ code = 0)
    (hret : ∀ (tz : Tok) (c' : Nat) (h' : Heap) (tk' : Nat), Fr h₀ L h' m → News h₀ L h' (g2 (listOf [.int a0 t0].toArray c') (dictOf [ent w "freedom" k0 (.ref fr), ent w "projection" k1 (.ref pr), ent w "dual" k2 (.ref du), ent w "rp0" k3 (.int 0 v3), ent w "rp1" k4 (.int 0 v4), ent w "rp2" k5 (.int 0 v5), ent w "zp0" k6 (.int 1 v6), ent w "zp1" k7 (.int 1 v7), ent w "zp2" k8 (.int 1 v8), ent w "loop" k9 (.int 1 v9), ent w "minimum" k10 (.int x0 u0), ent w "cut_in" k11 (.int x1 u1), ent w "single_cut_in" k12 (.int x2 u2), ent w "single_width" k13 (.int x3 u3), ent w "delta_base" k14 (.int x4 u4), ent w "delta_shift" k15 (.int n tz), ent w "auto_flip" k16 (.bool true), ent w "rounding" k17 (.ref ro)] 18)) → Q .none { s with heap := h', toks := tk' }) :
    wpAny (model PySem.Challenge.rw_xm0721_01.row.prog w) (ktrTop dp un gd cn cs L a ccd cl outer) (call (.ref 74) [.ref wk, .int code tc]) Q E s := by
  rcases hc with rfl | rfl
  · exact dist95_use hB hF hK hN hT hk hd1 hu hU1 hU2 m0 m1 m2 m3 m4 m5 l1 l2 l3 l4 l5 l6 l7 hn1 hn2 hg1 hg2 hret
  · exact dist0_use hB hF hK hN hT hk hd1 hu hU1 hU2 m0 m1 m2 m3 m4 m5 l1 l2 l3 l4 l5 l6 l7 hn1 hn2 hg1 hg2 hret
theorem in7 {n : Int} (h1 : 0 ≤ n) (h2 : n ≤ 6) : ([0, 1, 2, 3, 4, 5, 6].any fun x => x == n) = true := by
  have : n = 0 ∨ n = 1 ∨ n = 2 ∨ n = 3 ∨ n = 4 ∨ n = 5 ∨ n = 6 := by omega
  rcases this with rfl | rfl | rfl | rfl | rfl | rfl | rfl <;> decide
theorem out7 {n : Int} (h : n < 0 ∨ 6 < n) : ([0, 1, 2, 3, 4, 5, 6].any fun x => x == n) = false := by
  rw [List.any_eq_false]
  intro x hx
  simp only [List.mem_cons, List.not_mem_nil, or_false] at hx
  simp only [beq_iff_eq]
  rcases hx with rfl | rfl | rfl | rfl | rfl | rfl | rfl <;> omega
local macro_rules | `(tactic| walk_at "call ref") => `(tactic| (k_here; k_dflt ((((apply row_spec <;> lcg_sub) <;> try ((with_reducible show UpdF _ _ _ _); k_updF)) <;> lcg_off)); lcg_src))
local macro_rules | `(tactic| walk_at "call ref") => `(tactic| (k_here; k_dflt ((((apply push1_use <;> lcg_sub) <;> try ((with_reducible show UpdF _ _ _ _); k_updF)) <;> lcg_off)); lcg_src))
local macro_rules | `(tactic| walk_at "call ref") => `(tactic| (k_here; k_dflt ((((apply push0_use <;> lcg_sub) <;> try ((with_reducible show UpdF _ _ _ _); k_updF)) <;> lcg_off)); lcg_src))
local macro_rules | `(tactic| walk_at "call ref") => `(tactic| (k_here; k_dflt ((((apply pop1_use <;> lcg_sub) <;> try ((with_reducible show UpdF _ _ _ _); k_updF)) <;> lcg_off)); lcg_src))
local macro_rules | `(tactic| walk_at "call ref") => `(tactic| (k_here; k_dflt ((((apply near_spec <;> lcg_sub) <;> try ((with_reducible show UpdF _ _ _ _); k_updF)) <;> lcg_off)); lcg_src))
local macro_rules | `(tactic| walk_at "call ref") => `(tactic| (k_here; k_dflt (first | (((apply place26 <;> lcg_sub) <;> try ((with_reducible show UpdF _ _ _ _); k_updF)) <;> lcg_off) | (((apply place29 <;> lcg_sub) <;> try ((with_reducible show UpdF _ _ _ _); k_updF)) <;> lcg_off) | (((apply place30 <;> lcg_sub) <;> try ((with_reducible show UpdF _ _ _ _); k_updF)) <;> lcg_off) | (((apply place31 <;> lcg_sub) <;> try ((with_reducible show UpdF _ _ _ _); k_updF)) <;> lcg_off) | (((apply place94 <;> lcg_sub) <;> try ((with_reducible show UpdF _ _ _ _); k_updF)) <;> lcg_off) | (((apply places <;> lcg_sub) <;> try ((with_reducible show UpdF _ _ _ _); k_updF)) <;> lcg_off)); lcg_src))
local macro_rules | `(tactic| walk_at "call ref") => `(tactic| (k_here; k_dflt (first | (((apply dist26_use <;> lcg_sub) <;> try ((with_reducible show UpdF _ _ _ _); k_updF)) <;> lcg_off) | (((apply dist29_use <;> lcg_sub) <;> try ((with_reducible show UpdF _ _ _ _); k_updF)) <;> lcg_off) | (((apply dist30_use <;> lcg_sub) <;> try ((with_reducible show UpdF _ _ _ _); k_updF)) <;> lcg_off) | (((apply dist31_use <;> lcg_sub) <;> try ((with_reducible show UpdF _ _ _ _); k_updF)) <;> lcg_off) | (((apply dist94_use <;> lcg_sub) <;> try ((with_reducible show UpdF _ _ _ _); k_updF)) <;> lcg_off) | (((apply dists_use <;> lcg_sub) <;> try ((with_reducible show UpdF _ _ _ _); k_updF)) <;> lcg_off)); lcg_src))
local macro_rules | `(tactic| walk_at "call ref") => `(tactic| (k_here; k_dflt ((((apply distbad_use <;> lcg_sub) <;> try ((with_reducible show UpdF _ _ _ _); k_updF)) <;> lcg_off)); lcg_src))
theorem deed26g {w : World} {mean : ExcName → Option Value} {mg mb : Str → Option Value} {dp un : Nat} {gd : Option (List Code)} {cn : Str} {cs : Scope} {a : Addr} {ccd : Value} {A₀ : Around} {base h₀ : Heap} {L : Addr} {m : Str → Option Value} {s : Shared} {Q E : Value → Shared → Prop}
    {sc dW wk dS st fr pr du dR ro dK sk nl : Nat} {zo cv so : Addr} {number p q x0 x1 x2 x3 x4 x5 : Int} {k0 k1 k2 k3 k4 k5 k6 k7 k8 k9 k10 k11 k12 k13 k14 k15 k16 k17 v3 v4 v5 v6 v7 v8 v9 u0 u1 u2 u3 u4 u5 w0 w1 w2 w3 w4 w5 w6 w7 b5 b6 c0 c1 c2 r0 r1 r2 r3 r4 r5 f0 f1 f2 f3 f4 f5 tp tq tn tc : Tok} {c : Nat} {own : List (Addr × Obj)}
    (hB : Below A₀ base [] h₀) (hF : Fr h₀ L s.heap m) (hK : (hd.heap_39 w.params).In h₀)
    (hN : News h₀ L s.heap ((nl, listOf [].toArray c) :: (dS, dictOf [ent w "freedom" k0 (.ref fr), ent w "projection" k1 (.ref pr), ent w "dual" k2 (.ref du), ent w "rp0" k3 (.int 0 v3), ent w "rp1" k4 (.int 0 v4), ent w "rp2" k5 (.int 0 v5), ent w "zp0" k6 (.int 1 v6), ent w "zp1" k7 (.int 1 v7), ent w "zp2" k8 (.int 1 v8), ent w "loop" k9 (.int 1 v9), ent w "minimum" k10 (.int x0 u0), ent w "cut_in" k11 (.int x1 u1), ent w "single_cut_in" k12 (.int x2 u2), ent w "single_width" k13 (.int x3 u3), ent w "delta_base" k14 (.int x4 u4), ent w "delta_shift" k15 (.int x5 u5), ent w "auto_flip" k16 (.bool true), ent w "rounding" k17 (.ref ro)] 18) :: (wk, instObj 268 dW) :: (dW, dictOf [ent w "state" w0 (.ref st), ent w "stack" w1 (.ref sk), ent w "zones" w2 (.ref zo), ent w "cvt" w3 (.ref cv), ent w "storage" w4 (.ref so), ent w "ppem" w5 (.int 12 b5), ent w "point_size" w6 (.int 768 b6), ent w "scale" w7 (.ref sc)] 8) :: (st, instObj 154 dS) :: (sk, instObj 217 dK) :: (dK, dictOf [ent w "most" c0 (.int 64 c1), ent w "numbers" c2 (.ref nl)] 2) :: (sc, tup2 p q tp tq) :: (ro, instObj 98 dR) :: (dR, dictOf [ent w "period" r0 (.int 64 r1), ent w "phase" r2 (.int 0 r3), ent w "threshold" r4 (.int 32 r5)] 3) :: (fr, tup2 16384 0 f0 f1) :: (pr, tup2 16384 0 f2 f3) :: (du, tup2 16384 0 f4 f5) :: own))
    (hO : OwnOff own [nl, dS]) (hT : Top hd.view_39 (looseW hd.view_39 [Str.ofString "HintWork"]) mean mg mb h₀) (hk : cs.kind = .function)
    (o0 : sc < dW) (o1 : dW < wk) (o2 : wk < dS) (o3 : dS < st) (o4 : st < fr) (o5 : fr < pr) (o6 : pr < du) (o7 : du < dR) (o8 : dR < ro) (o9 : ro < dK) (o10 : dK < sk) (o11 : sk < nl)
    (hd1 : dp + 9 < recursionLimit) (hu : un + 200 < cLine) (hn1 : -2147483648 ≤ number) (hn2 : number ≤ 2147483647)
    (hret : ∀ (tz : Tok) (c' : Nat) (h' : Heap) (tk' : Nat), Fr h₀ L h' m → News h₀ L h' ((nl, listOf [].toArray c') :: (dS, dictOf [ent w "freedom" k0 (.ref fr), ent w "projection" k1 (.ref pr), ent w "dual" k2 (.ref du), ent w "rp0" k3 (.int 0 v3), ent w "rp1" k4 (.int 0 v4), ent w "rp2" k5 (.int 0 v5), ent w "zp0" k6 (.int 1 v6), ent w "zp1" k7 (.int 1 v7), ent w "zp2" k8 (.int 1 v8), ent w "loop" k9 (.int 1 v9), ent w "minimum" k10 (.int number tz), ent w "cut_in" k11 (.int x1 u1), ent w "single_cut_in" k12 (.int x2 u2), ent w "single_width" k13 (.int x3 u3), ent w "delta_base" k14 (.int x4 u4), ent w "delta_shift" k15 (.int x5 u5), ent w "auto_flip" k16 (.bool true), ent w "rounding" k17 (.ref ro)] 18) :: (wk, instObj 268 dW) :: (dW, dictOf [ent w "state" w0 (.ref st), ent w "stack" w1 (.ref sk), ent w "zones" w2 (.ref zo), ent w "cvt" w3 (.ref cv), ent w "storage" w4 (.ref so), ent w "ppem" w5 (.int 12 b5), ent w "point_size" w6 (.int 768 b6), ent w "scale" w7 (.ref sc)] 8) :: (st, instObj 154 dS) :: (sk, instObj 217 dK) :: (dK, dictOf [ent w "most" c0 (.int 64 c1), ent w "numbers" c2 (.ref nl)] 2) :: (sc, tup2 p q tp tq) :: (ro, instObj 98 dR) :: (dR, dictOf [ent w "period" r0 (.int 64 r1), ent w "phase" r2 (.int 0 r3), ent w "threshold" r4 (.int 32 r5)] 3) :: (fr, tup2 16384 0 f0 f1) :: (pr, tup2 16384 0 f2 f3) :: (du, tup2 16384 0 f4 f5) :: own) → Q (.bool true) { s with heap := h', toks := tk' }) :
    wpAny (model PySem.Challenge.rw_xm0721_01.row.prog w) (ktrTop dp un gd cn cs L a ccd [] []) (call (.ref 314) [.ref wk, .int 26 tc, .int number tn]) Q E s := by
  dsimp only [ent] at hN
  refine wpAny_call ?_
  k_dflt ktr_enter
  k_steps
  all_goals first | exact absurd rfl (by assumption) | exact hret _ _ _ _ (by k_asm) (kst_newsOf (by assumption) (fun p hp => by repeat (first | exact hp | refine List.mem_cons_of_mem _ ?_))) | skip
theorem deed29g {w : World} {mean : ExcName → Option Value} {mg mb : Str → Option Value} {dp un : Nat} {gd : Option (List Code)} {cn : Str} {cs : Scope} {a : Addr} {ccd : Value} {A₀ : Around} {base h₀ : Heap} {L : Addr} {m : Str → Option Value} {s : Shared} {Q E : Value → Shared → Prop}
    {sc dW wk dS st fr pr du dR ro dK sk nl : Nat} {zo cv so : Addr} {number p q x0 x1 x2 x3 x4 x5 : Int} {k0 k1 k2 k3 k4 k5 k6 k7 k8 k9 k10 k11 k12 k13 k14 k15 k16 k17 v3 v4 v5 v6 v7 v8 v9 u0 u1 u2 u3 u4 u5 w0 w1 w2 w3 w4 w5 w6 w7 b5 b6 c0 c1 c2 r0 r1 r2 r3 r4 r5 f0 f1 f2 f3 f4 f5 tp tq tn tc : Tok} {c : Nat} {own : List (Addr × Obj)}
    (hB : Below A₀ base [] h₀) (hF : Fr h₀ L s.heap m) (hK : (hd.heap_39 w.params).In h₀)
    (hN : News h₀ L s.heap ((nl, listOf [].toArray c) :: (dS, dictOf [ent w "freedom" k0 (.ref fr), ent w "projection" k1 (.ref pr), ent w "dual" k2 (.ref du), ent w "rp0" k3 (.int 0 v3), ent w "rp1" k4 (.int 0 v4), ent w "rp2" k5 (.int 0 v5), ent w "zp0" k6 (.int 1 v6), ent w "zp1" k7 (.int 1 v7), ent w "zp2" k8 (.int 1 v8), ent w "loop" k9 (.int 1 v9), ent w "minimum" k10 (.int x0 u0), ent w "cut_in" k11 (.int x1 u1), ent w "single_cut_in" k12 (.int x2 u2), ent w "single_width" k13 (.int x3 u3), ent w "delta_base" k14 (.int x4 u4), ent w "delta_shift" k15 (.int x5 u5), ent w "auto_flip" k16 (.bool true), ent w "rounding" k17 (.ref ro)] 18) :: (wk, instObj 268 dW) :: (dW, dictOf [ent w "state" w0 (.ref st), ent w "stack" w1 (.ref sk), ent w "zones" w2 (.ref zo), ent w "cvt" w3 (.ref cv), ent w "storage" w4 (.ref so), ent w "ppem" w5 (.int 12 b5), ent w "point_size" w6 (.int 768 b6), ent w "scale" w7 (.ref sc)] 8) :: (st, instObj 154 dS) :: (sk, instObj 217 dK) :: (dK, dictOf [ent w "most" c0 (.int 64 c1), ent w "numbers" c2 (.ref nl)] 2) :: (sc, tup2 p q tp tq) :: (ro, instObj 98 dR) :: (dR, dictOf [ent w "period" r0 (.int 64 r1), ent w "phase" r2 (.int 0 r3), ent w "threshold" r4 (.int 32 r5)] 3) :: (fr, tup2 16384 0 f0 f1) :: (pr, tup2 16384 0 f2 f3) :: (du, tup2 16384 0 f4 f5) :: own))
    (hO : OwnOff own [nl, dS]) (hT : Top hd.view_39 (looseW hd.view_39 [Str.ofString "HintWork"]) mean mg mb h₀) (hk : cs.kind = .function)
    (o0 : sc < dW) (o1 : dW < wk) (o2 : wk < dS) (o3 : dS < st) (o4 : st < fr) (o5 : fr < pr) (o6 : pr < du) (o7 : du < dR) (o8 : dR < ro) (o9 : ro < dK) (o10 : dK < sk) (o11 : sk < nl)
    (hd1 : dp + 9 < recursionLimit) (hu : un + 200 < cLine) (hn1 : -2147483648 ≤ number) (hn2 : number ≤ 2147483647)
    (hret : ∀ (tz : Tok) (c' : Nat) (h' : Heap) (tk' : Nat), Fr h₀ L h' m → News h₀ L h' ((nl, listOf [].toArray c') :: (dS, dictOf [ent w "freedom" k0 (.ref fr), ent w "projection" k1 (.ref pr), ent w "dual" k2 (.ref du), ent w "rp0" k3 (.int 0 v3), ent w "rp1" k4 (.int 0 v4), ent w "rp2" k5 (.int 0 v5), ent w "zp0" k6 (.int 1 v6), ent w "zp1" k7 (.int 1 v7), ent w "zp2" k8 (.int 1 v8), ent w "loop" k9 (.int 1 v9), ent w "minimum" k10 (.int x0 u0), ent w "cut_in" k11 (.int number tz), ent w "single_cut_in" k12 (.int x2 u2), ent w "single_width" k13 (.int x3 u3), ent w "delta_base" k14 (.int x4 u4), ent w "delta_shift" k15 (.int x5 u5), ent w "auto_flip" k16 (.bool true), ent w "rounding" k17 (.ref ro)] 18) :: (wk, instObj 268 dW) :: (dW, dictOf [ent w "state" w0 (.ref st), ent w "stack" w1 (.ref sk), ent w "zones" w2 (.ref zo), ent w "cvt" w3 (.ref cv), ent w "storage" w4 (.ref so), ent w "ppem" w5 (.int 12 b5), ent w "point_size" w6 (.int 768 b6), ent w "scale" w7 (.ref sc)] 8) :: (st, instObj 154 dS) :: (sk, instObj 217 dK) :: (dK, dictOf [ent w "most" c0 (.int 64 c1), ent w "numbers" c2 (.ref nl)] 2) :: (sc, tup2 p q tp tq) :: (ro, instObj 98 dR) :: (dR, dictOf [ent w "period" r0 (.int 64 r1), ent w "phase" r2 (.int 0 r3), ent w "threshold" r4 (.int 32 r5)] 3) :: (fr, tup2 16384 0 f0 f1) :: (pr, tup2 16384 0 f2 f3) :: (du, tup2 16384 0 f4 f5) :: own) → Q (.bool true) { s with heap := h', toks := tk' }) :
    wpAny (model PySem.Challenge.rw_xm0721_01.row.prog w) (ktrTop dp un gd cn cs L a ccd [] []) (call (.ref 314) [.ref wk, .int 29 tc, .int number tn]) Q E s := by
  dsimp only [ent] at hN
  refine wpAny_call ?_
  k_dflt ktr_enter
  k_steps
  all_goals first | exact absurd rfl (by assumption) | exact hret _ _ _ _ (by k_asm) (kst_newsOf (by assumption) (fun p hp => by repeat (first | exact hp | refine List.mem_cons_of_mem _ ?_))) | skip
theorem deed30g {w : World} {mean : ExcName → Option Value} {mg mb : Str → Option Value} {dp un : Nat} {gd : Option (List Code)} {cn : Str} {cs : Scope} {a : Addr} {ccd : Value} {A₀ : Around} {base h₀ : Heap} {L : Addr} {m : Str → Option Value} {s : Shared} {Q E : Value → Shared → Prop}
    {sc dW wk dS st fr pr du dR ro dK sk nl : Nat} {zo cv so : Addr} {number p q x0 x1 x2 x3 x4 x5 : Int} {k0 k1 k2 k3 k4 k5 k6 k7 k8 k9 k10 k11 k12 k13 k14 k15 k16 k17 v3 v4 v5 v6 v7 v8 v9 u0 u1 u2 u3 u4 u5 w0 w1 w2 w3 w4 w5 w6 w7 b5 b6 c0 c1 c2 r0 r1 r2 r3 r4 r5 f0 f1 f2 f3 f4 f5 tp tq tn tc : Tok} {c : Nat} {own : List (Addr × Obj)}
    (hB : Below A₀ base [] h₀) (hF : Fr h₀ L s.heap m) (hK : (hd.heap_39 w.params).In h₀)
    (hN : News h₀ L s.heap ((nl, listOf [].toArray c) :: (dS, dictOf [ent w "freedom" k0 (.ref fr), ent w "projection" k1 (.ref pr), ent w "dual" k2 (.ref du), ent w "rp0" k3 (.int 0 v3), ent w "rp1" k4 (.int 0 v4), ent w "rp2" k5 (.int 0 v5), ent w "zp0" k6 (.int 1 v6), ent w "zp1" k7 (.int 1 v7), ent w "zp2" k8 (.int 1 v8), ent w "loop" k9 (.int 1 v9), ent w "minimum" k10 (.int x0 u0), ent w "cut_in" k11 (.int x1 u1), ent w "single_cut_in" k12 (.int x2 u2), ent w "single_width" k13 (.int x3 u3), ent w "delta_base" k14 (.int x4 u4), ent w "delta_shift" k15 (.int x5 u5), ent w "auto_flip" k16 (.bool true), ent w "rounding" k17 (.ref ro)] 18) :: (wk, instObj 268 dW) :: (dW, dictOf [ent w "state" w0 (.ref st), ent w "stack" w1 (.ref sk), ent w "zones" w2 (.ref zo), ent w "cvt" w3 (.ref cv), ent w "storage" w4 (.ref so), ent w "ppem" w5 (.int 12 b5), ent w "point_size" w6 (.int 768 b6), ent w "scale" w7 (.ref sc)] 8) :: (st, instObj 154 dS) :: (sk, instObj 217 dK) :: (dK, dictOf [ent w "most" c0 (.int 64 c1), ent w "numbers" c2 (.ref nl)] 2) :: (sc, tup2 p q tp tq) :: (ro, instObj 98 dR) :: (dR, dictOf [ent w "period" r0 (.int 64 r1), ent w "phase" r2 (.int 0 r3), ent w "threshold" r4 (.int 32 r5)] 3) :: (fr, tup2 16384 0 f0 f1) :: (pr, tup2 16384 0 f2 f3) :: (du, tup2 16384 0 f4 f5) :: own))
    (hO : OwnOff own [nl, dS]) (hT : Top hd.view_39 (looseW hd.view_39 [Str.ofString "HintWork"]) mean mg mb h₀) (hk : cs.kind = .function)
    (o0 : sc < dW) (o1 : dW < wk) (o2 : wk < dS) (o3 : dS < st) (o4 : st < fr) (o5 : fr < pr) (o6 : pr < du) (o7 : du < dR) (o8 : dR < ro) (o9 : ro < dK) (o10 : dK < sk) (o11 : sk < nl)
    (hd1 : dp + 9 < recursionLimit) (hu : un + 200 < cLine) (hn1 : -2147483648 ≤ number) (hn2 : number ≤ 2147483647)
    (hret : ∀ (tz : Tok) (c' : Nat) (h' : Heap) (tk' : Nat), Fr h₀ L h' m → News h₀ L h' ((nl, listOf [].toArray c') :: (dS, dictOf [ent w "freedom" k0 (.ref fr), ent w "projection" k1 (.ref pr), ent w "dual" k2 (.ref du), ent w "rp0" k3 (.int 0 v3), ent w "rp1" k4 (.int 0 v4), ent w "rp2" k5 (.int 0 v5), ent w "zp0" k6 (.int 1 v6), ent w "zp1" k7 (.int 1 v7), ent w "zp2" k8 (.int 1 v8), ent w "loop" k9 (.int 1 v9), ent w "minimum" k10 (.int x0 u0), ent w "cut_in" k11 (.int x1 u1), ent w "single_cut_in" k12 (.int number tz), ent w "single_width" k13 (.int x3 u3), ent w "delta_base" k14 (.int x4 u4), ent w "delta_shift" k15 (.int x5 u5), ent w "auto_flip" k16 (.bool true), ent w "rounding" k17 (.ref ro)] 18) :: (wk, instObj 268 dW) :: (dW, dictOf [ent w "state" w0 (.ref st), ent w "stack" w1 (.ref sk), ent w "zones" w2 (.ref zo), ent w "cvt" w3 (.ref cv), ent w "storage" w4 (.ref so), ent w "ppem" w5 (.int 12 b5), ent w "point_size" w6 (.int 768 b6), ent w "scale" w7 (.ref sc)] 8) :: (st, instObj 154 dS) :: (sk, instObj 217 dK) :: (dK, dictOf [ent w "most" c0 (.int 64 c1), ent w "numbers" c2 (.ref nl)] 2) :: (sc, tup2 p q tp tq) :: (ro, instObj 98 dR) :: (dR, dictOf [ent w "period" r0 (.int 64 r1), ent w "phase" r2 (.int 0 r3), ent w "threshold" r4 (.int 32 r5)] 3) :: (fr, tup2 16384 0 f0 f1) :: (pr, tup2 16384 0 f2 f3) :: (du, tup2 16384 0 f4 f5) :: own) → Q (.bool true) { s with heap := h', toks := tk' }) :
    wpAny (model PySem.Challenge.rw_xm0721_01.row.prog w) (ktrTop dp un gd cn cs L a ccd [] []) (call (.ref 314) [.ref wk, .int 30 tc, .int number tn]) Q E s := by
  dsimp only [ent] at hN
  refine wpAny_call ?_
  k_dflt ktr_enter
  k_steps
  all_goals first | exact absurd rfl (by assumption) | exact hret _ _ _ _ (by k_asm) (kst_newsOf (by assumption) (fun p hp => by repeat (first | exact hp | refine List.mem_cons_of_mem _ ?_))) | skip
theorem deed31g {w : World} {mean : ExcName → Option Value} {mg mb : Str → Option Value} {dp un : Nat} {gd : Option (List Code)} {cn : Str} {cs : Scope} {a : Addr} {ccd : Value} {A₀ : Around} {base h₀ : Heap} {L : Addr} {m : Str → Option Value} {s : Shared} {Q E : Value → Shared → Prop}
    {sc dW wk dS st fr pr du dR ro dK sk nl : Nat} {zo cv so : Addr} {number p q x0 x1 x2 x3 x4 x5 : Int} {k0 k1 k2 k3 k4 k5 k6 k7 k8 k9 k10 k11 k12 k13 k14 k15 k16 k17 v3 v4 v5 v6 v7 v8 v9 u0 u1 u2 u3 u4 u5 w0 w1 w2 w3 w4 w5 w6 w7 b5 b6 c0 c1 c2 r0 r1 r2 r3 r4 r5 f0 f1 f2 f3 f4 f5 tp tq tn tc : Tok} {c : Nat} {own : List (Addr × Obj)}
    (hB : Below A₀ base [] h₀) (hF : Fr h₀ L s.heap m) (hK : (hd.heap_39 w.params).In h₀)
    (hN : News h₀ L s.heap ((nl, listOf [].toArray c) :: (dS, dictOf [ent w "freedom" k0 (.ref fr), ent w "projection" k1 (.ref pr), ent w "dual" k2 (.ref du), ent w "rp0" k3 (.int 0 v3), ent w "rp1" k4 (.int 0 v4), ent w "rp2" k5 (.int 0 v5), ent w "zp0" k6 (.int 1 v6), ent w "zp1" k7 (.int 1 v7), ent w "zp2" k8 (.int 1 v8), ent w "loop" k9 (.int 1 v9), ent w "minimum" k10 (.int x0 u0), ent w "cut_in" k11 (.int x1 u1), ent w "single_cut_in" k12 (.int x2 u2), ent w "single_width" k13 (.int x3 u3), ent w "delta_base" k14 (.int x4 u4), ent w "delta_shift" k15 (.int x5 u5), ent w "auto_flip" k16 (.bool true), ent w "rounding" k17 (.ref ro)] 18) :: (wk, instObj 268 dW) :: (dW, dictOf [ent w "state" w0 (.ref st), ent w "stack" w1 (.ref sk), ent w "zones" w2 (.ref zo), ent w "cvt" w3 (.ref cv), ent w "storage" w4 (.ref so), ent w "ppem" w5 (.int 12 b5), ent w "point_size" w6 (.int 768 b6), ent w "scale" w7 (.ref sc)] 8) :: (st, instObj 154 dS) :: (sk, instObj 217 dK) :: (dK, dictOf [ent w "most" c0 (.int 64 c1), ent w "numbers" c2 (.ref nl)] 2) :: (sc, tup2 p q tp tq) :: (ro, instObj 98 dR) :: (dR, dictOf [ent w "period" r0 (.int 64 r1), ent w "phase" r2 (.int 0 r3), ent w "threshold" r4 (.int 32 r5)] 3) :: (fr, tup2 16384 0 f0 f1) :: (pr, tup2 16384 0 f2 f3) :: (du, tup2 16384 0 f4 f5) :: own))
    (hO : OwnOff own [nl, dS]) (hT : Top hd.view_39 (looseW hd.view_39 [Str.ofString "HintWork"]) mean mg mb h₀) (hk : cs.kind = .function)
    (o0 : sc < dW) (o1 : dW < wk) (o2 : wk < dS) (o3 : dS < st) (o4 : st < fr) (o5 : fr < pr) (o6 : pr < du) (o7 : du < dR) (o8 : dR < ro) (o9 : ro < dK) (o10 : dK < sk) (o11 : sk < nl)
    (hd1 : dp + 9 < recursionLimit) (hu : un + 200 < cLine) (hn1 : -2147483648 ≤ number) (hn2 : number ≤ 2147483647) (hq : 0 < q) (hq2 : q ≤ 2048) (hp : 0 < p) (hp2 : p ≤ 64)
    (hret : ∀ (tz : Tok) (c' : Nat) (h' : Heap) (tk' : Nat), Fr h₀ L h' m → News h₀ L h' ((nl, listOf [].toArray c') :: (dS, dictOf [ent w "freedom" k0 (.ref fr), ent w "projection" k1 (.ref pr), ent w "dual" k2 (.ref du), ent w "rp0" k3 (.int 0 v3), ent w "rp1" k4 (.int 0 v4), ent w "rp2" k5 (.int 0 v5), ent w "zp0" k6 (.int 1 v6), ent w "zp1" k7 (.int 1 v7), ent w "zp2" k8 (.int 1 v8), ent w "loop" k9 (.int 1 v9), ent w "minimum" k10 (.int x0 u0), ent w "cut_in" k11 (.int x1 u1), ent w "single_cut_in" k12 (.int x2 u2), ent w "single_width" k13 (.int (mdv number p q) tz), ent w "delta_base" k14 (.int x4 u4), ent w "delta_shift" k15 (.int x5 u5), ent w "auto_flip" k16 (.bool true), ent w "rounding" k17 (.ref ro)] 18) :: (wk, instObj 268 dW) :: (dW, dictOf [ent w "state" w0 (.ref st), ent w "stack" w1 (.ref sk), ent w "zones" w2 (.ref zo), ent w "cvt" w3 (.ref cv), ent w "storage" w4 (.ref so), ent w "ppem" w5 (.int 12 b5), ent w "point_size" w6 (.int 768 b6), ent w "scale" w7 (.ref sc)] 8) :: (st, instObj 154 dS) :: (sk, instObj 217 dK) :: (dK, dictOf [ent w "most" c0 (.int 64 c1), ent w "numbers" c2 (.ref nl)] 2) :: (sc, tup2 p q tp tq) :: (ro, instObj 98 dR) :: (dR, dictOf [ent w "period" r0 (.int 64 r1), ent w "phase" r2 (.int 0 r3), ent w "threshold" r4 (.int 32 r5)] 3) :: (fr, tup2 16384 0 f0 f1) :: (pr, tup2 16384 0 f2 f3) :: (du, tup2 16384 0 f4 f5) :: own) → Q (.bool true) { s with heap := h', toks := tk' }) :
    wpAny (model PySem.Challenge.rw_xm0721_01.row.prog w) (ktrTop dp un gd cn cs L a ccd [] []) (call (.ref 314) [.ref wk, .int 31 tc, .int number tn]) Q E s := by
  dsimp only [ent] at hN
  have hNear := near_mdv (a := number) (b := p) (c := q) hq
  refine wpAny_call ?_
  k_dflt ktr_enter
  k_steps
  all_goals first | exact absurd rfl (by assumption) | exact hret _ _ _ _ (by k_asm) (kst_newsOf (by assumption) (fun p hp => by repeat (first | exact hp | refine List.mem_cons_of_mem _ ?_))) | skip
theorem deed94g {w : World} {mean : ExcName → Option Value} {mg mb : Str → Option Value} {dp un : Nat} {gd : Option (List Code)} {cn : Str} {cs : Scope} {a : Addr} {ccd : Value} {A₀ : Around} {base h₀ : Heap} {L : Addr} {m : Str → Option Value} {s : Shared} {Q E : Value → Shared → Prop}
    {sc dW wk dS st fr pr du dR ro dK sk nl : Nat} {zo cv so : Addr} {number p q x0 x1 x2 x3 x4 x5 : Int} {k0 k1 k2 k3 k4 k5 k6 k7 k8 k9 k10 k11 k12 k13 k14 k15 k16 k17 v3 v4 v5 v6 v7 v8 v9 u0 u1 u2 u3 u4 u5 w0 w1 w2 w3 w4 w5 w6 w7 b5 b6 c0 c1 c2 r0 r1 r2 r3 r4 r5 f0 f1 f2 f3 f4 f5 tp tq tn tc : Tok} {c : Nat} {own : List (Addr × Obj)}
    (hB : Below A₀ base [] h₀) (hF : Fr h₀ L s.heap m) (hK : (hd.heap_39 w.params).In h₀)
    (hN : News h₀ L s.heap ((nl, listOf [].toArray c) :: (dS, dictOf [ent w "freedom" k0 (.ref fr), ent w "projection" k1 (.ref pr), ent w "dual" k2 (.ref du), ent w "rp0" k3 (.int 0 v3), ent w "rp1" k4 (.int 0 v4), ent w "rp2" k5 (.int 0 v5), ent w "zp0" k6 (.int 1 v6), ent w "zp1" k7 (.int 1 v7), ent w "zp2" k8 (.int 1 v8), ent w "loop" k9 (.int 1 v9), ent w "minimum" k10 (.int x0 u0), ent w "cut_in" k11 (.int x1 u1), ent w "single_cut_in" k12 (.int x2 u2), ent w "single_width" k13 (.int x3 u3), ent w "delta_base" k14 (.int x4 u4), ent w "delta_shift" k15 (.int x5 u5), ent w "auto_flip" k16 (.bool true), ent w "rounding" k17 (.ref ro)] 18) :: (wk, instObj 268 dW) :: (dW, dictOf [ent w "state" w0 (.ref st), ent w "stack" w1 (.ref sk), ent w "zones" w2 (.ref zo), ent w "cvt" w3 (.ref cv), ent w "storage" w4 (.ref so), ent w "ppem" w5 (.int 12 b5), ent w "point_size" w6 (.int 768 b6), ent w "scale" w7 (.ref sc)] 8) :: (st, instObj 154 dS) :: (sk, instObj 217 dK) :: (dK, dictOf [ent w "most" c0 (.int 64 c1), ent w "numbers" c2 (.ref nl)] 2) :: (sc, tup2 p q tp tq) :: (ro, instObj 98 dR) :: (dR, dictOf [ent w "period" r0 (.int 64 r1), ent w "phase" r2 (.int 0 r3), ent w "threshold" r4 (.int 32 r5)] 3) :: (fr, tup2 16384 0 f0 f1) :: (pr, tup2 16384 0 f2 f3) :: (du, tup2 16384 0 f4 f5) :: own))
    (hO : OwnOff own [nl, dS]) (hT : Top hd.view_39 (looseW hd.view_39 [Str.ofString "HintWork"]) mean mg mb h₀) (hk : cs.kind = .function)
    (o0 : sc < dW) (o1 : dW < wk) (o2 : wk < dS) (o3 : dS < st) (o4 : st < fr) (o5 : fr < pr) (o6 : pr < du) (o7 : du < dR) (o8 : dR < ro) (o9 : ro < dK) (o10 : dK < sk) (o11 : sk < nl)
    (hd1 : dp + 9 < recursionLimit) (hu : un + 200 < cLine) (hn1 : -2147483648 ≤ number) (hn2 : number ≤ 2147483647)
    (hret : ∀ (tz : Tok) (c' : Nat) (h' : Heap) (tk' : Nat), Fr h₀ L h' m → News h₀ L h' ((nl, listOf [].toArray c') :: (dS, dictOf [ent w "freedom" k0 (.ref fr), ent w "projection" k1 (.ref pr), ent w "dual" k2 (.ref du), ent w "rp0" k3 (.int 0 v3), ent w "rp1" k4 (.int 0 v4), ent w "rp2" k5 (.int 0 v5), ent w "zp0" k6 (.int 1 v6), ent w "zp1" k7 (.int 1 v7), ent w "zp2" k8 (.int 1 v8), ent w "loop" k9 (.int 1 v9), ent w "minimum" k10 (.int x0 u0), ent w "cut_in" k11 (.int x1 u1), ent w "single_cut_in" k12 (.int x2 u2), ent w "single_width" k13 (.int x3 u3), ent w "delta_base" k14 (.int number tz), ent w "delta_shift" k15 (.int x5 u5), ent w "auto_flip" k16 (.bool true), ent w "rounding" k17 (.ref ro)] 18) :: (wk, instObj 268 dW) :: (dW, dictOf [ent w "state" w0 (.ref st), ent w "stack" w1 (.ref sk), ent w "zones" w2 (.ref zo), ent w "cvt" w3 (.ref cv), ent w "storage" w4 (.ref so), ent w "ppem" w5 (.int 12 b5), ent w "point_size" w6 (.int 768 b6), ent w "scale" w7 (.ref sc)] 8) :: (st, instObj 154 dS) :: (sk, instObj 217 dK) :: (dK, dictOf [ent w "most" c0 (.int 64 c1), ent w "numbers" c2 (.ref nl)] 2) :: (sc, tup2 p q tp tq) :: (ro, instObj 98 dR) :: (dR, dictOf [ent w "period" r0 (.int 64 r1), ent w "phase" r2 (.int 0 r3), ent w "threshold" r4 (.int 32 r5)] 3) :: (fr, tup2 16384 0 f0 f1) :: (pr, tup2 16384 0 f2 f3) :: (du, tup2 16384 0 f4 f5) :: own) → Q (.bool true) { s with heap := h', toks := tk' }) :
    wpAny (model PySem.Challenge.rw_xm0721_01.row.prog w) (ktrTop dp un gd cn cs L a ccd [] []) (call (.ref 314) [.ref wk, .int 94 tc, .int number tn]) Q E s := by
  dsimp only [ent] at hN
  refine wpAny_call ?_
  k_dflt ktr_enter
  k_steps
  all_goals first | exact absurd rfl (by assumption) | exact hret _ _ _ _ (by k_asm) (kst_newsOf (by assumption) (fun p hp => by repeat (first | exact hp | refine List.mem_cons_of_mem _ ?_))) | skip
theorem deedsg {w : World} {mean : ExcName → Option Value} {mg mb : Str → Option Value} {dp un : Nat} {gd : Option (List Code)} {cn : Str} {cs : Scope} {a : Addr} {ccd : Value} {A₀ : Around} {base h₀ : Heap} {L : Addr} {m : Str → Option Value} {s : Shared} {Q E : Value → Shared → Prop}
    {sc dW wk dS st fr pr du dR ro dK sk nl : Nat} {zo cv so : Addr} {number code p q x0 x1 x2 x3 x4 x5 : Int} {k0 k1 k2 k3 k4 k5 k6 k7 k8 k9 k10 k11 k12 k13 k14 k15 k16 k17 v3 v4 v5 v6 v7 v8 v9 u0 u1 u2 u3 u4 u5 w0 w1 w2 w3 w4 w5 w6 w7 b5 b6 c0 c1 c2 r0 r1 r2 r3 r4 r5 f0 f1 f2 f3 f4 f5 tp tq tn tc : Tok} {c : Nat} {own : List (Addr × Obj)}
    (hB : Below A₀ base [] h₀) (hF : Fr h₀ L s.heap m) (hK : (hd.heap_39 w.params).In h₀)
    (hN : News h₀ L s.heap ((nl, listOf [].toArray c) :: (dS, dictOf [ent w "freedom" k0 (.ref fr), ent w "projection" k1 (.ref pr), ent w "dual" k2 (.ref du), ent w "rp0" k3 (.int 0 v3), ent w "rp1" k4 (.int 0 v4), ent w "rp2" k5 (.int 0 v5), ent w "zp0" k6 (.int 1 v6), ent w "zp1" k7 (.int 1 v7), ent w "zp2" k8 (.int 1 v8), ent w "loop" k9 (.int 1 v9), ent w "minimum" k10 (.int x0 u0), ent w "cut_in" k11 (.int x1 u1), ent w "single_cut_in" k12 (.int x2 u2), ent w "single_width" k13 (.int x3 u3), ent w "delta_base" k14 (.int x4 u4), ent w "delta_shift" k15 (.int x5 u5), ent w "auto_flip" k16 (.bool true), ent w "rounding" k17 (.ref ro)] 18) :: (wk, instObj 268 dW) :: (dW, dictOf [ent w "state" w0 (.ref st), ent w "stack" w1 (.ref sk), ent w "zones" w2 (.ref zo), ent w "cvt" w3 (.ref cv), ent w "storage" w4 (.ref so), ent w "ppem" w5 (.int 12 b5), ent w "point_size" w6 (.int 768 b6), ent w "scale" w7 (.ref sc)] 8) :: (st, instObj 154 dS) :: (sk, instObj 217 dK) :: (dK, dictOf [ent w "most" c0 (.int 64 c1), ent w "numbers" c2 (.ref nl)] 2) :: (sc, tup2 p q tp tq) :: (ro, instObj 98 dR) :: (dR, dictOf [ent w "period" r0 (.int 64 r1), ent w "phase" r2 (.int 0 r3), ent w "threshold" r4 (.int 32 r5)] 3) :: (fr, tup2 16384 0 f0 f1) :: (pr, tup2 16384 0 f2 f3) :: (du, tup2 16384 0 f4 f5) :: own))
    (hO : OwnOff own [nl, dS]) (hT : Top hd.view_39 (looseW hd.view_39 [Str.ofString "HintWork"]) mean mg mb h₀) (hk : cs.kind = .function)
    (o0 : sc < dW) (o1 : dW < wk) (o2 : wk < dS) (o3 : dS < st) (o4 : st < fr) (o5 : fr < pr) (o6 : pr < du) (o7 : du < dR) (o8 : dR < ro) (o9 : ro < dK) (o10 : dK < sk) (o11 : sk < nl)
    (hd1 : dp + 9 < recursionLimit) (hu : un + 200 < cLine) (hn1 : -2147483648 ≤ number) (hn2 : number ≤ 2147483647) (hg1 : 0 ≤ number) (hg2 : number ≤ 6) (hc : code = 95 ∨ code = 0)
    (hret : ∀ (tz : Tok) (c' : Nat) (h' : Heap) (tk' : Nat), Fr h₀ L h' m → News h₀ L h' ((nl, listOf [].toArray c') :: (dS, dictOf [ent w "freedom" k0 (.ref fr), ent w "projection" k1 (.ref pr), ent w "dual" k2 (.ref du), ent w "rp0" k3 (.int 0 v3), ent w "rp1" k4 (.int 0 v4), ent w "rp2" k5 (.int 0 v5), ent w "zp0" k6 (.int 1 v6), ent w "zp1" k7 (.int 1 v7), ent w "zp2" k8 (.int 1 v8), ent w "loop" k9 (.int 1 v9), ent w "minimum" k10 (.int x0 u0), ent w "cut_in" k11 (.int x1 u1), ent w "single_cut_in" k12 (.int x2 u2), ent w "single_width" k13 (.int x3 u3), ent w "delta_base" k14 (.int x4 u4), ent w "delta_shift" k15 (.int number tz), ent w "auto_flip" k16 (.bool true), ent w "rounding" k17 (.ref ro)] 18) :: (wk, instObj 268 dW) :: (dW, dictOf [ent w "state" w0 (.ref st), ent w "stack" w1 (.ref sk), ent w "zones" w2 (.ref zo), ent w "cvt" w3 (.ref cv), ent w "storage" w4 (.ref so), ent w "ppem" w5 (.int 12 b5), ent w "point_size" w6 (.int 768 b6), ent w "scale" w7 (.ref sc)] 8) :: (st, instObj 154 dS) :: (sk, instObj 217 dK) :: (dK, dictOf [ent w "most" c0 (.int 64 c1), ent w "numbers" c2 (.ref nl)] 2) :: (sc, tup2 p q tp tq) :: (ro, instObj 98 dR) :: (dR, dictOf [ent w "period" r0 (.int 64 r1), ent w "phase" r2 (.int 0 r3), ent w "threshold" r4 (.int 32 r5)] 3) :: (fr, tup2 16384 0 f0 f1) :: (pr, tup2 16384 0 f2 f3) :: (du, tup2 16384 0 f4 f5) :: own) → Q (.bool true) { s with heap := h', toks := tk' }) :
    wpAny (model PySem.Challenge.rw_xm0721_01.row.prog w) (ktrTop dp un gd cn cs L a ccd [] []) (call (.ref 314) [.ref wk, .int code tc, .int number tn]) Q E s := by
  dsimp only [ent] at hN
  have hany := in7 hg1 hg2
  refine wpAny_call ?_
  k_dflt ktr_enter
  k_steps
  all_goals try (exfalso; omega)
  all_goals try exact absurd (hany.symm.trans (by assumption)) (by decide)
  all_goals first | exact absurd rfl (by assumption) | exact hret _ _ _ _ (by k_asm) (kst_newsOf (by assumption) (fun p hp => by repeat (first | exact hp | refine List.mem_cons_of_mem _ ?_))) | skip
theorem deedsb {w : World} {mean : ExcName → Option Value} {mg mb : Str → Option Value} {dp un : Nat} {gd : Option (List Code)} {cn : Str} {cs : Scope} {a : Addr} {ccd : Value} {A₀ : Around} {base h₀ : Heap} {L : Addr} {m : Str → Option Value} {s : Shared} {Q E : Value → Shared → Prop}
    {sc dW wk dS st fr pr du dR ro dK sk nl : Nat} {zo cv so : Addr} {number code p q x0 x1 x2 x3 x4 x5 : Int} {k0 k1 k2 k3 k4 k5 k6 k7 k8 k9 k10 k11 k12 k13 k14 k15 k16 k17 v3 v4 v5 v6 v7 v8 v9 u0 u1 u2 u3 u4 u5 w0 w1 w2 w3 w4 w5 w6 w7 b5 b6 c0 c1 c2 r0 r1 r2 r3 r4 r5 f0 f1 f2 f3 f4 f5 tp tq tn tc : Tok} {c : Nat} {own : List (Addr × Obj)}
    (hB : Below A₀ base [] h₀) (hF : Fr h₀ L s.heap m) (hK : (hd.heap_39 w.params).In h₀)
    (hN : News h₀ L s.heap ((nl, listOf [].toArray c) :: (dS, dictOf [ent w "freedom" k0 (.ref fr), ent w "projection" k1 (.ref pr), ent w "dual" k2 (.ref du), ent w "rp0" k3 (.int 0 v3), ent w "rp1" k4 (.int 0 v4), ent w "rp2" k5 (.int 0 v5), ent w "zp0" k6 (.int 1 v6), ent w "zp1" k7 (.int 1 v7), ent w "zp2" k8 (.int 1 v8), ent w "loop" k9 (.int 1 v9), ent w "minimum" k10 (.int x0 u0), ent w "cut_in" k11 (.int x1 u1), ent w "single_cut_in" k12 (.int x2 u2), ent w "single_width" k13 (.int x3 u3), ent w "delta_base" k14 (.int x4 u4), ent w "delta_shift" k15 (.int x5 u5), ent w "auto_flip" k16 (.bool true), ent w "rounding" k17 (.ref ro)] 18) :: (wk, instObj 268 dW) :: (dW, dictOf [ent w "state" w0 (.ref st), ent w "stack" w1 (.ref sk), ent w "zones" w2 (.ref zo), ent w "cvt" w3 (.ref cv), ent w "storage" w4 (.ref so), ent w "ppem" w5 (.int 12 b5), ent w "point_size" w6 (.int 768 b6), ent w "scale" w7 (.ref sc)] 8) :: (st, instObj 154 dS) :: (sk, instObj 217 dK) :: (dK, dictOf [ent w "most" c0 (.int 64 c1), ent w "numbers" c2 (.ref nl)] 2) :: (sc, tup2 p q tp tq) :: (ro, instObj 98 dR) :: (dR, dictOf [ent w "period" r0 (.int 64 r1), ent w "phase" r2 (.int 0 r3), ent w "threshold" r4 (.int 32 r5)] 3) :: (fr, tup2 16384 0 f0 f1) :: (pr, tup2 16384 0 f2 f3) :: (du, tup2 16384 0 f4 f5) :: own))
    (hO : OwnOff own [nl, dS]) (hT : Top hd.view_39 (looseW hd.view_39 [Str.ofString "HintWork"]) mean mg mb h₀) (hk : cs.kind = .function)
    (o0 : sc < dW) (o1 : dW < wk) (o2 : wk < dS) (o3 : dS < st) (o4 : st < fr) (o5 : fr < pr) (o6 : pr < du) (o7 : du < dR) (o8 : dR < ro) (o9 : ro < dK) (o10 : dK < sk) (o11 : sk < nl)
    (hd1 : dp + 9 < recursionLimit) (hu : un + 200 < cLine) (hn1 : -2147483648 ≤ number) (hn2 : number ≤ 2147483647) (hg : number < 0 ∨ 6 < number) (hXB : (hd.heap_39 w.params).In base) (hTB : Top hd.view_39 (looseW hd.view_39 [Str.ofString "HintWork"]) mean mg mb base) (hc : code = 95 ∨ code = 0)
    (hret : ∀ (c' : Nat) (h' : Heap) (tk' : Nat), Fr h₀ L h' m → News h₀ L h' ((nl, listOf [].toArray c') :: (dS, dictOf [ent w "freedom" k0 (.ref fr), ent w "projection" k1 (.ref pr), ent w "dual" k2 (.ref du), ent w "rp0" k3 (.int 0 v3), ent w "rp1" k4 (.int 0 v4), ent w "rp2" k5 (.int 0 v5), ent w "zp0" k6 (.int 1 v6), ent w "zp1" k7 (.int 1 v7), ent w "zp2" k8 (.int 1 v8), ent w "loop" k9 (.int 1 v9), ent w "minimum" k10 (.int x0 u0), ent w "cut_in" k11 (.int x1 u1), ent w "single_cut_in" k12 (.int x2 u2), ent w "single_width" k13 (.int x3 u3), ent w "delta_base" k14 (.int x4 u4), ent w "delta_shift" k15 (.int x5 u5), ent w "auto_flip" k16 (.bool true), ent w "rounding" k17 (.ref ro)] 18) :: (wk, instObj 268 dW) :: (dW, dictOf [ent w "state" w0 (.ref st), ent w "stack" w1 (.ref sk), ent w "zones" w2 (.ref zo), ent w "cvt" w3 (.ref cv), ent w "storage" w4 (.ref so), ent w "ppem" w5 (.int 12 b5), ent w "point_size" w6 (.int 768 b6), ent w "scale" w7 (.ref sc)] 8) :: (st, instObj 154 dS) :: (sk, instObj 217 dK) :: (dK, dictOf [ent w "most" c0 (.int 64 c1), ent w "numbers" c2 (.ref nl)] 2) :: (sc, tup2 p q tp tq) :: (ro, instObj 98 dR) :: (dR, dictOf [ent w "period" r0 (.int 64 r1), ent w "phase" r2 (.int 0 r3), ent w "threshold" r4 (.int 32 r5)] 3) :: (fr, tup2 16384 0 f0 f1) :: (pr, tup2 16384 0 f2 f3) :: (du, tup2 16384 0 f4 f5) :: own) → Q (.bool true) { s with heap := h', toks := tk' }) :
    wpAny (model PySem.Challenge.rw_xm0721_01.row.prog w) (ktrTop dp un gd cn cs L a ccd [] []) (call (.ref 314) [.ref wk, .int code tc, .int number tn]) Q E s := by
  dsimp only [ent] at hN
  have hc1 : code ≠ 26 := by omega
  have hc2 : code ≠ 29 := by omega
  have hc3 : code ≠ 30 := by omega
  have hc4 : code ≠ 31 := by omega
  have hc5 : code ≠ 94 := by omega
  have hany := out7 hg
  refine wpAny_call ?_
  k_dflt ktr_enter
  k_steps
  all_goals try (exfalso; omega)
  all_goals try exact absurd (hany.symm.trans (by assumption)) (by decide)
  all_goals first | exact absurd rfl (by assumption) | exact hret _ _ _ (by k_asm) (kst_newsOf (by assumption) (fun p hp => by repeat (first | exact hp | refine List.mem_cons_of_mem _ ?_))) | skip
theorem refused_core {w : World} {mean : ExcName → Option Value} {mg mb : Str → Option Value} {dp un : Nat} {gd : Option (List Code)} {cn : Str} {cs : Scope} {a : Addr} {ccd : Value} {A₀ : Around} {base h₀ : Heap} {L : Addr} {m : Str → Option Value} {s : Shared} {Q E : Value → Shared → Prop} {news : List (Addr × Obj)} {nl wk dW sk dK st sc : Nat} {zo cv so : Addr} {w0 w1 w2 w3 w4 w5 w6 w7 b5 b6 c0 c1 c2 tc : Tok} {c : Nat}
    (hB : Below A₀ base [] h₀) (hF : Fr h₀ L s.heap m) (hK : (hd.heap_39 w.params).In h₀) (hN : News h₀ L s.heap ((nl, listOf [].toArray c) :: (wk, instObj 268 dW) :: (dW, dictOf [ent w "state" w0 (.ref st), ent w "stack" w1 (.ref sk), ent w "zones" w2 (.ref zo), ent w "cvt" w3 (.ref cv), ent w "storage" w4 (.ref so), ent w "ppem" w5 (.int 12 b5), ent w "point_size" w6 (.int 768 b6), ent w "scale" w7 (.ref sc)] 8) :: (sk, instObj 217 dK) :: (dK, dictOf [ent w "most" c0 (.int 64 c1), ent w "numbers" c2 (.ref nl)] 2) :: news)) (hT : Top hd.view_39 (looseW hd.view_39 [Str.ofString "HintWork"]) mean mg mb h₀) (hk : cs.kind = .function) (hd1 : dp + 9 < recursionLimit) (hu : un + 200 < cLine) (hXB : (hd.heap_39 w.params).In base) (hTB : Top hd.view_39 (looseW hd.view_39 [Str.ofString "HintWork"]) mean mg mb base)
    (hret : ∀ (h' : Heap) (tk' : Nat), Fr h₀ L h' m → News h₀ L h' news → Q (.bool true) { s with heap := h', toks := tk' }) :
    wpAny (model PySem.Challenge.rw_xm0721_01.row.prog w) (ktrTop dp un gd cn cs L a ccd [] []) (call (.ref 321) [.ref wk, .int 26 tc]) Q E s := by
  dsimp only [ent] at hN
  refine wpAny_call ?_
  k_dflt ktr_enter
  k_steps
  all_goals first | exact hret _ _ (by k_asm) (kst_newsOf (by assumption) (fun p hp => by repeat (first | exact hp | refine List.mem_cons_of_mem _ ?_))) | skip
theorem refused_use {w : World} {mean : ExcName → Option Value} {mg mb : Str → Option Value} {dp un : Nat} {gd : Option (List Code)} {cn : Str} {cs : Scope} {a : Addr} {ccd : Value} {A₀ : Around} {base h₀ : Heap} {L : Addr} {m : Str → Option Value} {s : Shared} {Q E : Value → Shared → Prop} {news : List (Addr × Obj)} {nl wk dW sk dK st sc : Nat} {zo cv so : Addr} {w0 w1 w2 w3 w4 w5 w6 w7 b5 b6 c0 c1 c2 tc : Tok} {c : Nat}
    (hB : Below A₀ base [] h₀) (hF : Fr h₀ L s.heap m) (hK : (hd.heap_39 w.params).In h₀) (hN : News h₀ L s.heap (news)) (hT : Top hd.view_39 (looseW hd.view_39 [Str.ofString "HintWork"]) mean mg mb h₀) (hk : cs.kind = .function) (hd1 : dp + 9 < recursionLimit) (hu : un + 200 < cLine) (hXB : (hd.heap_39 w.params).In base) (hTB : Top hd.view_39 (looseW hd.view_39 [Str.ofString "HintWork"]) mean mg mb base)
    (m0 : (nl, listOf [].toArray c) ∈ news) (m1 : (wk, instObj 268 dW) ∈ news) (m2 : (dW, dictOf [ent w "state" w0 (.ref st), ent w "stack" w1 (.ref sk), ent w "zones" w2 (.ref zo), ent w "cvt" w3 (.ref cv), ent w "storage" w4 (.ref so), ent w "ppem" w5 (.int 12 b5), ent w "point_size" w6 (.int 768 b6), ent w "scale" w7 (.ref sc)] 8) ∈ news) (m3 : (sk, instObj 217 dK) ∈ news) (m4 : (dK, dictOf [ent w "most" c0 (.int 64 c1), ent w "numbers" c2 (.ref nl)] 2) ∈ news)
    (hret : ∀ (h' : Heap) (tk' : Nat), Fr h₀ L h' m → News h₀ L h' news → Q (.bool true) { s with heap := h', toks := tk' }) :
    wpAny (model PySem.Challenge.rw_xm0721_01.row.prog w) (ktrTop dp un gd cn cs L a ccd [] []) (call (.ref 321) [.ref wk, .int 26 tc]) Q E s := by
  refine refused_core (nl := nl) (wk := wk) (dW := dW) (sk := sk) (dK := dK) (st := st) (sc := sc) (zo := zo) (cv := cv) (so := so) (c := c) (w0 := w0) (w1 := w1) (w2 := w2) (w3 := w3) (w4 := w4) (w5 := w5) (w6 := w6) (w7 := w7) (b5 := b5) (b6 := b6) (c0 := c0) (c1 := c1) (c2 := c2) hB hF hK (fun p hp => ?_) hT hk hd1 hu hXB hTB hret
  rcases List.mem_cons.mp hp with rfl | hp
  · exact hN _ m0
  rcases List.mem_cons.mp hp with rfl | hp
  · exact hN _ m1
  rcases List.mem_cons.mp hp with rfl | hp
  · exact hN _ m2
  rcases List.mem_cons.mp hp with rfl | hp
  · exact hN _ m3
  rcases List.mem_cons.mp hp with rfl | hp
  · exact hN _ m4
  exact hN _ hp
def Among9 (r a0 a1 a2 a3 a4 a5 a6 a7 a8 : Int) : Prop := r = a0 ∨ r = a1 ∨ r = a2 ∨ r = a3 ∨ r = a4 ∨ r = a5 ∨ r = a6 ∨ r = a7 ∨ r = a8
theorem getD9 {a0 a1 a2 a3 a4 a5 a6 a7 a8 r : Int} (h0 : 0 ≤ r) (h1 : r < 9) : ([a0, a1, a2, a3, a4, a5, a6, a7, a8].getD r.toNat 0 = a0 ∨ [a0, a1, a2, a3, a4, a5, a6, a7, a8].getD r.toNat 0 = a1 ∨ [a0, a1, a2, a3, a4, a5, a6, a7, a8].getD r.toNat 0 = a2 ∨ [a0, a1, a2, a3, a4, a5, a6, a7, a8].getD r.toNat 0 = a3 ∨ [a0, a1, a2, a3, a4, a5, a6, a7, a8].getD r.toNat 0 = a4 ∨ [a0, a1, a2, a3, a4, a5, a6, a7, a8].getD r.toNat 0 = a5 ∨ [a0, a1, a2, a3, a4, a5, a6, a7, a8].getD r.toNat 0 = a6 ∨ [a0, a1, a2, a3, a4, a5, a6, a7, a8].getD r.toNat 0 = a7 ∨ [a0, a1, a2, a3, a4, a5, a6, a7, a8].getD r.toNat 0 = a8) := by
  have : r = 0 ∨ r = 1 ∨ r = 2 ∨ r = 3 ∨ r = 4 ∨ r = 5 ∨ r = 6 ∨ r = 7 ∨ r = 8 := by omega
  rcases this with rfl | rfl | rfl | rfl | rfl | rfl | rfl | rfl | rfl
  · exact .inl rfl
  · exact .inr (.inl rfl)
  · exact .inr (.inr (.inl rfl))
  · exact .inr (.inr (.inr (.inl rfl)))
  · exact .inr (.inr (.inr (.inr (.inl rfl))))
  · exact .inr (.inr (.inr (.inr (.inr (.inl rfl)))))
  · exact .inr (.inr (.inr (.inr (.inr (.inr (.inl rfl))))))
  · exact .inr (.inr (.inr (.inr (.inr (.inr (.inr (.inl rfl)))))))
  · exact .inr (.inr (.inr (.inr (.inr (.inr (.inr (.inr (rfl))))))))
theorem one_core {w : World} {mean : ExcName → Option Value} {mg mb : Str → Option Value} {dp un : Nat} {gd : Option (List Code)} {cn : Str} {cs : Scope} {a : Addr} {ccd : Value} {cl : List (Str × Addr)} {outer : List Env} {A₀ : Around} {base h₀ : Heap} {L : Addr} {m : Str → Option Value} {s : Shared} {Q E : Value → Shared → Prop} {own : List (Addr × Obj)} {tl src : Nat} {x y a0 a1 a2 a3 a4 a5 a6 a7 a8 : Int} {tx ty q0 q1 q2 q3 q4 q5 q6 q7 q8 : Tok} {n c : Nat}
    (hB : Below A₀ base outer h₀) (hF : Fr h₀ L s.heap m) (hK : (hd.heap_39 w.params).In h₀) (hN : News h₀ L s.heap ((src, listOf [.int x tx, .int y ty].toArray n) :: (tl, listOf [.int a0 q0, .int a1 q1, .int a2 q2, .int a3 q3, .int a4 q4, .int a5 q5, .int a6 q6, .int a7 q7, .int a8 q8].toArray c) :: own)) (hT : Top hd.view_39 (looseW hd.view_39 [Str.ofString "HintWork"]) mean mg mb h₀) (hk : cs.kind = .function) (hd1 : dp + 4 < recursionLimit) (hu : un + 100 < cLine)
    (hO : OwnOff own [src]) (hne : tl ≠ src) (hx : 0 ≤ x) (hy : 0 ≤ y) (hy2 : y < 2147483648)
    (hret : ∀ (r : Int) (tr : Tok) (x' y' : Int) (tx' ty' : Tok) (n' : Nat) (h' : Heap) (tk' : Nat), (Among9 r a0 a1 a2 a3 a4 a5 a6 a7 a8) → 0 ≤ x' → 0 ≤ y' → y' < 2147483648 → Fr h₀ L h' m → News h₀ L h' ((src, listOf [.int x' tx', .int y' ty'].toArray n') :: own) → Q (.int r tr) { s with heap := h', toks := tk' }) :
    wpAny (model PySem.Challenge.rw_xm0721_01.row.prog w) (ktrTop dp un gd cn cs L a ccd cl outer) (call (.ref 293) [.ref src, .ref tl]) Q E s := by
  refine wpAny_call ?_
  k_dflt cell_enter
  k_steps
  refine hret _ _ _ _ _ _ _ _ _ (getD9 (by assumption) (by assumption)) ?_ ?_ ?_ (by k_asm) (kst_newsOf (by assumption) (List.forall_mem_cons.mpr ⟨by k_mem, fun p hp => by repeat (first | exact hp | refine List.mem_cons_of_mem _ ?_)⟩)) <;> assumption
theorem one_use {w : World} {mean : ExcName → Option Value} {mg mb : Str → Option Value} {dp un : Nat} {gd : Option (List Code)} {cn : Str} {cs : Scope} {a : Addr} {ccd : Value} {cl : List (Str × Addr)} {outer : List Env} {A₀ : Around} {base h₀ : Heap} {L : Addr} {m : Str → Option Value} {s : Shared} {Q E : Value → Shared → Prop} {news : List (Addr × Obj)} {g : Obj → List (Addr × Obj)} {tl src : Nat} {x y a0 a1 a2 a3 a4 a5 a6 a7 a8 : Int} {tx ty q0 q1 q2 q3 q4 q5 q6 q7 q8 : Tok} {n c : Nat}
    (hB : Below A₀ base outer h₀) (hF : Fr h₀ L s.heap m) (hK : (hd.heap_39 w.params).In h₀) (hN : News h₀ L s.heap (news)) (hT : Top hd.view_39 (looseW hd.view_39 [Str.ofString "HintWork"]) mean mg mb h₀) (hk : cs.kind = .function) (hd1 : dp + 4 < recursionLimit) (hu : un + 100 < cLine)
    (hU : UpdF src (listOf [.int x tx, .int y ty].toArray n) news g) (m1 : (tl, listOf [.int a0 q0, .int a1 q1, .int a2 q2, .int a3 q3, .int a4 q4, .int a5 q5, .int a6 q6, .int a7 q7, .int a8 q8].toArray c) ∈ news) (hne : tl ≠ src) (hx : 0 ≤ x) (hy : 0 ≤ y) (hy2 : y < 2147483648)
    (hret : ∀ (r : Int) (tr : Tok) (x' y' : Int) (tx' ty' : Tok) (n' : Nat) (h' : Heap) (tk' : Nat), (Among9 r a0 a1 a2 a3 a4 a5 a6 a7 a8) → 0 ≤ x' → 0 ≤ y' → y' < 2147483648 → Fr h₀ L h' m → News h₀ L h' (g (listOf [.int x' tx', .int y' ty'].toArray n')) → Q (.int r tr) { s with heap := h', toks := tk' }) :
    wpAny (model PySem.Challenge.rw_xm0721_01.row.prog w) (ktrTop dp un gd cn cs L a ccd cl outer) (call (.ref 293) [.ref src, .ref tl]) Q E s := by
  obtain ⟨own, ho, h1, h2, h3⟩ := upd_own hU
  refine one_core (own := own) (tl := tl) (src := src) (x := x) (y := y) (tx := tx) (ty := ty) (n := n) (c := c) (a0 := a0) (a1 := a1) (a2 := a2) (a3 := a3) (a4 := a4) (a5 := a5) (a6 := a6) (a7 := a7) (a8 := a8) (q0 := q0) (q1 := q1) (q2 := q2) (q3 := q3) (q4 := q4) (q5 := q5) (q6 := q6) (q7 := q7) (q8 := q8) hB hF hK (fun p hp => ?_) hT hk hd1 hu ho hne hx hy hy2 (fun r tr x' y' tx' ty' n' h' tk' b1 b2 b3 b4 F' N' => hret r tr x' y' tx' ty' n' h' tk' b1 b2 b3 b4 F' fun p hp => N' p (h3 _ _ hp))
  rcases List.mem_cons.mp hp with rfl | hp
  · exact hN _ (h1 _ (.head _))
  rcases List.mem_cons.mp hp with rfl | hp
  · exact hN _ m1
  exact hN _ (h1 _ (.tail _ hp))
theorem deed_all {w : World} {mean : ExcName → Option Value} {mg mb : Str → Option Value} {dp un : Nat} {gd : Option (List Code)} {cn : Str} {cs : Scope} {a : Addr} {ccd : Value} {A₀ : Around} {base h₀ : Heap} {L : Addr} {m : Str → Option Value} {s : Shared} {Q E : Value → Shared → Prop} {own : List (Addr × Obj)} {sc dW wk dS st fr pr du dR ro dK sk nl : Nat} {zo cv so : Addr} {number code p q x0 x1 x2 x3 x4 x5 : Int} {k0 k1 k2 k3 k4 k5 k6 k7 k8 k9 k10 k11 k12 k13 k14 k15 k16 k17 v3 v4 v5 v6 v7 v8 v9 u0 u1 u2 u3 u4 u5 w0 w1 w2 w3 w4 w5 w6 w7 b5 b6 c0 c1 c2 r0 r1 r2 r3 r4 r5 f0 f1 f2 f3 f4 f5 tp tq tn tc : Tok} {c : Nat}
    (hB : Below A₀ base [] h₀) (hF : Fr h₀ L s.heap m) (hK : (hd.heap_39 w.params).In h₀)
    (hN : News h₀ L s.heap ((nl, listOf [].toArray c) :: (dS, dictOf [ent w "freedom" k0 (.ref fr), ent w "projection" k1 (.ref pr), ent w "dual" k2 (.ref du), ent w "rp0" k3 (.int 0 v3), ent w "rp1" k4 (.int 0 v4), ent w "rp2" k5 (.int 0 v5), ent w "zp0" k6 (.int 1 v6), ent w "zp1" k7 (.int 1 v7), ent w "zp2" k8 (.int 1 v8), ent w "loop" k9 (.int 1 v9), ent w "minimum" k10 (.int x0 u0), ent w "cut_in" k11 (.int x1 u1), ent w "single_cut_in" k12 (.int x2 u2), ent w "single_width" k13 (.int x3 u3), ent w "delta_base" k14 (.int x4 u4), ent w "delta_shift" k15 (.int x5 u5), ent w "auto_flip" k16 (.bool true), ent w "rounding" k17 (.ref ro)] 18) :: (wk, instObj 268 dW) :: (dW, dictOf [ent w "state" w0 (.ref st), ent w "stack" w1 (.ref sk), ent w "zones" w2 (.ref zo), ent w "cvt" w3 (.ref cv), ent w "storage" w4 (.ref so), ent w "ppem" w5 (.int 12 b5), ent w "point_size" w6 (.int 768 b6), ent w "scale" w7 (.ref sc)] 8) :: (st, instObj 154 dS) :: (sk, instObj 217 dK) :: (dK, dictOf [ent w "most" c0 (.int 64 c1), ent w "numbers" c2 (.ref nl)] 2) :: (sc, tup2 p q tp tq) :: (ro, instObj 98 dR) :: (dR, dictOf [ent w "period" r0 (.int 64 r1), ent w "phase" r2 (.int 0 r3), ent w "threshold" r4 (.int 32 r5)] 3) :: (fr, tup2 16384 0 f0 f1) :: (pr, tup2 16384 0 f2 f3) :: (du, tup2 16384 0 f4 f5) :: own))
    (hO : OwnOff own [nl, dS])
    (hT : Top hd.view_39 (looseW hd.view_39 [Str.ofString "HintWork"]) mean mg mb h₀) (hk : cs.kind = .function)
    (o0 : sc < dW) (o1 : dW < wk) (o2 : wk < dS) (o3 : dS < st) (o4 : st < fr) (o5 : fr < pr) (o6 : pr < du) (o7 : du < dR) (o8 : dR < ro) (o9 : ro < dK) (o10 : dK < sk) (o11 : sk < nl)
    (hd1 : dp + 9 < recursionLimit) (hu : un + 200 < cLine) (hn1 : -2147483648 ≤ number) (hn2 : number ≤ 2147483647) (hcode : code = 26 ∨ code = 29 ∨ code = 30 ∨ code = 31 ∨ code = 94 ∨ code = 95 ∨ code = 0) (hs : ScaleOk p q)
    (hXB : (hd.heap_39 w.params).In base) (hTB : Top hd.view_39 (looseW hd.view_39 [Str.ofString "HintWork"]) mean mg mb base)
    (hret : ∀ (y0 y1 y2 y3 y4 y5 : Int) (e0 e1 e2 e3 e4 e5 : Tok) (c' : Nat) (h' : Heap) (tk' : Nat), Fr h₀ L h' m → News h₀ L h' ((nl, listOf [].toArray c') :: (dS, dictOf [ent w "freedom" k0 (.ref fr), ent w "projection" k1 (.ref pr), ent w "dual" k2 (.ref du), ent w "rp0" k3 (.int 0 v3), ent w "rp1" k4 (.int 0 v4), ent w "rp2" k5 (.int 0 v5), ent w "zp0" k6 (.int 1 v6), ent w "zp1" k7 (.int 1 v7), ent w "zp2" k8 (.int 1 v8), ent w "loop" k9 (.int 1 v9), ent w "minimum" k10 (.int y0 e0), ent w "cut_in" k11 (.int y1 e1), ent w "single_cut_in" k12 (.int y2 e2), ent w "single_width" k13 (.int y3 e3), ent w "delta_base" k14 (.int y4 e4), ent w "delta_shift" k15 (.int y5 e5), ent w "auto_flip" k16 (.bool true), ent w "rounding" k17 (.ref ro)] 18) :: (wk, instObj 268 dW) :: (dW, dictOf [ent w "state" w0 (.ref st), ent w "stack" w1 (.ref sk), ent w "zones" w2 (.ref zo), ent w "cvt" w3 (.ref cv), ent w "storage" w4 (.ref so), ent w "ppem" w5 (.int 12 b5), ent w "point_size" w6 (.int 768 b6), ent w "scale" w7 (.ref sc)] 8) :: (st, instObj 154 dS) :: (sk, instObj 217 dK) :: (dK, dictOf [ent w "most" c0 (.int 64 c1), ent w "numbers" c2 (.ref nl)] 2) :: (sc, tup2 p q tp tq) :: (ro, instObj 98 dR) :: (dR, dictOf [ent w "period" r0 (.int 64 r1), ent w "phase" r2 (.int 0 r3), ent w "threshold" r4 (.int 32 r5)] 3) :: (fr, tup2 16384 0 f0 f1) :: (pr, tup2 16384 0 f2 f3) :: (du, tup2 16384 0 f4 f5) :: own) → Q (.bool true) { s with heap := h', toks := tk' }) :
    wpAny (model PySem.Challenge.rw_xm0721_01.row.prog w) (ktrTop dp un gd cn cs L a ccd [] []) (call (.ref 314) [.ref wk, .int code tc, .int number tn]) Q E s := by
  have hpq : 0 < q ∧ q ≤ 2048 ∧ 0 < p ∧ p ≤ 64 := by unfold ScaleOk at hs; omega
  rcases hcode with rfl | rfl | rfl | rfl | rfl | hc | hc
  · exact deed26g hB hF hK hN hO hT hk o0 o1 o2 o3 o4 o5 o6 o7 o8 o9 o10 o11 hd1 hu hn1 hn2 (fun tz c' h' tk' F' N' => hret _ _ _ _ _ _ _ _ _ _ _ _ c' h' tk' F' N')
  · exact deed29g hB hF hK hN hO hT hk o0 o1 o2 o3 o4 o5 o6 o7 o8 o9 o10 o11 hd1 hu hn1 hn2 (fun tz c' h' tk' F' N' => hret _ _ _ _ _ _ _ _ _ _ _ _ c' h' tk' F' N')
  · exact deed30g hB hF hK hN hO hT hk o0 o1 o2 o3 o4 o5 o6 o7 o8 o9 o10 o11 hd1 hu hn1 hn2 (fun tz c' h' tk' F' N' => hret _ _ _ _ _ _ _ _ _ _ _ _ c' h' tk' F' N')
  · exact deed31g hB hF hK hN hO hT hk o0 o1 o2 o3 o4 o5 o6 o7 o8 o9 o10 o11 hd1 hu hn1 hn2 hpq.1 hpq.2.1 hpq.2.2.1 hpq.2.2.2 (fun tz c' h' tk' F' N' => hret _ _ _ _ _ _ _ _ _ _ _ _ c' h' tk' F' N')
  · exact deed94g hB hF hK hN hO hT hk o0 o1 o2 o3 o4 o5 o6 o7 o8 o9 o10 o11 hd1 hu hn1 hn2 (fun tz c' h' tk' F' N' => hret _ _ _ _ _ _ _ _ _ _ _ _ c' h' tk' F' N')
  · have hc' : code = 95 ∨ code = 0 := Or.inl hc
    by_cases hg : 0 ≤ number ∧ number ≤ 6
    · exact deedsg hB hF hK hN hO hT hk o0 o1 o2 o3 o4 o5 o6 o7 o8 o9 o10 o11 hd1 hu hn1 hn2 hg.1 hg.2 hc' (fun tz c' h' tk' F' N' => hret _ _ _ _ _ _ _ _ _ _ _ _ c' h' tk' F' N')
    · exact deedsb hB hF hK hN hO hT hk o0 o1 o2 o3 o4 o5 o6 o7 o8 o9 o10 o11 hd1 hu hn1 hn2 (by omega) hXB hTB hc' (fun c' h' tk' F' N' => hret _ _ _ _ _ _ _ _ _ _ _ _ c' h' tk' F' N')
  · have hc' : code = 95 ∨ code = 0 := Or.inr hc
    by_cases hg : 0 ≤ number ∧ number ≤ 6
    · exact deedsg hB hF hK hN hO hT hk o0 o1 o2 o3 o4 o5 o6 o7 o8 o9 o10 o11 hd1 hu hn1 hn2 hg.1 hg.2 hc' (fun tz c' h' tk' F' N' => hret _ _ _ _ _ _ _ _ _ _ _ _ c' h' tk' F' N')
    · exact deedsb hB hF hK hN hO hT hk o0 o1 o2 o3 o4 o5 o6 o7 o8 o9 o10 o11 hd1 hu hn1 hn2 (by omega) hXB hTB hc' (fun c' h' tk' F' N' => hret _ _ _ _ _ _ _ _ _ _ _ _ c' h' tk' F' N')
theorem deed_use {w : World} {mean : ExcName → Option Value} {mg mb : Str → Option Value} {dp un : Nat} {gd : Option (List Code)} {cn : Str} {cs : Scope} {a : Addr} {ccd : Value} {A₀ : Around} {base h₀ : Heap} {L : Addr} {m : Str → Option Value} {s : Shared} {Q E : Value → Shared → Prop} {news : List (Addr × Obj)} {g1 : Obj → List (Addr × Obj)} {g2 : Obj → Obj → List (Addr × Obj)} {sc dW wk dS st fr pr du dR ro dK sk nl : Nat} {zo cv so : Addr} {number code p q x0 x1 x2 x3 x4 x5 : Int} {k0 k1 k2 k3 k4 k5 k6 k7 k8 k9 k10 k11 k12 k13 k14 k15 k16 k17 v3 v4 v5 v6 v7 v8 v9 u0 u1 u2 u3 u4 u5 w0 w1 w2 w3 w4 w5 w6 w7 b5 b6 c0 c1 c2 r0 r1 r2 r3 r4 r5 f0 f1 f2 f3 f4 f5 tp tq tn tc : Tok} {c : Nat}
    (hB : Below A₀ base [] h₀) (hF : Fr h₀ L s.heap m) (hK : (hd.heap_39 w.params).In h₀)
    (hN : News h₀ L s.heap (news))
    (hU1 : UpdF nl (listOf [].toArray c) news g1) (hU2 : ∀ x, UpdF dS (dictOf [ent w "freedom" k0 (.ref fr), ent w "projection" k1 (.ref pr), ent w "dual" k2 (.ref du), ent w "rp0" k3 (.int 0 v3), ent w "rp1" k4 (.int 0 v4), ent w "rp2" k5 (.int 0 v5), ent w "zp0" k6 (.int 1 v6), ent w "zp1" k7 (.int 1 v7), ent w "zp2" k8 (.int 1 v8), ent w "loop" k9 (.int 1 v9), ent w "minimum" k10 (.int x0 u0), ent w "cut_in" k11 (.int x1 u1), ent w "single_cut_in" k12 (.int x2 u2), ent w "single_width" k13 (.int x3 u3), ent w "delta_base" k14 (.int x4 u4), ent w "delta_shift" k15 (.int x5 u5), ent w "auto_flip" k16 (.bool true), ent w "rounding" k17 (.ref ro)] 18) (g1 x) (g2 x))
    (m0 : (wk, instObj 268 dW) ∈ news) (m1 : (dW, dictOf [ent w "state" w0 (.ref st), ent w "stack" w1 (.ref sk), ent w "zones" w2 (.ref zo), ent w "cvt" w3 (.ref cv), ent w "storage" w4 (.ref so), ent w "ppem" w5 (.int 12 b5), ent w "point_size" w6 (.int 768 b6), ent w "scale" w7 (.ref sc)] 8) ∈ news) (m2 : (st, instObj 154 dS) ∈ news) (m3 : (sk, instObj 217 dK) ∈ news) (m4 : (dK, dictOf [ent w "most" c0 (.int 64 c1), ent w "numbers" c2 (.ref nl)] 2) ∈ news) (m5 : (sc, tup2 p q tp tq) ∈ news) (m6 : (ro, instObj 98 dR) ∈ news) (m7 : (dR, dictOf [ent w "period" r0 (.int 64 r1), ent w "phase" r2 (.int 0 r3), ent w "threshold" r4 (.int 32 r5)] 3) ∈ news) (m8 : (fr, tup2 16384 0 f0 f1) ∈ news) (m9 : (pr, tup2 16384 0 f2 f3) ∈ news) (m10 : (du, tup2 16384 0 f4 f5) ∈ news)
    (hT : Top hd.view_39 (looseW hd.view_39 [Str.ofString "HintWork"]) mean mg mb h₀) (hk : cs.kind = .function)
    (o0 : sc < dW) (o1 : dW < wk) (o2 : wk < dS) (o3 : dS < st) (o4 : st < fr) (o5 : fr < pr) (o6 : pr < du) (o7 : du < dR) (o8 : dR < ro) (o9 : ro < dK) (o10 : dK < sk) (o11 : sk < nl)
    (hd1 : dp + 9 < recursionLimit) (hu : un + 200 < cLine) (hn1 : -2147483648 ≤ number) (hn2 : number ≤ 2147483647) (hcode : code = 26 ∨ code = 29 ∨ code = 30 ∨ code = 31 ∨ code = 94 ∨ code = 95 ∨ code = 0) (hs : ScaleOk p q)
    (hXB : (hd.heap_39 w.params).In base) (hTB : Top hd.view_39 (looseW hd.view_39 [Str.ofString "HintWork"]) mean mg mb base)
    (hret : ∀ (y0 y1 y2 y3 y4 y5 : Int) (e0 e1 e2 e3 e4 e5 : Tok) (c' : Nat) (h' : Heap) (tk' : Nat), Fr h₀ L h' m → News h₀ L h' (g2 (listOf [].toArray c') (dictOf [ent w "freedom" k0 (.ref fr), ent w "projection" k1 (.ref pr), ent w "dual" k2 (.ref du), ent w "rp0" k3 (.int 0 v3), ent w "rp1" k4 (.int 0 v4), ent w "rp2" k5 (.int 0 v5), ent w "zp0" k6 (.int 1 v6), ent w "zp1" k7 (.int 1 v7), ent w "zp2" k8 (.int 1 v8), ent w "loop" k9 (.int 1 v9), ent w "minimum" k10 (.int y0 e0), ent w "cut_in" k11 (.int y1 e1), ent w "single_cut_in" k12 (.int y2 e2), ent w "single_width" k13 (.int y3 e3), ent w "delta_base" k14 (.int y4 e4), ent w "delta_shift" k15 (.int y5 e5), ent w "auto_flip" k16 (.bool true), ent w "rounding" k17 (.ref ro)] 18)) → Q (.bool true) { s with heap := h', toks := tk' }) :
    wpAny (model PySem.Challenge.rw_xm0721_01.row.prog w) (ktrTop dp un gd cn cs L a ccd [] []) (call (.ref 314) [.ref wk, .int code tc, .int number tn]) Q E s := by
  obtain ⟨own, ho, h1, h2, h3⟩ := upd_own2 (show dS ≠ nl by omega) hU1 hU2
  refine deed_all (own := own) (sc := sc) (dW := dW) (wk := wk) (dS := dS) (st := st) (fr := fr) (pr := pr) (du := du) (dR := dR) (ro := ro) (dK := dK) (sk := sk) (nl := nl) (zo := zo) (cv := cv) (so := so) (p := p) (q := q) (x0 := x0) (x1 := x1) (x2 := x2) (x3 := x3) (x4 := x4) (x5 := x5) (k0 := k0) (k1 := k1) (k2 := k2) (k3 := k3) (k4 := k4) (k5 := k5) (k6 := k6) (k7 := k7) (k8 := k8) (k9 := k9) (k10 := k10) (k11 := k11) (k12 := k12) (k13 := k13) (k14 := k14) (k15 := k15) (k16 := k16) (k17 := k17) (v3 := v3) (v4 := v4) (v5 := v5) (v6 := v6) (v7 := v7) (v8 := v8) (v9 := v9) (u0 := u0) (u1 := u1) (u2 := u2) (u3 := u3) (u4 := u4) (u5 := u5) (w0 := w0) (w1 := w1) (w2 := w2) (w3 := w3) (w4 := w4) (w5 := w5) (w6 := w6) (w7 := w7) (b5 := b5) (b6 := b6) (c0 := c0) (c1 := c1) (c2 := c2) (r0 := r0) (r1 := r1) (r2 := r2) (r3 := r3) (r4 := r4) (r5 := r5) (f0 := f0) (f1 := f1) (f2 := f2) (f3 := f3) (f4 := f4) (f5 := f5) (tp := tp) (tq := tq) (c := c) hB hF hK (fun p hp => ?_) ho hT hk o0 o1 o2 o3 o4 o5 o6 o7 o8 o9 o10 o11 hd1 hu hn1 hn2 hcode hs hXB hTB (fun y0 y1 y2 y3 y4 y5 e0 e1 e2 e3 e4 e5 c' h' tk' F' N' => hret y0 y1 y2 y3 y4 y5 e0 e1 e2 e3 e4 e5 c' h' tk' F' fun p hp => ?_)
  · rcases List.mem_cons.mp hp with rfl | hp
    · exact hN _ (h1 _ (.head _))
    rcases List.mem_cons.mp hp with rfl | hp
    · exact hN _ (h1 _ (.tail _ (.head _)))
    rcases List.mem_cons.mp hp with rfl | hp
    · exact hN _ m0
    rcases List.mem_cons.mp hp with rfl | hp
    · exact hN _ m1
    rcases List.mem_cons.mp hp with rfl | hp
    · exact hN _ m2
    rcases List.mem_cons.mp hp with rfl | hp
    · exact hN _ m3
    rcases List.mem_cons.mp hp with rfl | hp
    · exact hN _ m4
    rcases List.mem_cons.mp hp with rfl | hp
    · exact hN _ m5
    rcases List.mem_cons.mp hp with rfl | hp
    · exact hN _ m6
    rcases List.mem_cons.mp hp with rfl | hp
    · exact hN _ m7
    rcases List.mem_cons.mp hp with rfl | hp
    · exact hN _ m8
    rcases List.mem_cons.mp hp with rfl | hp
    · exact hN _ m9
    rcases List.mem_cons.mp hp with rfl | hp
    · exact hN _ m10
    exact hN _ (h1 _ (.tail _ (.tail _ hp)))
  · rcases List.mem_cons.mp (h3 _ _ _ hp) with rfl | hq
    · exact N' _ (.head _)
    rcases List.mem_cons.mp hq with rfl | hq
    · exact N' _ (.tail _ (.head _))
    · exact N' _ (.tail _ (.tail _ (.tail _ (.tail _ (.tail _ (.tail _ (.tail _ (.tail _ (.tail _ (.tail _ (.tail _ (.tail _ (.tail _ hq)))))))))))))
def wkLed (w : World) (sc dW wk dS st fr pr du dR ro dK sk nl : Nat) (zo cv so : Addr) (p q x0 x1 x2 x3 x4 x5 : Int) (T : Nat → Tok) (c : Nat) : List (Addr × Obj) :=
  (nl, listOf [].toArray c) :: (dS, dictOf [ent w "freedom" (T 0) (.ref fr), ent w "projection" (T 1) (.ref pr), ent w "dual" (T 2) (.ref du), ent w "rp0" (T 3) (.int 0 (T 18)), ent w "rp1" (T 4) (.int 0 (T 19)), ent w "rp2" (T 5) (.int 0 (T 20)), ent w "zp0" (T 6) (.int 1 (T 21)), ent w "zp1" (T 7) (.int 1 (T 22)), ent w "zp2" (T 8) (.int 1 (T 23)), ent w "loop" (T 9) (.int 1 (T 24)), ent w "minimum" (T 10) (.int x0 (T 25)), ent w "cut_in" (T 11) (.int x1 (T 26)), ent w "single_cut_in" (T 12) (.int x2 (T 27)), ent w "single_width" (T 13) (.int x3 (T 28)), ent w "delta_base" (T 14) (.int x4 (T 29)), ent w "delta_shift" (T 15) (.int x5 (T 30)), ent w "auto_flip" (T 16) (.bool true), ent w "rounding" (T 17) (.ref ro)] 18) :: (wk, instObj 268 dW) :: (dW, dictOf [ent w "state" (T 31) (.ref st), ent w "stack" (T 32) (.ref sk), ent w "zones" (T 33) (.ref zo), ent w "cvt" (T 34) (.ref cv), ent w "storage" (T 35) (.ref so), ent w "ppem" (T 36) (.int 12 (T 39)), ent w "point_size" (T 37) (.int 768 (T 40)), ent w "scale" (T 38) (.ref sc)] 8) :: (st, instObj 154 dS) :: (sk, instObj 217 dK) :: (dK, dictOf [ent w "most" (T 41) (.int 64 (T 42)), ent w "numbers" (T 43) (.ref nl)] 2) :: (sc, tup2 p q (T 56) (T 57)) :: (ro, instObj 98 dR) :: (dR, dictOf [ent w "period" (T 44) (.int 64 (T 45)), ent w "phase" (T 46) (.int 0 (T 47)), ent w "threshold" (T 48) (.int 32 (T 49))] 3) :: (fr, tup2 16384 0 (T 50) (T 51)) :: (pr, tup2 16384 0 (T 52) (T 53)) :: (du, tup2 16384 0 (T 54) (T 55)) :: []
theorem ne_cls {h₀ h : Heap} {L a b : Addr} {o o' : Obj} {news : List (Addr × Obj)} (N : News h₀ L h news) (h1 : (a, o) ∈ news) (h2 : (b, o') ∈ news) (hc : o.cls ≠ o'.cls) : a ≠ b := by
  intro e
  subst e
  exact hc (congrArg Obj.cls (Option.some.inj ((N.get h1).symm.trans (N.get h2))))
def AllIter (X : List (Addr × Obj)) : Prop := ∀ b ∈ X, b.2.cls = .type "range_iterator"
def WLed (w : World) (wk src : Nat) (p q : Int) (X O : List (Addr × Obj)) : Prop :=
  ∃ (sc dW dS st fr pr du dR ro dK sk nl : Nat) (zo cv so : Addr) (x0 x1 x2 x3 x4 x5 : Int) (T : Nat → Tok) (c : Nat), (src < sc ∧ sc < dW ∧ dW < wk ∧ wk < dS ∧ dS < st ∧ st < fr ∧ fr < pr ∧ pr < du ∧ du < dR ∧ dR < ro ∧ ro < dK ∧ dK < sk ∧ sk < nl) ∧ AllIter X ∧ O = wkLed w sc dW wk dS st fr pr du dR ro dK sk nl zo cv so p q x0 x1 x2 x3 x4 x5 T c ++ X
theorem WLed.off {w : World} {wk src : Nat} {p q : Int} {X O : List (Addr × Obj)} {h₀ h : Heap} {L : Addr} {xs : List Value} {n : Nat} (h1 : WLed w wk src p q X O) (N : News h₀ L h ((src, listOf xs.toArray n) :: O)) : ∀ b ∈ O, b.1 ≠ src := by
  obtain ⟨sc, dW, dS, st, fr, pr, du, dR, ro, dK, sk, nl, zo, cv, so, x0, x1, x2, x3, x4, x5, T, c, ⟨o0, o1, o2, o3, o4, o5, o6, o7, o8, o9, o10, o11, o12⟩, hX, rfl⟩ := h1
  intro b hb
  rcases List.mem_append.mp hb with hb' | hb'
  · have hb' : b.1 ∈ [nl, dS, wk, dW, st, sk, dK, sc, ro, dR, fr, pr, du] := List.mem_map_of_mem hb'
    simp only [List.mem_cons, List.not_mem_nil, or_false] at hb'
    have key : ∀ x : Nat, (x = nl ∨ x = dS ∨ x = wk ∨ x = dW ∨ x = st ∨ x = sk ∨ x = dK ∨ x = sc ∨ x = ro ∨ x = dR ∨ x = fr ∨ x = pr ∨ x = du) → x ≠ src := by
      intro x h
      omega
    exact key _ hb'
  · have hc := hX b hb'
    exact ne_cls N (.tail _ hb) (.head _) (fun e => by rw [hc] at e; exact absurd (Value.type.inj e) (by decide))
theorem deed_on {w : World} {mean : ExcName → Option Value} {mg mb : Str → Option Value} {dp un : Nat} {gd : Option (List Code)} {cn : Str} {cs : Scope} {a : Addr} {ccd : Value} {A₀ : Around} {base h₀ : Heap} {L : Addr} {m : Str → Option Value} {s : Shared} {Q E : Value → Shared → Prop} {wk src : Nat} {number code p q : Int} {X O : List (Addr × Obj)} {oS : Obj} {tn tc : Tok}
    (hB : Below A₀ base [] h₀) (hF : Fr h₀ L s.heap m) (hK : (hd.heap_39 w.params).In h₀) (hN : News h₀ L s.heap ((src, oS) :: O)) (hT : Top hd.view_39 (looseW hd.view_39 [Str.ofString "HintWork"]) mean mg mb h₀) (hk : cs.kind = .function) (hd1 : dp + 9 < recursionLimit) (hu : un + 200 < cLine) (hW : WLed w wk src p q X O) (hs : ScaleOk p q)
    (hXB : (hd.heap_39 w.params).In base) (hTB : Top hd.view_39 (looseW hd.view_39 [Str.ofString "HintWork"]) mean mg mb base)
    (hn1 : -2147483648 ≤ number) (hn2 : number ≤ 2147483647) (hcode : code = 26 ∨ code = 29 ∨ code = 30 ∨ code = 31 ∨ code = 94 ∨ code = 95 ∨ code = 0)
    (hret : ∀ (O' : List (Addr × Obj)) (h' : Heap) (tk' : Nat), WLed w wk src p q X O' → Fr h₀ L h' m → News h₀ L h' ((src, oS) :: O') → Q (.bool true) { s with heap := h', toks := tk' }) :
    wpAny (model PySem.Challenge.rw_xm0721_01.row.prog w) (ktrTop dp un gd cn cs L a ccd [] []) (call (.ref 314) [.ref wk, .int code tc, .int number tn]) Q E s := by
  obtain ⟨sc, dW, dS, st, fr, pr, du, dR, ro, dK, sk, nl, zo, cv, so, x0, x1, x2, x3, x4, x5, T, c, ⟨o0, o1, o2, o3, o4, o5, o6, o7, o8, o9, o10, o11, o12⟩, hX, rfl⟩ := hW
  refine deed_all (own := (src, oS) :: X) (sc := sc) (zo := zo) (cv := cv) (so := so) (p := p) (q := q) (x0 := x0) (x1 := x1) (x2 := x2) (x3 := x3) (x4 := x4) (x5 := x5) (k0 := T 0) (k1 := T 1) (k2 := T 2) (k3 := T 3) (k4 := T 4) (k5 := T 5) (k6 := T 6) (k7 := T 7) (k8 := T 8) (k9 := T 9) (k10 := T 10) (k11 := T 11) (k12 := T 12) (k13 := T 13) (k14 := T 14) (k15 := T 15) (k16 := T 16) (k17 := T 17) (v3 := T 18) (v4 := T 19) (v5 := T 20) (v6 := T 21) (v7 := T 22) (v8 := T 23) (v9 := T 24) (u0 := T 25) (u1 := T 26) (u2 := T 27) (u3 := T 28) (u4 := T 29) (u5 := T 30) (w0 := T 31) (w1 := T 32) (w2 := T 33) (w3 := T 34) (w4 := T 35) (w5 := T 36) (w6 := T 37) (w7 := T 38) (b5 := T 39) (b6 := T 40) (c0 := T 41) (c1 := T 42) (c2 := T 43) (r0 := T 44) (r1 := T 45) (r2 := T 46) (r3 := T 47) (r4 := T 48) (r5 := T 49) (f0 := T 50) (f1 := T 51) (f2 := T 52) (f3 := T 53) (f4 := T 54) (f5 := T 55) (tp := T 56) (tq := T 57) (c := c) hB hF hK (fun y hy => hN y ?_) ?_ hT hk o1 o2 o3 o4 o5 o6 o7 o8 o9 o10 o11 o12 hd1 hu hn1 hn2 hcode hs hXB hTB (fun y0 y1 y2 y3 y4 y5 e0 e1 e2 e3 e4 e5 c' h' tk' F' N' => hret (wkLed w sc dW wk dS st fr pr du dR ro dK sk nl zo cv so p q y0 y1 y2 y3 y4 y5 (fun i => if i < 25 then T i else if i < 31 then ([e0, e1, e2, e3, e4, e5] : List Tok).getD (i - 25) 0 else T i) c' ++ X) h' tk' ⟨sc, dW, dS, st, fr, pr, du, dR, ro, dK, sk, nl, zo, cv, so, y0, y1, y2, y3, y4, y5, (fun i => if i < 25 then T i else if i < 31 then ([e0, e1, e2, e3, e4, e5] : List Tok).getD (i - 25) 0 else T i), c', ⟨o0, o1, o2, o3, o4, o5, o6, o7, o8, o9, o10, o11, o12⟩, hX, rfl⟩ F' (fun y hy => N' y ?_))
  · rcases List.mem_append.mp (show y ∈ wkLed w sc dW wk dS st fr pr du dR ro dK sk nl zo cv so p q x0 x1 x2 x3 x4 x5 T c ++ ((src, oS) :: X) from hy) with h | h
    · exact .tail _ (List.mem_append_left _ h)
    · rcases List.mem_cons.mp h with h | h
      · rw [h]; exact .head _
      · exact .tail _ (List.mem_append_right _ h)
  · intro y hy b hb
    simp only [List.mem_cons, List.not_mem_nil, or_false] at hb
    rcases List.mem_cons.mp hy with hy | hy
    · rw [hy]
      rcases hb with h | h <;> rw [h] <;> exact Nat.ne_of_lt (by omega)
    · have hc := hX y hy
      rcases hb with h | h
      · rw [h]; exact ne_cls hN (.tail _ (List.mem_append_right _ hy)) (.tail _ (.head _)) (fun e => by rw [hc] at e; exact absurd (Value.type.inj e) (by decide))
      · rw [h]; exact ne_cls hN (.tail _ (List.mem_append_right _ hy)) (.tail _ (.tail _ (.head _))) (fun e => by rw [hc] at e; exact absurd (Value.type.inj e) (by decide))
  · refine (List.mem_append.mpr ?_ : y ∈ wkLed w sc dW wk dS st fr pr du dR ro dK sk nl zo cv so p q y0 y1 y2 y3 y4 y5 (fun i => if i < 25 then T i else if i < 31 then ([e0, e1, e2, e3, e4, e5] : List Tok).getD (i - 25) 0 else T i) c' ++ ((src, oS) :: X))
    rcases List.mem_cons.mp hy with h | h
    · exact .inr (by rw [h]; exact .head _)
    · rcases List.mem_append.mp h with h | h
      · exact .inl h
      · exact .inr (.tail _ h)
theorem refused_on {w : World} {mean : ExcName → Option Value} {mg mb : Str → Option Value} {dp un : Nat} {gd : Option (List Code)} {cn : Str} {cs : Scope} {a : Addr} {ccd : Value} {A₀ : Around} {base h₀ : Heap} {L : Addr} {m : Str → Option Value} {s : Shared} {Q E : Value → Shared → Prop} {wk src : Nat} {p q : Int} {X O : List (Addr × Obj)} {oS : Obj} {tc : Tok}
    (hB : Below A₀ base [] h₀) (hF : Fr h₀ L s.heap m) (hK : (hd.heap_39 w.params).In h₀) (hN : News h₀ L s.heap ((src, oS) :: O)) (hT : Top hd.view_39 (looseW hd.view_39 [Str.ofString "HintWork"]) mean mg mb h₀) (hk : cs.kind = .function) (hd1 : dp + 9 < recursionLimit) (hu : un + 200 < cLine) (hW : WLed w wk src p q X O)
    (hXB : (hd.heap_39 w.params).In base) (hTB : Top hd.view_39 (looseW hd.view_39 [Str.ofString "HintWork"]) mean mg mb base)
    (hret : ∀ (h' : Heap) (tk' : Nat), Fr h₀ L h' m → News h₀ L h' ((src, oS) :: O) → Q (.bool true) { s with heap := h', toks := tk' }) :
    wpAny (model PySem.Challenge.rw_xm0721_01.row.prog w) (ktrTop dp un gd cn cs L a ccd [] []) (call (.ref 321) [.ref wk, .int 26 tc]) Q E s := by
  obtain ⟨sc, dW, dS, st, fr, pr, du, dR, ro, dK, sk, nl, zo, cv, so, x0, x1, x2, x3, x4, x5, T, c, ⟨o0, o1, o2, o3, o4, o5, o6, o7, o8, o9, o10, o11, o12⟩, hX, rfl⟩ := hW
  exact refused_use hB hF hK hN hT hk hd1 hu hXB hTB (.tail _ (.head _)) (.tail _ (.tail _ (.tail _ (.head _)))) (.tail _ (.tail _ (.tail _ (.tail _ (.head _))))) (.tail _ (.tail _ (.tail _ (.tail _ (.tail _ (.tail _ (.head _))))))) (.tail _ (.tail _ (.tail _ (.tail _ (.tail _ (.tail _ (.tail _ (.head _)))))))) hret
theorem work_on {w : World} {mean : ExcName → Option Value} {mg mb : Str → Option Value} {dp un : Nat} {gd : Option (List Code)} {cn : Str} {cs : Scope} {a : Addr} {ccd : Value} {cl : List (Str × Addr)} {outer : List Env} {A₀ : Around} {base h₀ : Heap} {L : Addr} {m : Str → Option Value} {s : Shared} {Q E : Value → Shared → Prop} {news : List (Addr × Obj)} {zo cv sc src : Nat} {x y : Int} {tx ty : Tok} {n : Nat} {p q : Int} {tp tq t64 t12 t768 : Tok}
    (hB : Below A₀ base outer h₀) (hF : Fr h₀ L s.heap m) (hK : (hd.heap_39 w.params).In h₀) (hN : News h₀ L s.heap (news)) (hT : Top hd.view_39 (looseW hd.view_39 [Str.ofString "HintWork"]) mean mg mb h₀) (hk : cs.kind = .function) (hd1 : dp + 12 < recursionLimit) (hu : un + 300 < cLine)
    (m0 : (sc, tup2 p q tp tq) ∈ news) (m1 : (src, listOf [.int x tx, .int y ty].toArray n) ∈ news) (hl : src < sc)
    (hret : ∀ (wk : Nat) (O : List (Addr × Obj)) (h' : Heap) (tk' : Nat), WLed w wk src p q [] O → Fr h₀ L h' m → News h₀ L h' ((src, listOf [.int x tx, .int y ty].toArray n) :: O) → Q (.ref wk) { s with heap := h', toks := tk' }) :
    wpAny (model PySem.Challenge.rw_xm0721_01.row.prog w) (ktrTop dp un gd cn cs L a ccd cl outer) (call (.ref 268) [.ref zo, .ref cv, .int 64 t64, .int 12 t12, .int 768 t768, .ref sc]) Q E s := by
  refine work_spec hB hF hK hN hT hk hd1 hu ?_
  intro dW wk dS st fr pr du dR ro dK sk nl so k0 k1 k2 k3 k4 k5 k6 k7 k8 k9 k10 k11 k12 k13 k14 k15 k16 k17 v3 v4 v5 v6 v7 v8 v9 u0 u1 u2 u3 u4 u5 r0 r1 r2 r3 r4 r5 f0 f1 f2 f3 f4 f5 w0 w1 w2 w3 w4 w5 w6 w7 b5 b6 c0 c1 c2 c h' tk' F' N' l1 l2 l3 l4 l5 l6 l7 l8 l9 l10 l11 l12
  refine hret wk (wkLed w sc dW wk dS st fr pr du dR ro dK sk nl zo cv so p q 64 68 0 0 9 3 (fun i => ([k0, k1, k2, k3, k4, k5, k6, k7, k8, k9, k10, k11, k12, k13, k14, k15, k16, k17, v3, v4, v5, v6, v7, v8, v9, u0, u1, u2, u3, u4, u5, w0, w1, w2, w3, w4, w5, w6, w7, b5, b6, c0, c1, c2, r0, r1, r2, r3, r4, r5, f0, f1, f2, f3, f4, f5, tp, tq] : List Tok).getD i 0) c ++ []) h' tk' ⟨sc, dW, dS, st, fr, pr, du, dR, ro, dK, sk, nl, zo, cv, so, 64, 68, 0, 0, 9, 3, (fun i => ([k0, k1, k2, k3, k4, k5, k6, k7, k8, k9, k10, k11, k12, k13, k14, k15, k16, k17, v3, v4, v5, v6, v7, v8, v9, u0, u1, u2, u3, u4, u5, w0, w1, w2, w3, w4, w5, w6, w7, b5, b6, c0, c1, c2, r0, r1, r2, r3, r4, r5, f0, f1, f2, f3, f4, f5, tp, tq] : List Tok).getD i 0), c, ⟨hl, l1 _ m0, l2, l3, l4, l5, l6, l7, l8, l9, l10, l11, l12⟩, (fun _ h => nomatch h), rfl⟩ F' (fun y hy => N' y ?_)
  rcases List.mem_cons.mp hy with rfl | hy
  · exact (.tail _ (.tail _ (.tail _ (.tail _ (.tail _ (.tail _ (.tail _ (.tail _ (.tail _ (.tail _ (.tail _ (.tail _ m1))))))))))))
  rcases List.mem_cons.mp hy with rfl | hy
  · exact (.head _)
  rcases List.mem_cons.mp hy with rfl | hy
  · exact (.tail _ (.head _))
  rcases List.mem_cons.mp hy with rfl | hy
  · exact (.tail _ (.tail _ (.head _)))
  rcases List.mem_cons.mp hy with rfl | hy
  · exact (.tail _ (.tail _ (.tail _ (.head _))))
  rcases List.mem_cons.mp hy with rfl | hy
  · exact (.tail _ (.tail _ (.tail _ (.tail _ (.head _)))))
  rcases List.mem_cons.mp hy with rfl | hy
  · exact (.tail _ (.tail _ (.tail _ (.tail _ (.tail _ (.head _))))))
  rcases List.mem_cons.mp hy with rfl | hy
  · exact (.tail _ (.tail _ (.tail _ (.tail _ (.tail _ (.tail _ (.head _)))))))
  rcases List.mem_cons.mp hy with rfl | hy
  · exact (.tail _ (.tail _ (.tail _ (.tail _ (.tail _ (.tail _ (.tail _ (.tail _ (.tail _ (.tail _ (.tail _ (.tail _ m0))))))))))))
  rcases List.mem_cons.mp hy with rfl | hy
  · exact (.tail _ (.tail _ (.tail _ (.tail _ (.tail _ (.tail _ (.tail _ (.head _))))))))
  rcases List.mem_cons.mp hy with rfl | hy
  · exact (.tail _ (.tail _ (.tail _ (.tail _ (.tail _ (.tail _ (.tail _ (.tail _ (.head _)))))))))
  rcases List.mem_cons.mp hy with rfl | hy
  · exact (.tail _ (.tail _ (.tail _ (.tail _ (.tail _ (.tail _ (.tail _ (.tail _ (.tail _ (.head _))))))))))
  rcases List.mem_cons.mp hy with rfl | hy
  · exact (.tail _ (.tail _ (.tail _ (.tail _ (.tail _ (.tail _ (.tail _ (.tail _ (.tail _ (.tail _ (.head _)))))))))))
  rcases List.mem_cons.mp hy with rfl | hy
  · exact (.tail _ (.tail _ (.tail _ (.tail _ (.tail _ (.tail _ (.tail _ (.tail _ (.tail _ (.tail _ (.tail _ (.head _))))))))))))
  exact absurd hy (List.not_mem_nil)
theorem take_on {w : World} {mean : ExcName → Option Value} {mg mb : Str → Option Value} {dp un : Nat} {gd : Option (List Code)} {cn : Str} {cs : Scope} {a : Addr} {ccd : Value} {cl : List (Str × Addr)} {outer : List Env} {A₀ : Around} {base h₀ : Heap} {L : Addr} {m : Str → Option Value} {s : Shared} {Q E : Value → Shared → Prop} {wk src : Nat} {x y top p q : Int} {tx ty tt : Tok} {n : Nat} {X O : List (Addr × Obj)}
    (hB : Below A₀ base outer h₀) (hF : Fr h₀ L s.heap m) (hK : (hd.heap_39 w.params).In h₀) (hN : News h₀ L s.heap ((src, listOf [.int x tx, .int y ty].toArray n) :: O)) (hW : WLed w wk src p q X O) (hT : Top hd.view_39 (looseW hd.view_39 [Str.ofString "HintWork"]) mean mg mb h₀) (hk : cs.kind = .function)
    (hd1 : dp + 1 < recursionLimit) (ht : 0 < top) (ht2 : top ≤ 1000) (hx : 0 ≤ x) (hy : 0 ≤ y) (hy2 : y < 2147483648)
    (hret : ∀ (r : Int) (tr : Tok) (x' y' : Int) (tx' ty' : Tok) (n' : Nat) (h' : Heap) (tk' : Nat), 0 ≤ r → r < top → 0 ≤ x' → 0 ≤ y' → y' < 2147483648 → Fr h₀ L h' m → News h₀ L h' ((src, listOf [.int x' tx', .int y' ty'].toArray n') :: O) → Q (.int r tr) { s with heap := h', toks := tk' }) :
    wpAny (model PySem.Challenge.rw_xm0721_01.row.prog w) (ktrTop dp un gd cn cs L a ccd cl outer) (call (.ref 286) [.ref src, .int top tt]) Q E s :=
  take_use hB hF hK hN (UpdF.head (hW.off hN)) hT hk hd1 ht ht2 hx hy hy2 fun r tr x' y' tx' ty' n' h' tk' b1 b2 b3 b4 b5 b6 F' N' => hret r tr x' y' tx' ty' n' h' tk' b1 b2 b3 b5 b6 F' N'
theorem one_on {w : World} {mean : ExcName → Option Value} {mg mb : Str → Option Value} {dp un : Nat} {gd : Option (List Code)} {cn : Str} {cs : Scope} {a : Addr} {ccd : Value} {cl : List (Str × Addr)} {outer : List Env} {A₀ : Around} {base h₀ : Heap} {L : Addr} {m : Str → Option Value} {s : Shared} {Q E : Value → Shared → Prop} {wk src tl : Nat} {x y p q a0 a1 a2 a3 a4 a5 a6 a7 a8 : Int} {tx ty q0 q1 q2 q3 q4 q5 q6 q7 q8 : Tok} {n c : Nat} {X O : List (Addr × Obj)}
    (hB : Below A₀ base outer h₀) (hF : Fr h₀ L s.heap m) (hK : (hd.heap_39 w.params).In h₀) (hN : News h₀ L s.heap ((tl, listOf [.int a0 q0, .int a1 q1, .int a2 q2, .int a3 q3, .int a4 q4, .int a5 q5, .int a6 q6, .int a7 q7, .int a8 q8].toArray c) :: (src, listOf [.int x tx, .int y ty].toArray n) :: O)) (hW : WLed w wk src p q X O) (hT : Top hd.view_39 (looseW hd.view_39 [Str.ofString "HintWork"]) mean mg mb h₀) (hk : cs.kind = .function)
    (hd1 : dp + 4 < recursionLimit) (hu : un + 100 < cLine) (hne : src < tl) (hx : 0 ≤ x) (hy : 0 ≤ y) (hy2 : y < 2147483648)
    (hret : ∀ (r : Int) (tr : Tok) (x' y' : Int) (tx' ty' : Tok) (n' : Nat) (h' : Heap) (tk' : Nat), (Among9 r a0 a1 a2 a3 a4 a5 a6 a7 a8) → 0 ≤ x' → 0 ≤ y' → y' < 2147483648 → Fr h₀ L h' m → News h₀ L h' ((src, listOf [.int x' tx', .int y' ty'].toArray n') :: O) → Q (.int r tr) { s with heap := h', toks := tk' }) :
    wpAny (model PySem.Challenge.rw_xm0721_01.row.prog w) (ktrTop dp un gd cn cs L a ccd cl outer) (call (.ref 293) [.ref src, .ref tl]) Q E s :=
  one_use hB hF hK hN hT hk hd1 hu (UpdF.tail (Nat.ne_of_gt hne) (UpdF.head (hW.off (fun z hz => hN z (.tail _ hz))))) (.head _) (Nat.ne_of_gt hne) hx hy hy2 fun r tr x' y' tx' ty' n' h' tk' b1 b2 b3 b4 F' N' => hret r tr x' y' tx' ty' n' h' tk' b1 b2 b3 b4 F' fun z hz => N' z (.tail _ hz)
def TurnEnd9 (h₀ : Heap) (L : Addr) (x : Str) (stored : List Str) (m₀ : Str → Option Value) (w : World) (wk src : Nat) (p q : Int) (X : List (Addr × Obj)) (s₁ s₂ : Shared) : Prop :=
  ∃ (h' : Heap) (tk : Nat) (m' : Str → Option Value) (a b : Int) (ta tb : Tok) (n : Nat) (O : List (Addr × Obj)), s₂ = { s₁ with heap := h', toks := tk } ∧ 0 ≤ a ∧ 0 ≤ b ∧ b < 2147483648 ∧ Fr h₀ L h' m' ∧ News h₀ L h' ((src, listOf [.int a ta, .int b tb].toArray n) :: O) ∧ WLed w wk src p q X O ∧ ∀ y, y ≠ x → stored.contains y = false → m' y = m₀ y
def TurnPost9 (h₀ : Heap) (L : Addr) (x : Str) (stored : List Str) (m₀ : Str → Option Value) (w : World) (wk src : Nat) (p q : Int) (X : List (Addr × Obj)) (s₁ : Shared) (Q : Flow → Shared → Prop) (f : Flow) (s₂ : Shared) : Prop :=
  match f with
  | .ret v => Q (.ret v) s₂
  | .brk => Q .next s₂
  | _ => TurnEnd9 h₀ L x stored m₀ w wk src p q X s₁ s₂
theorem TurnEnd9.intro {h₀ : Heap} {L : Addr} {x : Str} {stored : List Str} {m₀ m' : Str → Option Value} {w : World} {wk src : Nat} {p q : Int} {X : List (Addr × Obj)} {s₁ : Shared} {h' : Heap} {tk : Nat} {a b : Int} {ta tb : Tok} {n : Nat} {O : List (Addr × Obj)}
    (F : Fr h₀ L h' m') (N : News h₀ L h' ((src, listOf [.int a ta, .int b tb].toArray n) :: O)) (W : WLed w wk src p q X O) (ha : 0 ≤ a) (hb : 0 ≤ b) (hb2 : b < 2147483648) (hm : ∀ y, y ≠ x → stored.contains y = false → m' y = m₀ y) :
    TurnEnd9 h₀ L x stored m₀ w wk src p q X s₁ { s₁ with heap := h', toks := tk } := ⟨h', tk, m', a, b, ta, tb, n, O, rfl, ha, hb, hb2, F, N, W, hm⟩
theorem wkLed_cls {w : World} {sc dW wk dS st fr pr du dR ro dK sk nl : Nat} {zo cv so : Addr} {p q x0 x1 x2 x3 x4 x5 : Int} {T : Nat → Tok} {c : Nat} : ∀ b ∈ wkLed w sc dW wk dS st fr pr du dR ro dK sk nl zo cv so p q x0 x1 x2 x3 x4 x5 T c, b.2.cls ≠ .type "range_iterator" := by
  intro b hb
  have h : b.2.cls ∈ (wkLed w sc dW wk dS st fr pr du dR ro dK sk nl zo cv so p q x0 x1 x2 x3 x4 x5 T c).map (fun z => z.2.cls) := List.mem_map_of_mem hb (f := fun z => z.2.cls)
  simp only [wkLed, List.map_cons, List.map_nil, List.mem_cons, List.not_mem_nil, or_false] at h
  rcases h with h | h | h | h | h | h | h | h | h | h | h | h | h <;> (rw [h]; intro e; first | exact absurd (Value.type.inj e) (by decide) | cases e)
section
variable {prog : Program} {w : World} {A : Around} {E : Value → Shared → Prop} {s : Shared} {env : Env} {h₀ : Heap} {x : Str} {body : List Stmt} {Q : Flow → Shared → Prop}
def Turn9 (prog : Program) (w : World) (A : Around) (E : Value → Shared → Prop) (s : Shared) (env : Env) (h₀ : Heap) (x : Str) (body : List Stmt) (Q : Flow → Shared → Prop) (stored : List Str) (m₀ : Str → Option Value) (wk src : Nat) (p q : Int) : Prop :=
  ∀ k t (u : Str → Option Value) h tk a b ta tb n O X, 0 ≤ a → 0 ≤ b → b < 2147483648 → WLed w wk src p q X O → Fr h₀ env.locals h (fun y => if y = x then some (.int k t) else if stored.contains y then u y else m₀ y) → News h₀ env.locals h ((src, listOf [.int a ta, .int b tb].toArray n) :: O) →
      wpAny (model prog w) A (execs body env) (TurnPost9 h₀ env.locals x stored m₀ w wk src p q X { s with heap := h, toks := tk } Q) E { s with heap := h, toks := tk }
theorem rest9 {stored : List Str} {m₀ : Str → Option Value} {wk src : Nat} {p q : Int} {I : Addr} {lo : Int} {tot : Nat}
    (turn : Turn9 prog w A E s env h₀ x body Q stored m₀ wk src p q)
    (done : ∀ (u : Str → Option Value) h tk a b ta tb n O, 0 ≤ a → 0 ≤ b → b < 2147483648 → WLed w wk src p q [] O → Fr h₀ env.locals h (fun y => if y = x then u y else if stored.contains y then u y else m₀ y) → News h₀ env.locals h ((src, listOf [.int a ta, .int b tb].toArray n) :: O) → Q .next { s with heap := h, toks := tk }) :
    ∀ (k i : Nat) (m : Str → Option Value) (a b : Int) (ta tb : Tok) (n : Nat) (O : List (Addr × Obj)), 0 ≤ a → 0 ≤ b → b < 2147483648 → WLed w wk src p q [] O → (∀ y, y ≠ x → stored.contains y = false → m y = m₀ y) →
      RangeRest prog w A E h₀ env x body Q s I lo tot k i m ((src, listOf [.int a ta, .int b tb].toArray n) :: O) := by
  intro k
  induction k with
  | zero =>
    intro i m a b ta tb n O ha hb hb2 hW hm
    refine RangeRest.zero fun h tk F N => done m h tk a b ta tb n O ha hb hb2 hW ?_ N
    have e : (fun y => if y = x then m y else if stored.contains y then m y else m₀ y) = m := by
      funext y
      by_cases h1 : y = x
      · simp [h1]
      · simp only [if_neg h1]
        cases h2 : stored.contains y with
        | true => simp
        | false => simp only [Bool.false_eq_true, if_false]; exact (hm y h1 h2).symm
    rw [e]; exact F
  | succ k ih =>
    intro i m a b ta tb n O ha hb hb2 hW hm
    refine RangeRest.succ fun t h tk F N => ?_
    have e : (fun y => if y = x then some (.int (lo + (i : Int)) t) else m y) = fun y => if y = x then some (.int (lo + (i : Int)) t) else if stored.contains y then m y else m₀ y := by
      funext y
      by_cases h1 : y = x
      · simp [h1]
      · simp only [if_neg h1]
        cases h2 : stored.contains y with
        | true => simp
        | false => simp only [Bool.false_eq_true, if_false]; exact hm y h1 h2
    rw [e] at F
    obtain ⟨sc, dW, dS, st, fr, pr, du, dR, ro, dK, sk, nl, zo, cv, so, x0, x1, x2, x3, x4, x5, T, c, ho, _, rfl⟩ := hW
    have hW' : WLed w wk src p q [(I, itR (lo + ((i + 1 : Nat) : Int)) ((tot : Int) - ((i + 1 : Nat) : Int)))] (wkLed w sc dW wk dS st fr pr du dR ro dK sk nl zo cv so p q x0 x1 x2 x3 x4 x5 T c ++ [(I, itR (lo + ((i + 1 : Nat) : Int)) ((tot : Int) - ((i + 1 : Nat) : Int)))]) :=
      ⟨sc, dW, dS, st, fr, pr, du, dR, ro, dK, sk, nl, zo, cv, so, x0, x1, x2, x3, x4, x5, T, c, ho, (fun b hb => by rw [List.mem_singleton.mp hb]; rfl), rfl⟩
    refine wpAny_mono (turn _ t m h tk a b ta tb n _ _ ha hb hb2 hW' F (fun z hz => ?_)) (fun f s₂ pf => ?_) fun _ _ e => e
    · rcases List.mem_cons.mp hz with rfl | hz
      · exact N _ (.tail _ (.head _))
      · rcases List.mem_append.mp hz with hz | hz
        · exact N _ (.tail _ (.tail _ (List.mem_append_left _ hz)))
        · rw [List.mem_singleton.mp hz]; exact N _ (.head _)
    · have fin : TurnEnd9 h₀ env.locals x stored m₀ w wk src p q [(I, itR (lo + ((i + 1 : Nat) : Int)) ((tot : Int) - ((i + 1 : Nat) : Int)))] { s with heap := h, toks := tk } s₂ →
          UnrEnd h₀ env.locals { s with heap := h, toks := tk } I (itR (lo + ((i + 1 : Nat) : Int)) ((tot : Int) - ((i + 1 : Nat) : Int))) (RangeRest prog w A E h₀ env x body Q s I lo tot k (i + 1)) s₂ := by
        rintro ⟨h', tk', m', a', b', ta', tb', n', O', e', ha', hb', hb2', F', N', ⟨sc', dW', dS', st', fr', pr', du', dR', ro', dK', sk', nl', zo', cv', so', x0', x1', x2', x3', x4', x5', T', c', ho', _, rfl⟩, hm'⟩
        refine ⟨h', tk', m', (src, listOf [.int a' ta', .int b' tb'].toArray n') :: (wkLed w sc' dW' wk dS' st' fr' pr' du' dR' ro' dK' sk' nl' zo' cv' so' p q x0' x1' x2' x3' x4' x5' T' c' ++ []), e', F', fun z hz => ?_, fun z hz => ?_, ih (i + 1) m' a' b' ta' tb' n' _ ha' hb' hb2' ⟨sc', dW', dS', st', fr', pr', du', dR', ro', dK', sk', nl', zo', cv', so', x0', x1', x2', x3', x4', x5', T', c', ho', (fun _ h => nomatch h), rfl⟩ hm'⟩
        · rcases List.mem_cons.mp hz with rfl | hz
          · exact N' _ (.tail _ (List.mem_append_right _ (.head _)))
          · rcases List.mem_cons.mp hz with rfl | hz
            · exact N' _ (.head _)
            · rw [List.append_nil] at hz
              exact N' _ (.tail _ (List.mem_append_left _ hz))
        · rcases List.mem_cons.mp hz with rfl | hz
          · exact ne_cls N' (.head _) (.tail _ (List.mem_append_right _ (.head _))) (fun e => absurd (Value.type.inj e) (by decide))
          · rw [List.append_nil] at hz
            exact ne_cls N' (.tail _ (List.mem_append_left _ hz)) (.tail _ (List.mem_append_right _ (.head _))) (wkLed_cls z hz)
      cases f with
      | ret v => exact pf
      | brk => exact pf
      | next => exact fin pf
      | cont => exact fin pf
theorem turns_on {stored : List Str} {m₀ : Str → Option Value} {wk src : Nat} {p q : Int} {r : Addr} {a₀ b₀ : Int} {t₀ u₀ v₀ : Tok} {tot : Nat} {a b : Int} {ta tb : Tok} {n : Nat} {O : List (Addr × Obj)}
    (hh : A.handled = none) (hr : IsRange s.heap r a₀ b₀ 1 t₀ u₀ v₀) (hsmall : Builtin.Range.small a₀ b₀ 1 = true) (hn : Builtin.Range.rangeSize a₀ b₀ 1 = (tot : Int)) (F : Fr h₀ env.locals s.heap m₀) (N : News h₀ env.locals s.heap ((src, listOf [.int a ta, .int b tb].toArray n) :: O)) (hW : WLed w wk src p q [] O) (ha : 0 ≤ a) (hb : 0 ≤ b) (hb2 : b < 2147483648)
    (turn : ∀ k t (u : Str → Option Value) h tk a b ta tb n O X, 0 ≤ a → 0 ≤ b → b < 2147483648 → WLed w wk src p q X O → Fr h₀ env.locals h (fun y => if y = x then some (.int k t) else if stored.contains y then u y else m₀ y) → News h₀ env.locals h ((src, listOf [.int a ta, .int b tb].toArray n) :: O) →
      wpAny (model prog w) A (execs body env) (TurnPost9 h₀ env.locals x stored m₀ w wk src p q X { s with heap := h, toks := tk } Q) E { s with heap := h, toks := tk })
    (done : ∀ (u : Str → Option Value) h tk a b ta tb n O, 0 ≤ a → 0 ≤ b → b < 2147483648 → WLed w wk src p q [] O → Fr h₀ env.locals h (fun y => if y = x then u y else if stored.contains y then u y else m₀ y) → News h₀ env.locals h ((src, listOf [.int a ta, .int b tb].toArray n) :: O) → Q .next { s with heap := h, toks := tk }) :
    wpAny (model prog w) A (pyIter (.ref r)) (fun it s₂ => LoopAtV prog w A h₀ env x body Q E it s₂) E s :=
  iter_rangeUnr hh hr hsmall hn F N fun _ _ => rest9 turn done tot 0 m₀ a b ta tb n O ha hb hb2 hW fun _ _ _ => rfl
end
theorem among_n {n k : Int} (h : Among9 n 0 6 7 (-1) 5 (-3) 2147483647 (-2147483648) k) (h0 : -200 ≤ k) (h1 : k ≤ 200) : -2147483648 ≤ n ∧ n ≤ 2147483647 := by
  unfold Among9 at h
  omega
theorem among_c {n : Int} (h : Among9 n 26 29 30 31 31 94 95 95 0) : n = 26 ∨ n = 29 ∨ n = 30 ∨ n = 31 ∨ n = 94 ∨ n = 95 ∨ n = 0 := by
  rcases h with h | h | h | h | h | h | h | h | h
  · exact .inl h
  · exact .inr (.inl h)
  · exact .inr (.inr (.inl h))
  · exact .inr (.inr (.inr (.inl h)))
  · exact .inr (.inr (.inr (.inl h)))
  · exact .inr (.inr (.inr (.inr (.inl h))))
  · exact .inr (.inr (.inr (.inr (.inr (.inl h)))))
  · exact .inr (.inr (.inr (.inr (.inr (.inl h)))))
  · exact .inr (.inr (.inr (.inr (.inr (.inr h)))))
local macro_rules | `(tactic| walk_at "call ref") => `(tactic| (
  k_here
  (with_reducible show wpAny _ _ (call (Value.ref 286) _) _ _ _)
  k_dflt (refine' take_on ?k1 ?k2 ?k3 ?k4 ?w0 ?k5 ?k6 ?k8 ?o9 ?o10 ?o11 ?o12 ?o13 ?_; (case k1 => k_asm); (case k2 => k_asm); (case k3 => k_asm); (case k4 => k_asm); (case w0 => assumption); (case k5 => k_asm); (case k6 => first | exact rfl | assumption); (case k8 => ((try simp only [depth_mark, depth_under_make, depth_under_kw, depth_in1, depth_deeper, depth_caller]); decide)); (case o9 => omega); (case o10 => omega); (case o11 => omega); (case o12 => omega); (case o13 => omega); k_whole)
  intro r' tr' x' y' tx' ty' n' h' tk' a1 a2 a3 a5 a6 F' N'
  (try dsimp only)))
local macro_rules | `(tactic| walk_at "call ref") => `(tactic| (
  k_here
  (with_reducible show wpAny _ _ (call (Value.ref 279) _) _ _ _)
  k_dflt (refine' pool_spec ?k1 ?k2 ?k3 ?k4 ?k5 ?k6 ?k7 ?k8 ?k9 ?k10 ?_; (case k1 => k_asm); (case k2 => k_asm); (case k3 => k_asm); (case k4 => k_asm); (case k5 => k_asm); (case k6 => first | exact rfl | assumption); (case k7 => ((try simp only [depth_mark, depth_under_make, depth_under_kw, depth_in1, depth_deeper, depth_caller]); decide)); (case k8 => k_asm); (case k9 => k_asm); (case k10 => omega); k_whole)
  intro src' x' y' tx' ty' n' h' tk' a1 a2 a3 l1 F' N'
  (try k_lt l1)
  (try dsimp only)))
local macro_rules | `(tactic| walk_at "call ref") => `(tactic| (
  k_here
  (with_reducible show wpAny _ _ (call (Value.ref 293) _) _ _ _)
  k_dflt (refine' one_scale ?k1 ?k2 ?k3 ?k4 ?k5 ?k6 ?k7 ?k8 ?k9 ?k10 ?k11 ?k12 ?k13 ?k14 ?k15 ?k16 ?_; (case k1 => k_asm); (case k2 => k_asm); (case k3 => k_asm); (case k4 => k_asm); (case k5 => k_asm); (case k6 => first | exact rfl | assumption); (case k7 => omega); (case k8 => omega); (case k9 => omega); (case k10 => omega); (case k11 => omega); (case k12 => omega); (case k13 => ((try simp only [depth_mark, depth_under_make, depth_under_kw, depth_in1, depth_deeper, depth_caller]); decide)); (case k14 => omega); (case k15 => omega); (case k16 => omega); k_whole)
  intro sc' p' q' tp' tq' x' y' tx' ty' n' h' tk' a1 l1 a4 a5 a6 F' N'
  (try dsimp only)))
local macro_rules | `(tactic| walk_at "call ref") => `(tactic| (
  k_here
  (with_reducible show wpAny _ _ (call (Value.ref 293) _) _ _ _)
  k_dflt (refine' one_on ?k1 ?k2 ?k3 ?k4 ?w0 ?k5 ?k6 ?k7 ?k8 ?o1 ?o2 ?o3 ?o4 ?_; (case k1 => k_asm); (case k2 => k_asm); (case k3 => k_asm); (case k4 => k_asm); (case w0 => assumption); (case k5 => k_asm); (case k6 => first | exact rfl | assumption); (case k7 => ((try simp only [depth_mark, depth_under_make, depth_under_kw, depth_in1, depth_deeper, depth_caller]); decide)); (case k8 => ((try simp only [units_in1, units_deeper, Around.mark_units, units_under_make, units_caller]); decide)); (case o1 => first | assumption | omega); (case o2 => omega); (case o3 => omega); (case o4 => omega); k_whole)
  intro r' tr' x' y' tx' ty' n' h' tk' a1 a4 a5 a6 F' N'
  (try dsimp only)))
local macro_rules | `(tactic| walk_at "call ref") => `(tactic| (
  k_here
  (with_reducible show wpAny _ _ (call (Value.ref 268) _) _ _ _)
  k_dflt (refine' work_on ?k1 ?k2 ?k3 ?k4 ?k5 ?k6 ?k7 ?k8 ?m0 ?m1 ?o1 ?_; (case k1 => k_asm); (case k2 => k_asm); (case k3 => k_asm); (case k4 => k_asm); (case k5 => k_asm); (case k6 => first | exact rfl | assumption); (case k7 => ((try simp only [depth_mark, depth_under_make, depth_under_kw, depth_in1, depth_deeper, depth_caller]); decide)); (case k8 => ((try simp only [units_in1, units_deeper, Around.mark_units, units_under_make, units_caller]); decide)); (case m0 => k_mem); (case m1 => k_mem); (case o1 => first | assumption | omega); k_whole)
  intro wk' O' h' tk' W' F' N'
  (try dsimp only)))
local macro_rules | `(tactic| walk_at "call ref") => `(tactic| (
  k_here
  (with_reducible show wpAny _ _ (call (Value.ref 321) _) _ _ _)
  k_dflt (refine' refused_on ?k1 ?k2 ?k3 ?k4 ?k5 ?k6 ?k7 ?k8 ?w0 ?k9 ?k10 ?_; (case k1 => k_asm); (case k2 => k_asm); (case k3 => k_asm); (case k4 => k_asm); (case k5 => k_asm); (case k6 => first | exact rfl | assumption); (case k7 => ((try simp only [depth_mark, depth_under_make, depth_under_kw, depth_in1, depth_deeper, depth_caller]); decide)); (case k8 => ((try simp only [units_in1, units_deeper, Around.mark_units, units_under_make, units_caller]); decide)); (case w0 => assumption); (case k9 => k_asm); (case k10 => k_asm); k_whole)
  intro h' tk' F' N'
  (try dsimp only)))
local macro_rules | `(tactic| walk_at "call ref") => `(tactic| (
  k_here
  (with_reducible show wpAny _ _ (call (Value.ref 314) _) _ _ _)
  k_dflt (refine' deed_on ?k1 ?k2 ?k3 ?k4 ?k5 ?k6 ?k7 ?k8 ?w0 ?s0 ?k10 ?k11 ?o12 ?o13 ?o14 ?_; (case k1 => k_asm); (case k2 => k_asm); (case k3 => k_asm); (case k4 => k_asm); (case k5 => k_asm); (case k6 => first | exact rfl | assumption); (case k7 => ((try simp only [depth_mark, depth_under_make, depth_under_kw, depth_in1, depth_deeper, depth_caller]); decide)); (case k8 => ((try simp only [units_in1, units_deeper, Around.mark_units, units_under_make, units_caller]); decide)); (case w0 => assumption); (case s0 => assumption); (case k10 => k_asm); (case k11 => k_asm); (case o12 => first | omega | exact (among_n (by assumption) (by omega) (by omega)).1); (case o13 => first | omega | exact (among_n (by assumption) (by omega) (by omega)).2); (case o14 => first | exact among_c (by assumption) | omega); k_whole)
  intro O' h' tk' W' F' N'
  (try dsimp only)))
local macro_rules | `(tactic| walk_at "pyIter ref") => `(tactic| (
  (with_reducible show wpAny _ _ (pyIter (Value.ref _)) (fun it s₂ => LoopAtV _ _ _ _ _ _ _ _ _ it s₂) _ _)
  l_hasStore
  (rename Fr _ _ _ _ => lF'); (rename News _ _ _ _ => lN'); (rename IsRange _ _ _ _ _ _ _ _ => rgX); (rename WLed _ _ _ _ _ _ _ => lW')
  (with_unfolding_all refine' turns_on (stored := [Str.ofString "number"]) (tot := 7) (by rfl) rgX (by first | decide | rfl) (by first | decide | rfl) lF' lN' lW' (by assumption) (by assumption) (by assumption) ?turn ?done)
  (case' turn => (clear lF' lN' rgX lW'; intro k' t' u' h' tk' a' b' ta' tb' n' O' X' a1 a2 a3 W' F' N'))
  (case' done => (clear lF' lN' rgX lW'; intro u' h' tk' a' b' ta' tb' n' O' a1 a2 a3 W' F' N'))))
local macro_rules | `(tactic| walk_at "TurnPost9") => `(tactic| (dsimp only [TurnPost9]))
local macro_rules | `(tactic| walk_at "TurnEnd9") => `(tactic| (refine TurnEnd9.intro (by assumption) (by assumption) (by assumption) (by assumption) (by assumption) (by assumption) (by first | k_same | ktm_same)))
local macro_rules | `(tactic| k_qdec) => `(tactic| decide +kernel)
theorem M3 : PySem.Challenge.rw_xm0721_01.Holds := by
  w_on
  refine holds_law (by kernel_rfl) fun said => ?_
  refine holds_open (q := hd.view_39) (loose := [Str.ofString "HintWork"]) (Xt := fun s => xlAt hd.view_39 [] s && recOk (RowW.records PySem.Challenge.rw_xm0721_01.row.toRowW) s) (XP := XL hd.view_39 []) (Yf := Hook.obs hd.HH) (Ya := Hook.val hd.HH) (YP := Hook.says hd.HH) (N := 4784) hdl (Hook.of hd.HH) (Hook.keeps hd.HH) (fun s e => xl_of s (Bool.and_eq_true_iff.mp e).1) XL.keeps (by rfl) (by rfl) (by rfl) (fun s e => recFacts_of (Bool.and_eq_true_iff.mp e).2) (by first | rfl | fail "x") (by first | assumption | decide +kernel) (by decide +kernel) ⟨rfl, rfl, rfl, rfl, rfl, by decide +kernel⟩ ?hw ?hc
  case hw => w_witness2
  k_go0
  (all_goals try k_fold)
  k_steps
end Mine
theorem PySem.Challenge.cw_xm0721_01_holds : PySem.Challenge.rw_xm0721_01.Holds := by
  exact Mine.M3
