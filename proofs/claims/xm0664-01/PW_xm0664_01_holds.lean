import PyProof.Rows.All
import Wide.All
import OpenK.AllK
import Wide.FinOn
import KE.KLcTest
import Lean
import PySem.Challenge.RW_xm0664_01
open PySem PySem.W PyProof.Rows
set_option Elab.async false
namespace Mine
/-! Kz -/
section
open PySem PySem.W PyProof.Rows
/-! the heap's part that the walk knows: written by a small program of ours (Kg.lean); the bodies stand in the row -/
noncomputable def stK (k : Nat) : Stmt := (PySem.Challenge.pw_xm0664_01.main.body.drop k).headD (.Pass ⟨0, 0, 0, 0⟩)
noncomputable def inK (s : Stmt) (k : Nat) : Stmt := match s with
  | .ClassDef _ _ _ b _ _ _ _ _ _ _ => (b.drop k).headD (.Pass ⟨0, 0, 0, 0⟩)
  | _ => s
noncomputable def fnA (s : Stmt) : Arguments := match s with
  | .FunctionDef _ a _ _ _ _ _ _ _ _ => a
  | _ => ⟨[], [], none, [], [], none, []⟩
noncomputable def fnB (s : Stmt) : List Stmt := match s with
  | .FunctionDef _ _ b _ _ _ _ _ _ _ => b
  | _ => []
noncomputable def fnS (s : Stmt) : Scope := match s with
  | .FunctionDef _ _ _ _ _ _ c _ _ _ => c
  | _ => { kind := .function, names := [], isGenerator := false, isCoroutine := false }
set_option maxRecDepth 100000 in
noncomputable def kz : Params → Frag := fun P =>
  ((nat_lit 2), (@Obj.mk @Value.none none (@Data.dict (List.toArray [⟨PyData.keyHash P (.ofString "type.__subclasses__.Exception.0"), (.str (.ofString "type.__subclasses__.Exception.0") 251), (@Value.int (59 : @Int) 0)⟩, ⟨PyData.keyHash P (.ofString "type.__subclasses__.Exception.n"), (.str (.ofString "type.__subclasses__.Exception.n") 252), (@Value.int (1 : @Int) 0)⟩]) 2) (List.toArray []))) ::
  ((nat_lit 3), (@Obj.mk (@Value.type "dict") none (@Data.dict (List.toArray [⟨PyData.keyHash P (.ofString "__name__"), (.str (.ofString "__name__") 165), (.str (.ofString "law_xm0664_01") 591)⟩, ⟨PyData.keyHash P (.ofString "__doc__"), (.str (.ofString "__doc__") 166), @Value.none⟩, ⟨PyData.keyHash P (.ofString "__package__"), (.str (.ofString "__package__") 167), @Value.none⟩, ⟨PyData.keyHash P (.ofString "__loader__"), (.str (.ofString "__loader__") 168), (@Value.builtin "__main__.__loader__#opaque")⟩, ⟨PyData.keyHash P (.ofString "__spec__"), (.str (.ofString "__spec__") 169), @Value.none⟩, ⟨PyData.keyHash P (.ofString "__annotations__"), (.str (.ofString "__annotations__") 170), (.ref 6)⟩, ⟨PyData.keyHash P (.ofString "__builtins__"), (.str (.ofString "__builtins__") 171), (.ref 4)⟩, ⟨PyData.keyHash P (.ofString "__file__"), (.str (.ofString "__file__") 173), (.str (.ofString "/claim/cut.py") 172)⟩, ⟨PyData.keyHash P (.ofString "__cached__"), (.str (.ofString "__cached__") 174), @Value.none⟩, ⟨PyData.keyHash P (.ofString "_wall"), (.str (.ofString "_wall") 193), (.ref 21)⟩, ⟨PyData.keyHash P (.ofString "is_beside"), (.str (.ofString "is_beside") 203), (.ref 28)⟩, ⟨PyData.keyHash P (.ofString "siblings_ahead"), (.str (.ofString "siblings_ahead") 213), (.ref 35)⟩, ⟨PyData.keyHash P (.ofString "siblings_behind"), (.str (.ofString "siblings_behind") 223), (.ref 42)⟩, ⟨PyData.keyHash P (.ofString "MarkupError"), (.str (.ofString "MarkupError") 254), (.ref 59)⟩, ⟨PyData.keyHash P (.ofString "TreeFault"), (.str (.ofString "TreeFault") 270), (.ref 72)⟩, ⟨PyData.keyHash P (.ofString "list_above"), (.str (.ofString "list_above") 282), (.ref 81)⟩, ⟨PyData.keyHash P (.ofString "remove"), (.str (.ofString "remove") 290), (.ref 88)⟩, ⟨PyData.keyHash P (.ofString "PARENTS"), (.str (.ofString "PARENTS") 295), (.ref 89)⟩, ⟨PyData.keyHash P (.ofString "NodeRow"), (.str (.ofString "NodeRow") 337), (.ref 106)⟩, ⟨PyData.keyHash P (.ofString "Tree"), (.str (.ofString "Tree") 590), (.ref 295)⟩, ⟨PyData.keyHash P (.ofString "_law_pool"), (.str (.ofString "_law_pool") 601), (.ref 306)⟩, ⟨PyData.keyHash P (.ofString "_law_take"), (.str (.ofString "_law_take") 610), (.ref 313)⟩, ⟨PyData.keyHash P (.ofString "_law_one"), (.str (.ofString "_law_one") 618), (.ref 320)⟩, ⟨PyData.keyHash P (.ofString "_law_grown"), (.str (.ofString "_law_grown") 638), (.ref 327)⟩, ⟨PyData.keyHash P (.ofString "_law_loosened"), (.str (.ofString "_law_loosened") 644), (.ref 332)⟩, ⟨PyData.keyHash P (.ofString "_law_is_child"), (.str (.ofString "_law_is_child") 652), (.ref 339)⟩, ⟨PyData.keyHash P (.ofString "_law_is_refused"), (.str (.ofString "_law_is_refused") 661), (.ref 346)⟩, ⟨PyData.keyHash P (.ofString "law"), (.str (.ofString "law") 667), (.ref 351)⟩]) 28) (List.toArray []))) ::
  ((nat_lit 15), (@Obj.mk (@Value.type "tuple") none (@Data.seq (List.toArray []) 0) (List.toArray []))) ::
  ((nat_lit 17), (@Obj.mk (@Value.type "tuple") none (@Data.seq (List.toArray [(.str (.ofString "k") 190)]) 0) (List.toArray []))) ::
  ((nat_lit 18), (@Obj.mk (@Value.type "tuple") none (@Data.seq (List.toArray []) 0) (List.toArray []))) ::
  ((nat_lit 20), (@Obj.mk (@Value.type "code") none (@Data.fields (List.toArray [(.str (.ofString "_wall") 187), (.str (.ofString "_wall") 188), (.str (.ofString "/claim/cut.py") 189), (@Value.int (1 : @Int) 0), (@Value.int (1 : @Int) 0), (@Value.int (0 : @Int) 0), (@Value.int (0 : @Int) 0), (@Value.int (3 : @Int) 0), (.ref 15), (@Value.bool @Bool.true), (@Value.int (181 : @Int) 0), (.ref 16), @Value.none, (.ref 17), (.ref 18), (.ref 19), (@Value.int (191 : @Int) 0), (@Value.int (1 : @Int) 0), (.str (.ofString "/claim/cut.py") 192)])) (List.toArray []))) ::
  ((nat_lit 21), @Obj.mk (@Value.type "function") none (@Data.func (@FuncData.mk (.ofString "_wall") (.ofString "_wall") (fnA (stK 0)) (@FuncBody.stmts (fnB (stK 0))) (fnS (stK 0)) 3 [] @Value.none @Value.none @Value.none (.str (.ofString "__main__") 164) none (.ref 20) @Value.none 0)) (List.toArray [])) ::
  ((nat_lit 22), (@Obj.mk (@Value.type "tuple") none (@Data.seq (List.toArray []) 0) (List.toArray []))) ::
  ((nat_lit 24), (@Obj.mk (@Value.type "tuple") none (@Data.seq (List.toArray [(.str (.ofString "tree") 199), (.str (.ofString "node") 200)]) 0) (List.toArray []))) ::
  ((nat_lit 25), (@Obj.mk (@Value.type "tuple") none (@Data.seq (List.toArray []) 0) (List.toArray []))) ::
  ((nat_lit 27), (@Obj.mk (@Value.type "code") none (@Data.fields (List.toArray [(.str (.ofString "is_beside") 196), (.str (.ofString "is_beside") 197), (.str (.ofString "/claim/cut.py") 198), (@Value.int (5 : @Int) 0), (@Value.int (2 : @Int) 0), (@Value.int (0 : @Int) 0), (@Value.int (0 : @Int) 0), (@Value.int (3 : @Int) 0), (.ref 22), (@Value.bool @Bool.true), (@Value.int (181 : @Int) 0), (.ref 23), @Value.none, (.ref 24), (.ref 25), (.ref 26), (@Value.int (201 : @Int) 0), (@Value.int (5 : @Int) 0), (.str (.ofString "/claim/cut.py") 202)])) (List.toArray []))) ::
  ((nat_lit 28), @Obj.mk (@Value.type "function") none (@Data.func (@FuncData.mk (.ofString "is_beside") (.ofString "is_beside") (fnA (stK 2)) (@FuncBody.stmts (fnB (stK 2))) (fnS (stK 2)) 3 [] @Value.none @Value.none @Value.none (.str (.ofString "markupmill.axes") 194) none (.ref 27) @Value.none 0)) (List.toArray [])) ::
  ((nat_lit 29), (@Obj.mk (@Value.type "tuple") none (@Data.seq (List.toArray []) 0) (List.toArray []))) ::
  ((nat_lit 31), (@Obj.mk (@Value.type "tuple") none (@Data.seq (List.toArray [(.str (.ofString "tree") 207), (.str (.ofString "node") 208), (.str (.ofString "parent") 209), (.str (.ofString "around") 210)]) 0) (List.toArray []))) ::
  ((nat_lit 32), (@Obj.mk (@Value.type "tuple") none (@Data.seq (List.toArray []) 0) (List.toArray []))) ::
  ((nat_lit 34), (@Obj.mk (@Value.type "code") none (@Data.fields (List.toArray [(.str (.ofString "siblings_ahead") 204), (.str (.ofString "siblings_ahead") 205), (.str (.ofString "/claim/cut.py") 206), (@Value.int (7 : @Int) 0), (@Value.int (2 : @Int) 0), (@Value.int (0 : @Int) 0), (@Value.int (0 : @Int) 0), (@Value.int (3 : @Int) 0), (.ref 29), (@Value.bool @Bool.true), (@Value.int (181 : @Int) 0), (.ref 30), @Value.none, (.ref 31), (.ref 32), (.ref 33), (@Value.int (211 : @Int) 0), (@Value.int (7 : @Int) 0), (.str (.ofString "/claim/cut.py") 212)])) (List.toArray []))) ::
  ((nat_lit 35), @Obj.mk (@Value.type "function") none (@Data.func (@FuncData.mk (.ofString "siblings_ahead") (.ofString "siblings_ahead") (fnA (stK 3)) (@FuncBody.stmts (fnB (stK 3))) (fnS (stK 3)) 3 [] @Value.none @Value.none @Value.none (.str (.ofString "markupmill.axes") 194) none (.ref 34) @Value.none 0)) (List.toArray [])) ::
  ((nat_lit 36), (@Obj.mk (@Value.type "tuple") none (@Data.seq (List.toArray []) 0) (List.toArray []))) ::
  ((nat_lit 38), (@Obj.mk (@Value.type "tuple") none (@Data.seq (List.toArray [(.str (.ofString "tree") 217), (.str (.ofString "node") 218), (.str (.ofString "parent") 219), (.str (.ofString "around") 220)]) 0) (List.toArray []))) ::
  ((nat_lit 39), (@Obj.mk (@Value.type "tuple") none (@Data.seq (List.toArray []) 0) (List.toArray []))) ::
  ((nat_lit 41), (@Obj.mk (@Value.type "code") none (@Data.fields (List.toArray [(.str (.ofString "siblings_behind") 214), (.str (.ofString "siblings_behind") 215), (.str (.ofString "/claim/cut.py") 216), (@Value.int (13 : @Int) 0), (@Value.int (2 : @Int) 0), (@Value.int (0 : @Int) 0), (@Value.int (0 : @Int) 0), (@Value.int (3 : @Int) 0), (.ref 36), (@Value.bool @Bool.true), (@Value.int (181 : @Int) 0), (.ref 37), @Value.none, (.ref 38), (.ref 39), (.ref 40), (@Value.int (221 : @Int) 0), (@Value.int (13 : @Int) 0), (.str (.ofString "/claim/cut.py") 222)])) (List.toArray []))) ::
  ((nat_lit 42), @Obj.mk (@Value.type "function") none (@Data.func (@FuncData.mk (.ofString "siblings_behind") (.ofString "siblings_behind") (fnA (stK 4)) (@FuncBody.stmts (fnB (stK 4))) (fnS (stK 4)) 3 [] @Value.none @Value.none @Value.none (.str (.ofString "markupmill.axes") 194) none (.ref 41) @Value.none 0)) (List.toArray [])) ::
  ((nat_lit 43), (@Obj.mk (@Value.type "tuple") none (@Data.seq (List.toArray [(@Value.type "Exception")]) 0) (List.toArray []))) ::
  ((nat_lit 50), (@Obj.mk (@Value.type "tuple") none (@Data.seq (List.toArray []) 0) (List.toArray []))) ::
  ((nat_lit 52), (@Obj.mk (@Value.type "tuple") none (@Data.seq (List.toArray [(.str (.ofString "self") 241), (.str (.ofString "message") 242)]) 0) (List.toArray []))) ::
  ((nat_lit 53), (@Obj.mk (@Value.type "tuple") none (@Data.seq (List.toArray []) 0) (List.toArray []))) ::
  ((nat_lit 55), (@Obj.mk (@Value.type "code") none (@Data.fields (List.toArray [(.str (.ofString "__init__") 238), (.str (.ofString "MarkupError.__init__") 239), (.str (.ofString "/claim/cut.py") 240), (@Value.int (22 : @Int) 0), (@Value.int (2 : @Int) 0), (@Value.int (0 : @Int) 0), (@Value.int (0 : @Int) 0), (@Value.int (3 : @Int) 0), (.ref 50), (@Value.bool @Bool.true), (@Value.int (181 : @Int) 0), (.ref 51), @Value.none, (.ref 52), (.ref 53), (.ref 54), (@Value.int (243 : @Int) 0), (@Value.int (22 : @Int) 0), (.str (.ofString "/claim/cut.py") 244)])) (List.toArray []))) ::
  ((nat_lit 56), @Obj.mk (@Value.type "function") none (@Data.func (@FuncData.mk (.ofString "__init__") (.ofString "MarkupError.__init__") (fnA (inK (stK 6) 0)) (@FuncBody.stmts (fnB (inK (stK 6) 0))) (fnS (inK (stK 6) 0)) 3 [] @Value.none @Value.none @Value.none (.str (.ofString "markupmill.errors") 224) none (.ref 55) @Value.none 0)) (List.toArray [])) ::
  ((nat_lit 57), (@Obj.mk (@Value.type "tuple") none (@Data.seq (List.toArray [(.str (.ofString "message") 246)]) 0) (List.toArray []))) ::
  ((nat_lit 58), (@Obj.mk (@Value.type "dict") none (@Data.dict (List.toArray [⟨PyData.keyHash P (.ofString "__module__"), (.str (.ofString "__module__") 233), (.str (.ofString "markupmill.errors") 224)⟩, ⟨PyData.keyHash P (.ofString "__firstlineno__"), (.str (.ofString "__firstlineno__") 237), (@Value.int (20 : @Int) 236)⟩, ⟨PyData.keyHash P (.ofString "__init__"), (.str (.ofString "__init__") 245), (.ref 56)⟩, ⟨PyData.keyHash P (.ofString "__static_attributes__"), (.str (.ofString "__static_attributes__") 247), (.ref 57)⟩, ⟨PyData.keyHash P (.ofString "__weakref__"), (.str (.ofString "__weakref__") 249), (.ref 60)⟩, ⟨PyData.keyHash P (.ofString "__doc__"), (.str (.ofString "__doc__") 250), @Value.none⟩]) 3) (List.toArray []))) ::
  ((nat_lit 59), (@Obj.mk (@Value.type "type") none (@Data.cls (@ClassData.mk (.ofString "MarkupError") [(@Value.type "Exception")] [(.ref 59), (@Value.type "Exception"), (@Value.type "BaseException"), (@Value.type "object")] 58 (.ofString "MarkupError") @Bool.true [] [(.ref 72)] @Bool.false none @Bool.false)) (List.toArray [(some (.ref 43)), none, (some (.str (.ofString "MarkupError") 226)), (some (.str (.ofString "MarkupError") 234)), (some (@Value.builtin "Exception.__new__")), (some (@Value.bool @Bool.true))]))) ::
  ((nat_lit 60), (@Obj.mk (@Value.type "getset_descriptor") none (@Data.fields (List.toArray [(.str (.ofString "__weakref__") 248), (.ref 59), (@Value.builtin "ExceptionGroup.__weakref__"), @Value.none])) (List.toArray []))) ::
  ((nat_lit 63), (@Obj.mk (@Value.type "tuple") none (@Data.seq (List.toArray [(.ref 59)]) 0) (List.toArray []))) ::
  ((nat_lit 70), (@Obj.mk (@Value.type "tuple") none (@Data.seq (List.toArray []) 0) (List.toArray []))) ::
  ((nat_lit 71), (@Obj.mk (@Value.type "dict") none (@Data.dict (List.toArray [⟨PyData.keyHash P (.ofString "__module__"), (.str (.ofString "__module__") 262), (.str (.ofString "markupmill.errors") 224)⟩, ⟨PyData.keyHash P (.ofString "__firstlineno__"), (.str (.ofString "__firstlineno__") 266), (@Value.int (25 : @Int) 265)⟩, ⟨PyData.keyHash P (.ofString "__static_attributes__"), (.str (.ofString "__static_attributes__") 267), (.ref 70)⟩, ⟨PyData.keyHash P (.ofString "__doc__"), (.str (.ofString "__doc__") 268), @Value.none⟩]) 2) (List.toArray []))) ::
  ((nat_lit 72), (@Obj.mk (@Value.type "type") none (@Data.cls (@ClassData.mk (.ofString "TreeFault") [(.ref 59)] [(.ref 72), (.ref 59), (@Value.type "Exception"), (@Value.type "BaseException"), (@Value.type "object")] 71 (.ofString "TreeFault") @Bool.true [] [] @Bool.false none @Bool.false)) (List.toArray [(some (.ref 63)), none, (some (.str (.ofString "TreeFault") 255)), (some (.str (.ofString "TreeFault") 263)), (some (@Value.builtin "Exception.__new__")), (some (@Value.bool @Bool.true))]))) ::
  ((nat_lit 75), (@Obj.mk (@Value.type "tuple") none (@Data.seq (List.toArray []) 0) (List.toArray []))) ::
  ((nat_lit 77), (@Obj.mk (@Value.type "tuple") none (@Data.seq (List.toArray [(.str (.ofString "tree") 276), (.str (.ofString "node") 277), (.str (.ofString "row") 278), (.str (.ofString "kind") 279)]) 0) (List.toArray []))) ::
  ((nat_lit 78), (@Obj.mk (@Value.type "tuple") none (@Data.seq (List.toArray []) 0) (List.toArray []))) ::
  ((nat_lit 80), (@Obj.mk (@Value.type "code") none (@Data.fields (List.toArray [(.str (.ofString "list_above") 273), (.str (.ofString "list_above") 274), (.str (.ofString "/claim/cut.py") 275), (@Value.int (28 : @Int) 0), (@Value.int (2 : @Int) 0), (@Value.int (0 : @Int) 0), (@Value.int (0 : @Int) 0), (@Value.int (3 : @Int) 0), (.ref 75), (@Value.bool @Bool.true), (@Value.int (181 : @Int) 0), (.ref 76), @Value.none, (.ref 77), (.ref 78), (.ref 79), (@Value.int (280 : @Int) 0), (@Value.int (28 : @Int) 0), (.str (.ofString "/claim/cut.py") 281)])) (List.toArray []))) ::
  ((nat_lit 81), @Obj.mk (@Value.type "function") none (@Data.func (@FuncData.mk (.ofString "list_above") (.ofString "list_above") (fnA (stK 9)) (@FuncBody.stmts (fnB (stK 9))) (fnS (stK 9)) 3 [] @Value.none @Value.none @Value.none (.str (.ofString "markupmill.edits") 271) none (.ref 80) @Value.none 0)) (List.toArray [])) ::
  ((nat_lit 82), (@Obj.mk (@Value.type "tuple") none (@Data.seq (List.toArray []) 0) (List.toArray []))) ::
  ((nat_lit 84), (@Obj.mk (@Value.type "tuple") none (@Data.seq (List.toArray [(.str (.ofString "tree") 286), (.str (.ofString "node") 287)]) 0) (List.toArray []))) ::
  ((nat_lit 85), (@Obj.mk (@Value.type "tuple") none (@Data.seq (List.toArray []) 0) (List.toArray []))) ::
  ((nat_lit 87), (@Obj.mk (@Value.type "code") none (@Data.fields (List.toArray [(.str (.ofString "remove") 283), (.str (.ofString "remove") 284), (.str (.ofString "/claim/cut.py") 285), (@Value.int (34 : @Int) 0), (@Value.int (2 : @Int) 0), (@Value.int (0 : @Int) 0), (@Value.int (0 : @Int) 0), (@Value.int (3 : @Int) 0), (.ref 82), (@Value.bool @Bool.true), (@Value.int (181 : @Int) 0), (.ref 83), @Value.none, (.ref 84), (.ref 85), (.ref 86), (@Value.int (288 : @Int) 0), (@Value.int (34 : @Int) 0), (.str (.ofString "/claim/cut.py") 289)])) (List.toArray []))) ::
  ((nat_lit 88), @Obj.mk (@Value.type "function") none (@Data.func (@FuncData.mk (.ofString "remove") (.ofString "remove") (fnA (stK 10)) (@FuncBody.stmts (fnB (stK 10))) (fnS (stK 10)) 3 [] @Value.none @Value.none @Value.none (.str (.ofString "markupmill.edits") 271) none (.ref 87) @Value.none 0)) (List.toArray [])) ::
  ((nat_lit 89), (@Obj.mk (@Value.type "tuple") none (@Data.seq (List.toArray [(.str (.ofString "root") 293), (.str (.ofString "element") 294)]) 0) (List.toArray []))) ::
  ((nat_lit 97), (@Obj.mk (@Value.type "tuple") none (@Data.seq (List.toArray []) 0) (List.toArray []))) ::
  ((nat_lit 99), (@Obj.mk (@Value.type "tuple") none (@Data.seq (List.toArray [(.str (.ofString "self") 311), (.str (.ofString "kind") 312), (.str (.ofString "name") 313), (.str (.ofString "uri") 314), (.str (.ofString "local") 315), (.str (.ofString "value") 316), (.str (.ofString "parent") 317)]) 0) (List.toArray []))) ::
  ((nat_lit 100), (@Obj.mk (@Value.type "tuple") none (@Data.seq (List.toArray []) 0) (List.toArray []))) ::
  ((nat_lit 102), (@Obj.mk (@Value.type "code") none (@Data.fields (List.toArray [(.str (.ofString "__init__") 308), (.str (.ofString "NodeRow.__init__") 309), (.str (.ofString "/claim/cut.py") 310), (@Value.int (43 : @Int) 0), (@Value.int (7 : @Int) 0), (@Value.int (0 : @Int) 0), (@Value.int (0 : @Int) 0), (@Value.int (3 : @Int) 0), (.ref 97), (@Value.bool @Bool.true), (@Value.int (181 : @Int) 0), (.ref 98), @Value.none, (.ref 99), (.ref 100), (.ref 101), (@Value.int (318 : @Int) 0), (@Value.int (43 : @Int) 0), (.str (.ofString "/claim/cut.py") 319)])) (List.toArray []))) ::
  ((nat_lit 103), @Obj.mk (@Value.type "function") none (@Data.func (@FuncData.mk (.ofString "__init__") (.ofString "NodeRow.__init__") (fnA (inK (stK 13) 0)) (@FuncBody.stmts (fnB (inK (stK 13) 0))) (fnS (inK (stK 13) 0)) 3 [] @Value.none @Value.none @Value.none (.str (.ofString "markupmill.tree") 291) none (.ref 102) @Value.none 0)) (List.toArray [])) ::
  ((nat_lit 104), (@Obj.mk (@Value.type "tuple") none (@Data.seq (List.toArray [(.str (.ofString "attributes") 321), (.str (.ofString "children") 322), (.str (.ofString "kind") 323), (.str (.ofString "local") 324), (.str (.ofString "name") 325), (.str (.ofString "namespaces") 326), (.str (.ofString "parent") 327), (.str (.ofString "uri") 328), (.str (.ofString "value") 329)]) 0) (List.toArray []))) ::
  ((nat_lit 105), (@Obj.mk (@Value.type "dict") none (@Data.dict (List.toArray [⟨PyData.keyHash P (.ofString "__module__"), (.str (.ofString "__module__") 303), (.str (.ofString "markupmill.tree") 291)⟩, ⟨PyData.keyHash P (.ofString "__firstlineno__"), (.str (.ofString "__firstlineno__") 307), (@Value.int (41 : @Int) 306)⟩, ⟨PyData.keyHash P (.ofString "__init__"), (.str (.ofString "__init__") 320), (.ref 103)⟩, ⟨PyData.keyHash P (.ofString "__static_attributes__"), (.str (.ofString "__static_attributes__") 330), (.ref 104)⟩, ⟨PyData.keyHash P (.ofString "__dict__"), (.str (.ofString "__dict__") 332), (.ref 107)⟩, ⟨PyData.keyHash P (.ofString "__weakref__"), (.str (.ofString "__weakref__") 334), (.ref 108)⟩, ⟨PyData.keyHash P (.ofString "__doc__"), (.str (.ofString "__doc__") 335), @Value.none⟩]) 4) (List.toArray []))) ::
  ((nat_lit 106), (@Obj.mk (@Value.type "type") none (@Data.cls (@ClassData.mk (.ofString "NodeRow") [(@Value.type "object")] [(.ref 106), (@Value.type "object")] 105 (.ofString "NodeRow") @Bool.true [] [] @Bool.false none @Bool.false)) (List.toArray [none, none, (some (.str (.ofString "NodeRow") 296)), (some (.str (.ofString "NodeRow") 304)), (some (@Value.builtin "object.__new__")), (some (@Value.bool @Bool.true))]))) ::
  ((nat_lit 107), (@Obj.mk (@Value.type "getset_descriptor") none (@Data.fields (List.toArray [(.str (.ofString "__dict__") 331), (.ref 106), (@Value.builtin "function.__dict__"), (@Value.builtin "function.__dict__#set")])) (List.toArray []))) ::
  ((nat_lit 108), (@Obj.mk (@Value.type "getset_descriptor") none (@Data.fields (List.toArray [(.str (.ofString "__weakref__") 333), (.ref 106), (@Value.builtin "ExceptionGroup.__weakref__"), @Value.none])) (List.toArray []))) ::
  ((nat_lit 118), (@Obj.mk (@Value.type "tuple") none (@Data.seq (List.toArray []) 0) (List.toArray []))) ::
  ((nat_lit 120), (@Obj.mk (@Value.type "tuple") none (@Data.seq (List.toArray [(.str (.ofString "self") 353)]) 0) (List.toArray []))) ::
  ((nat_lit 121), (@Obj.mk (@Value.type "tuple") none (@Data.seq (List.toArray []) 0) (List.toArray []))) ::
  ((nat_lit 123), (@Obj.mk (@Value.type "code") none (@Data.fields (List.toArray [(.str (.ofString "__init__") 350), (.str (.ofString "Tree.__init__") 351), (.str (.ofString "/claim/cut.py") 352), (@Value.int (55 : @Int) 0), (@Value.int (1 : @Int) 0), (@Value.int (0 : @Int) 0), (@Value.int (0 : @Int) 0), (@Value.int (3 : @Int) 0), (.ref 118), (@Value.bool @Bool.true), (@Value.int (181 : @Int) 0), (.ref 119), @Value.none, (.ref 120), (.ref 121), (.ref 122), (@Value.int (354 : @Int) 0), (@Value.int (55 : @Int) 0), (.str (.ofString "/claim/cut.py") 355)])) (List.toArray []))) ::
  ((nat_lit 124), @Obj.mk (@Value.type "function") none (@Data.func (@FuncData.mk (.ofString "__init__") (.ofString "Tree.__init__") (fnA (inK (stK 14) 0)) (@FuncBody.stmts (fnB (inK (stK 14) 0))) (fnS (inK (stK 14) 0)) 3 [] @Value.none @Value.none @Value.none (.str (.ofString "markupmill.tree") 291) none (.ref 123) @Value.none 0)) (List.toArray [])) ::
  ((nat_lit 125), (@Obj.mk (@Value.type "tuple") none (@Data.seq (List.toArray []) 0) (List.toArray []))) ::
  ((nat_lit 127), (@Obj.mk (@Value.type "tuple") none (@Data.seq (List.toArray [(.str (.ofString "self") 360), (.str (.ofString "kind") 361), (.str (.ofString "name") 362), (.str (.ofString "uri") 363), (.str (.ofString "local") 364), (.str (.ofString "value") 365), (.str (.ofString "parent") 366)]) 0) (List.toArray []))) ::
  ((nat_lit 128), (@Obj.mk (@Value.type "tuple") none (@Data.seq (List.toArray []) 0) (List.toArray []))) ::
  ((nat_lit 130), (@Obj.mk (@Value.type "code") none (@Data.fields (List.toArray [(.str (.ofString "new_row") 357), (.str (.ofString "Tree.new_row") 358), (.str (.ofString "/claim/cut.py") 359), (@Value.int (58 : @Int) 0), (@Value.int (7 : @Int) 0), (@Value.int (0 : @Int) 0), (@Value.int (0 : @Int) 0), (@Value.int (3 : @Int) 0), (.ref 125), (@Value.bool @Bool.true), (@Value.int (181 : @Int) 0), (.ref 126), @Value.none, (.ref 127), (.ref 128), (.ref 129), (@Value.int (367 : @Int) 0), (@Value.int (58 : @Int) 0), (.str (.ofString "/claim/cut.py") 368)])) (List.toArray []))) ::
  ((nat_lit 131), @Obj.mk (@Value.type "function") none (@Data.func (@FuncData.mk (.ofString "new_row") (.ofString "Tree.new_row") (fnA (inK (stK 14) 1)) (@FuncBody.stmts (fnB (inK (stK 14) 1))) (fnS (inK (stK 14) 1)) 3 [] @Value.none @Value.none @Value.none (.str (.ofString "markupmill.tree") 291) none (.ref 130) @Value.none 0)) (List.toArray [])) ::
  ((nat_lit 132), (@Obj.mk (@Value.type "tuple") none (@Data.seq (List.toArray []) 0) (List.toArray []))) ::
  ((nat_lit 134), (@Obj.mk (@Value.type "tuple") none (@Data.seq (List.toArray [(.str (.ofString "self") 373), (.str (.ofString "node") 374)]) 0) (List.toArray []))) ::
  ((nat_lit 135), (@Obj.mk (@Value.type "tuple") none (@Data.seq (List.toArray []) 0) (List.toArray []))) ::
  ((nat_lit 137), (@Obj.mk (@Value.type "code") none (@Data.fields (List.toArray [(.str (.ofString "row") 370), (.str (.ofString "Tree.row") 371), (.str (.ofString "/claim/cut.py") 372), (@Value.int (62 : @Int) 0), (@Value.int (2 : @Int) 0), (@Value.int (0 : @Int) 0), (@Value.int (0 : @Int) 0), (@Value.int (3 : @Int) 0), (.ref 132), (@Value.bool @Bool.true), (@Value.int (181 : @Int) 0), (.ref 133), @Value.none, (.ref 134), (.ref 135), (.ref 136), (@Value.int (375 : @Int) 0), (@Value.int (62 : @Int) 0), (.str (.ofString "/claim/cut.py") 376)])) (List.toArray []))) ::
  ((nat_lit 138), @Obj.mk (@Value.type "function") none (@Data.func (@FuncData.mk (.ofString "row") (.ofString "Tree.row") (fnA (inK (stK 14) 2)) (@FuncBody.stmts (fnB (inK (stK 14) 2))) (fnS (inK (stK 14) 2)) 3 [] @Value.none @Value.none @Value.none (.str (.ofString "markupmill.tree") 291) none (.ref 137) @Value.none 0)) (List.toArray [])) ::
  ((nat_lit 139), (@Obj.mk (@Value.type "tuple") none (@Data.seq (List.toArray []) 0) (List.toArray []))) ::
  ((nat_lit 141), (@Obj.mk (@Value.type "tuple") none (@Data.seq (List.toArray [(.str (.ofString "self") 381)]) 0) (List.toArray []))) ::
  ((nat_lit 142), (@Obj.mk (@Value.type "tuple") none (@Data.seq (List.toArray []) 0) (List.toArray []))) ::
  ((nat_lit 144), (@Obj.mk (@Value.type "code") none (@Data.fields (List.toArray [(.str (.ofString "new_root") 378), (.str (.ofString "Tree.new_root") 379), (.str (.ofString "/claim/cut.py") 380), (@Value.int (67 : @Int) 0), (@Value.int (1 : @Int) 0), (@Value.int (0 : @Int) 0), (@Value.int (0 : @Int) 0), (@Value.int (3 : @Int) 0), (.ref 139), (@Value.bool @Bool.true), (@Value.int (181 : @Int) 0), (.ref 140), @Value.none, (.ref 141), (.ref 142), (.ref 143), (@Value.int (382 : @Int) 0), (@Value.int (67 : @Int) 0), (.str (.ofString "/claim/cut.py") 383)])) (List.toArray []))) ::
  ((nat_lit 145), @Obj.mk (@Value.type "function") none (@Data.func (@FuncData.mk (.ofString "new_root") (.ofString "Tree.new_root") (fnA (inK (stK 14) 3)) (@FuncBody.stmts (fnB (inK (stK 14) 3))) (fnS (inK (stK 14) 3)) 3 [] @Value.none @Value.none @Value.none (.str (.ofString "markupmill.tree") 291) none (.ref 144) @Value.none 0)) (List.toArray [])) ::
  ((nat_lit 146), (@Obj.mk (@Value.type "tuple") none (@Data.seq (List.toArray []) 0) (List.toArray []))) ::
  ((nat_lit 148), (@Obj.mk (@Value.type "tuple") none (@Data.seq (List.toArray [(.str (.ofString "self") 388), (.str (.ofString "parent") 389), (.str (.ofString "kind") 390), (.str (.ofString "name") 391), (.str (.ofString "uri") 392), (.str (.ofString "local") 393), (.str (.ofString "value") 394), (.str (.ofString "node") 395)]) 0) (List.toArray []))) ::
  ((nat_lit 149), (@Obj.mk (@Value.type "tuple") none (@Data.seq (List.toArray []) 0) (List.toArray []))) ::
  ((nat_lit 151), (@Obj.mk (@Value.type "code") none (@Data.fields (List.toArray [(.str (.ofString "add_child") 385), (.str (.ofString "Tree.add_child") 386), (.str (.ofString "/claim/cut.py") 387), (@Value.int (70 : @Int) 0), (@Value.int (7 : @Int) 0), (@Value.int (0 : @Int) 0), (@Value.int (0 : @Int) 0), (@Value.int (3 : @Int) 0), (.ref 146), (@Value.bool @Bool.true), (@Value.int (181 : @Int) 0), (.ref 147), @Value.none, (.ref 148), (.ref 149), (.ref 150), (@Value.int (396 : @Int) 0), (@Value.int (70 : @Int) 0), (.str (.ofString "/claim/cut.py") 397)])) (List.toArray []))) ::
  ((nat_lit 152), @Obj.mk (@Value.type "function") none (@Data.func (@FuncData.mk (.ofString "add_child") (.ofString "Tree.add_child") (fnA (inK (stK 14) 4)) (@FuncBody.stmts (fnB (inK (stK 14) 4))) (fnS (inK (stK 14) 4)) 3 [] @Value.none @Value.none @Value.none (.str (.ofString "markupmill.tree") 291) none (.ref 151) @Value.none 0)) (List.toArray [])) ::
  ((nat_lit 153), (@Obj.mk (@Value.type "tuple") none (@Data.seq (List.toArray []) 0) (List.toArray []))) ::
  ((nat_lit 155), (@Obj.mk (@Value.type "tuple") none (@Data.seq (List.toArray [(.str (.ofString "self") 402), (.str (.ofString "parent") 403), (.str (.ofString "name") 404), (.str (.ofString "uri") 405), (.str (.ofString "local") 406)]) 0) (List.toArray []))) ::
  ((nat_lit 156), (@Obj.mk (@Value.type "tuple") none (@Data.seq (List.toArray []) 0) (List.toArray []))) ::
  ((nat_lit 158), (@Obj.mk (@Value.type "code") none (@Data.fields (List.toArray [(.str (.ofString "add_element") 399), (.str (.ofString "Tree.add_element") 400), (.str (.ofString "/claim/cut.py") 401), (@Value.int (78 : @Int) 0), (@Value.int (5 : @Int) 0), (@Value.int (0 : @Int) 0), (@Value.int (0 : @Int) 0), (@Value.int (3 : @Int) 0), (.ref 153), (@Value.bool @Bool.true), (@Value.int (181 : @Int) 0), (.ref 154), @Value.none, (.ref 155), (.ref 156), (.ref 157), (@Value.int (407 : @Int) 0), (@Value.int (78 : @Int) 0), (.str (.ofString "/claim/cut.py") 408)])) (List.toArray []))) ::
  ((nat_lit 159), @Obj.mk (@Value.type "function") none (@Data.func (@FuncData.mk (.ofString "add_element") (.ofString "Tree.add_element") (fnA (inK (stK 14) 5)) (@FuncBody.stmts (fnB (inK (stK 14) 5))) (fnS (inK (stK 14) 5)) 3 [] @Value.none @Value.none @Value.none (.str (.ofString "markupmill.tree") 291) none (.ref 158) @Value.none 0)) (List.toArray [])) ::
  ((nat_lit 160), (@Obj.mk (@Value.type "tuple") none (@Data.seq (List.toArray []) 0) (List.toArray []))) ::
  ((nat_lit 162), (@Obj.mk (@Value.type "tuple") none (@Data.seq (List.toArray [(.str (.ofString "self") 413), (.str (.ofString "parent") 414), (.str (.ofString "value") 415)]) 0) (List.toArray []))) ::
  ((nat_lit 163), (@Obj.mk (@Value.type "tuple") none (@Data.seq (List.toArray []) 0) (List.toArray []))) ::
  ((nat_lit 165), (@Obj.mk (@Value.type "code") none (@Data.fields (List.toArray [(.str (.ofString "add_text") 410), (.str (.ofString "Tree.add_text") 411), (.str (.ofString "/claim/cut.py") 412), (@Value.int (81 : @Int) 0), (@Value.int (3 : @Int) 0), (@Value.int (0 : @Int) 0), (@Value.int (0 : @Int) 0), (@Value.int (3 : @Int) 0), (.ref 160), (@Value.bool @Bool.true), (@Value.int (181 : @Int) 0), (.ref 161), @Value.none, (.ref 162), (.ref 163), (.ref 164), (@Value.int (416 : @Int) 0), (@Value.int (81 : @Int) 0), (.str (.ofString "/claim/cut.py") 417)])) (List.toArray []))) ::
  ((nat_lit 166), @Obj.mk (@Value.type "function") none (@Data.func (@FuncData.mk (.ofString "add_text") (.ofString "Tree.add_text") (fnA (inK (stK 14) 6)) (@FuncBody.stmts (fnB (inK (stK 14) 6))) (fnS (inK (stK 14) 6)) 3 [] @Value.none @Value.none @Value.none (.str (.ofString "markupmill.tree") 291) none (.ref 165) @Value.none 0)) (List.toArray [])) ::
  ((nat_lit 167), (@Obj.mk (@Value.type "tuple") none (@Data.seq (List.toArray []) 0) (List.toArray []))) ::
  ((nat_lit 169), (@Obj.mk (@Value.type "tuple") none (@Data.seq (List.toArray [(.str (.ofString "self") 422), (.str (.ofString "parent") 423), (.str (.ofString "value") 424)]) 0) (List.toArray []))) ::
  ((nat_lit 170), (@Obj.mk (@Value.type "tuple") none (@Data.seq (List.toArray []) 0) (List.toArray []))) ::
  ((nat_lit 172), (@Obj.mk (@Value.type "code") none (@Data.fields (List.toArray [(.str (.ofString "add_comment") 419), (.str (.ofString "Tree.add_comment") 420), (.str (.ofString "/claim/cut.py") 421), (@Value.int (84 : @Int) 0), (@Value.int (3 : @Int) 0), (@Value.int (0 : @Int) 0), (@Value.int (0 : @Int) 0), (@Value.int (3 : @Int) 0), (.ref 167), (@Value.bool @Bool.true), (@Value.int (181 : @Int) 0), (.ref 168), @Value.none, (.ref 169), (.ref 170), (.ref 171), (@Value.int (425 : @Int) 0), (@Value.int (84 : @Int) 0), (.str (.ofString "/claim/cut.py") 426)])) (List.toArray []))) ::
  ((nat_lit 173), @Obj.mk (@Value.type "function") none (@Data.func (@FuncData.mk (.ofString "add_comment") (.ofString "Tree.add_comment") (fnA (inK (stK 14) 7)) (@FuncBody.stmts (fnB (inK (stK 14) 7))) (fnS (inK (stK 14) 7)) 3 [] @Value.none @Value.none @Value.none (.str (.ofString "markupmill.tree") 291) none (.ref 172) @Value.none 0)) (List.toArray [])) ::
  ((nat_lit 174), (@Obj.mk (@Value.type "tuple") none (@Data.seq (List.toArray []) 0) (List.toArray []))) ::
  ((nat_lit 176), (@Obj.mk (@Value.type "tuple") none (@Data.seq (List.toArray [(.str (.ofString "self") 431), (.str (.ofString "parent") 432), (.str (.ofString "target") 433), (.str (.ofString "data") 434)]) 0) (List.toArray []))) ::
  ((nat_lit 177), (@Obj.mk (@Value.type "tuple") none (@Data.seq (List.toArray []) 0) (List.toArray []))) ::
  ((nat_lit 179), (@Obj.mk (@Value.type "code") none (@Data.fields (List.toArray [(.str (.ofString "add_instruction") 428), (.str (.ofString "Tree.add_instruction") 429), (.str (.ofString "/claim/cut.py") 430), (@Value.int (87 : @Int) 0), (@Value.int (4 : @Int) 0), (@Value.int (0 : @Int) 0), (@Value.int (0 : @Int) 0), (@Value.int (3 : @Int) 0), (.ref 174), (@Value.bool @Bool.true), (@Value.int (181 : @Int) 0), (.ref 175), @Value.none, (.ref 176), (.ref 177), (.ref 178), (@Value.int (435 : @Int) 0), (@Value.int (87 : @Int) 0), (.str (.ofString "/claim/cut.py") 436)])) (List.toArray []))) ::
  ((nat_lit 180), @Obj.mk (@Value.type "function") none (@Data.func (@FuncData.mk (.ofString "add_instruction") (.ofString "Tree.add_instruction") (fnA (inK (stK 14) 8)) (@FuncBody.stmts (fnB (inK (stK 14) 8))) (fnS (inK (stK 14) 8)) 3 [] @Value.none @Value.none @Value.none (.str (.ofString "markupmill.tree") 291) none (.ref 179) @Value.none 0)) (List.toArray [])) ::
  ((nat_lit 181), (@Obj.mk (@Value.type "tuple") none (@Data.seq (List.toArray []) 0) (List.toArray []))) ::
  ((nat_lit 183), (@Obj.mk (@Value.type "tuple") none (@Data.seq (List.toArray [(.str (.ofString "self") 441), (.str (.ofString "element") 442), (.str (.ofString "row") 443)]) 0) (List.toArray []))) ::
  ((nat_lit 184), (@Obj.mk (@Value.type "tuple") none (@Data.seq (List.toArray []) 0) (List.toArray []))) ::
  ((nat_lit 186), (@Obj.mk (@Value.type "code") none (@Data.fields (List.toArray [(.str (.ofString "element_row") 438), (.str (.ofString "Tree.element_row") 439), (.str (.ofString "/claim/cut.py") 440), (@Value.int (90 : @Int) 0), (@Value.int (2 : @Int) 0), (@Value.int (0 : @Int) 0), (@Value.int (0 : @Int) 0), (@Value.int (3 : @Int) 0), (.ref 181), (@Value.bool @Bool.true), (@Value.int (181 : @Int) 0), (.ref 182), @Value.none, (.ref 183), (.ref 184), (.ref 185), (@Value.int (444 : @Int) 0), (@Value.int (90 : @Int) 0), (.str (.ofString "/claim/cut.py") 445)])) (List.toArray []))) ::
  ((nat_lit 187), @Obj.mk (@Value.type "function") none (@Data.func (@FuncData.mk (.ofString "element_row") (.ofString "Tree.element_row") (fnA (inK (stK 14) 9)) (@FuncBody.stmts (fnB (inK (stK 14) 9))) (fnS (inK (stK 14) 9)) 3 [] @Value.none @Value.none @Value.none (.str (.ofString "markupmill.tree") 291) none (.ref 186) @Value.none 0)) (List.toArray [])) ::
  ((nat_lit 188), (@Obj.mk (@Value.type "tuple") none (@Data.seq (List.toArray []) 0) (List.toArray []))) ::
  ((nat_lit 190), (@Obj.mk (@Value.type "tuple") none (@Data.seq (List.toArray [(.str (.ofString "self") 450), (.str (.ofString "element") 451), (.str (.ofString "name") 452), (.str (.ofString "uri") 453), (.str (.ofString "local") 454), (.str (.ofString "value") 455), (.str (.ofString "row") 456), (.str (.ofString "node") 457), (.str (.ofString "known") 458)]) 0) (List.toArray []))) ::
  ((nat_lit 191), (@Obj.mk (@Value.type "tuple") none (@Data.seq (List.toArray []) 0) (List.toArray []))) ::
  ((nat_lit 193), (@Obj.mk (@Value.type "code") none (@Data.fields (List.toArray [(.str (.ofString "set_attribute") 447), (.str (.ofString "Tree.set_attribute") 448), (.str (.ofString "/claim/cut.py") 449), (@Value.int (96 : @Int) 0), (@Value.int (6 : @Int) 0), (@Value.int (0 : @Int) 0), (@Value.int (0 : @Int) 0), (@Value.int (3 : @Int) 0), (.ref 188), (@Value.bool @Bool.true), (@Value.int (181 : @Int) 0), (.ref 189), @Value.none, (.ref 190), (.ref 191), (.ref 192), (@Value.int (459 : @Int) 0), (@Value.int (96 : @Int) 0), (.str (.ofString "/claim/cut.py") 460)])) (List.toArray []))) ::
  ((nat_lit 194), @Obj.mk (@Value.type "function") none (@Data.func (@FuncData.mk (.ofString "set_attribute") (.ofString "Tree.set_attribute") (fnA (inK (stK 14) 10)) (@FuncBody.stmts (fnB (inK (stK 14) 10))) (fnS (inK (stK 14) 10)) 3 [] @Value.none @Value.none @Value.none (.str (.ofString "markupmill.tree") 291) none (.ref 193) @Value.none 0)) (List.toArray [])) ::
  ((nat_lit 195), (@Obj.mk (@Value.type "tuple") none (@Data.seq (List.toArray []) 0) (List.toArray []))) ::
  ((nat_lit 197), (@Obj.mk (@Value.type "tuple") none (@Data.seq (List.toArray [(.str (.ofString "self") 465), (.str (.ofString "element") 466), (.str (.ofString "prefix") 467), (.str (.ofString "uri") 468), (.str (.ofString "row") 469), (.str (.ofString "node") 470)]) 0) (List.toArray []))) ::
  ((nat_lit 198), (@Obj.mk (@Value.type "tuple") none (@Data.seq (List.toArray []) 0) (List.toArray []))) ::
  ((nat_lit 200), (@Obj.mk (@Value.type "code") none (@Data.fields (List.toArray [(.str (.ofString "add_namespace") 462), (.str (.ofString "Tree.add_namespace") 463), (.str (.ofString "/claim/cut.py") 464), (@Value.int (108 : @Int) 0), (@Value.int (4 : @Int) 0), (@Value.int (0 : @Int) 0), (@Value.int (0 : @Int) 0), (@Value.int (3 : @Int) 0), (.ref 195), (@Value.bool @Bool.true), (@Value.int (181 : @Int) 0), (.ref 196), @Value.none, (.ref 197), (.ref 198), (.ref 199), (@Value.int (471 : @Int) 0), (@Value.int (108 : @Int) 0), (.str (.ofString "/claim/cut.py") 472)])) (List.toArray []))) ::
  ((nat_lit 201), @Obj.mk (@Value.type "function") none (@Data.func (@FuncData.mk (.ofString "add_namespace") (.ofString "Tree.add_namespace") (fnA (inK (stK 14) 11)) (@FuncBody.stmts (fnB (inK (stK 14) 11))) (fnS (inK (stK 14) 11)) 3 [] @Value.none @Value.none @Value.none (.str (.ofString "markupmill.tree") 291) none (.ref 200) @Value.none 0)) (List.toArray [])) ::
  ((nat_lit 202), (@Obj.mk (@Value.type "tuple") none (@Data.seq (List.toArray []) 0) (List.toArray []))) ::
  ((nat_lit 204), (@Obj.mk (@Value.type "tuple") none (@Data.seq (List.toArray [(.str (.ofString "self") 477), (.str (.ofString "node") 478), (.str (.ofString "value") 479)]) 0) (List.toArray []))) ::
  ((nat_lit 205), (@Obj.mk (@Value.type "tuple") none (@Data.seq (List.toArray []) 0) (List.toArray []))) ::
  ((nat_lit 207), (@Obj.mk (@Value.type "code") none (@Data.fields (List.toArray [(.str (.ofString "set_value") 474), (.str (.ofString "Tree.set_value") 475), (.str (.ofString "/claim/cut.py") 476), (@Value.int (118 : @Int) 0), (@Value.int (3 : @Int) 0), (@Value.int (0 : @Int) 0), (@Value.int (0 : @Int) 0), (@Value.int (3 : @Int) 0), (.ref 202), (@Value.bool @Bool.true), (@Value.int (181 : @Int) 0), (.ref 203), @Value.none, (.ref 204), (.ref 205), (.ref 206), (@Value.int (480 : @Int) 0), (@Value.int (118 : @Int) 0), (.str (.ofString "/claim/cut.py") 481)])) (List.toArray []))) ::
  ((nat_lit 208), @Obj.mk (@Value.type "function") none (@Data.func (@FuncData.mk (.ofString "set_value") (.ofString "Tree.set_value") (fnA (inK (stK 14) 12)) (@FuncBody.stmts (fnB (inK (stK 14) 12))) (fnS (inK (stK 14) 12)) 3 [] @Value.none @Value.none @Value.none (.str (.ofString "markupmill.tree") 291) none (.ref 207) @Value.none 0)) (List.toArray [])) ::
  ((nat_lit 209), (@Obj.mk (@Value.type "tuple") none (@Data.seq (List.toArray []) 0) (List.toArray []))) ::
  ((nat_lit 211), (@Obj.mk (@Value.type "tuple") none (@Data.seq (List.toArray [(.str (.ofString "self") 486), (.str (.ofString "node") 487)]) 0) (List.toArray []))) ::
  ((nat_lit 212), (@Obj.mk (@Value.type "tuple") none (@Data.seq (List.toArray []) 0) (List.toArray []))) ::
  ((nat_lit 214), (@Obj.mk (@Value.type "code") none (@Data.fields (List.toArray [(.str (.ofString "kind") 483), (.str (.ofString "Tree.kind") 484), (.str (.ofString "/claim/cut.py") 485), (@Value.int (121 : @Int) 0), (@Value.int (2 : @Int) 0), (@Value.int (0 : @Int) 0), (@Value.int (0 : @Int) 0), (@Value.int (3 : @Int) 0), (.ref 209), (@Value.bool @Bool.true), (@Value.int (181 : @Int) 0), (.ref 210), @Value.none, (.ref 211), (.ref 212), (.ref 213), (@Value.int (488 : @Int) 0), (@Value.int (121 : @Int) 0), (.str (.ofString "/claim/cut.py") 489)])) (List.toArray []))) ::
  ((nat_lit 215), @Obj.mk (@Value.type "function") none (@Data.func (@FuncData.mk (.ofString "kind") (.ofString "Tree.kind") (fnA (inK (stK 14) 13)) (@FuncBody.stmts (fnB (inK (stK 14) 13))) (fnS (inK (stK 14) 13)) 3 [] @Value.none @Value.none @Value.none (.str (.ofString "markupmill.tree") 291) none (.ref 214) @Value.none 0)) (List.toArray [])) ::
  ((nat_lit 216), (@Obj.mk (@Value.type "tuple") none (@Data.seq (List.toArray []) 0) (List.toArray []))) ::
  ((nat_lit 218), (@Obj.mk (@Value.type "tuple") none (@Data.seq (List.toArray [(.str (.ofString "self") 494), (.str (.ofString "node") 495)]) 0) (List.toArray []))) ::
  ((nat_lit 219), (@Obj.mk (@Value.type "tuple") none (@Data.seq (List.toArray []) 0) (List.toArray []))) ::
  ((nat_lit 221), (@Obj.mk (@Value.type "code") none (@Data.fields (List.toArray [(.str (.ofString "name") 491), (.str (.ofString "Tree.name") 492), (.str (.ofString "/claim/cut.py") 493), (@Value.int (124 : @Int) 0), (@Value.int (2 : @Int) 0), (@Value.int (0 : @Int) 0), (@Value.int (0 : @Int) 0), (@Value.int (3 : @Int) 0), (.ref 216), (@Value.bool @Bool.true), (@Value.int (181 : @Int) 0), (.ref 217), @Value.none, (.ref 218), (.ref 219), (.ref 220), (@Value.int (496 : @Int) 0), (@Value.int (124 : @Int) 0), (.str (.ofString "/claim/cut.py") 497)])) (List.toArray []))) ::
  ((nat_lit 222), @Obj.mk (@Value.type "function") none (@Data.func (@FuncData.mk (.ofString "name") (.ofString "Tree.name") (fnA (inK (stK 14) 14)) (@FuncBody.stmts (fnB (inK (stK 14) 14))) (fnS (inK (stK 14) 14)) 3 [] @Value.none @Value.none @Value.none (.str (.ofString "markupmill.tree") 291) none (.ref 221) @Value.none 0)) (List.toArray [])) ::
  ((nat_lit 223), (@Obj.mk (@Value.type "tuple") none (@Data.seq (List.toArray []) 0) (List.toArray []))) ::
  ((nat_lit 225), (@Obj.mk (@Value.type "tuple") none (@Data.seq (List.toArray [(.str (.ofString "self") 502), (.str (.ofString "node") 503)]) 0) (List.toArray []))) ::
  ((nat_lit 226), (@Obj.mk (@Value.type "tuple") none (@Data.seq (List.toArray []) 0) (List.toArray []))) ::
  ((nat_lit 228), (@Obj.mk (@Value.type "code") none (@Data.fields (List.toArray [(.str (.ofString "uri") 499), (.str (.ofString "Tree.uri") 500), (.str (.ofString "/claim/cut.py") 501), (@Value.int (127 : @Int) 0), (@Value.int (2 : @Int) 0), (@Value.int (0 : @Int) 0), (@Value.int (0 : @Int) 0), (@Value.int (3 : @Int) 0), (.ref 223), (@Value.bool @Bool.true), (@Value.int (181 : @Int) 0), (.ref 224), @Value.none, (.ref 225), (.ref 226), (.ref 227), (@Value.int (504 : @Int) 0), (@Value.int (127 : @Int) 0), (.str (.ofString "/claim/cut.py") 505)])) (List.toArray []))) ::
  ((nat_lit 229), @Obj.mk (@Value.type "function") none (@Data.func (@FuncData.mk (.ofString "uri") (.ofString "Tree.uri") (fnA (inK (stK 14) 15)) (@FuncBody.stmts (fnB (inK (stK 14) 15))) (fnS (inK (stK 14) 15)) 3 [] @Value.none @Value.none @Value.none (.str (.ofString "markupmill.tree") 291) none (.ref 228) @Value.none 0)) (List.toArray [])) ::
  ((nat_lit 230), (@Obj.mk (@Value.type "tuple") none (@Data.seq (List.toArray []) 0) (List.toArray []))) ::
  ((nat_lit 232), (@Obj.mk (@Value.type "tuple") none (@Data.seq (List.toArray [(.str (.ofString "self") 510), (.str (.ofString "node") 511)]) 0) (List.toArray []))) ::
  ((nat_lit 233), (@Obj.mk (@Value.type "tuple") none (@Data.seq (List.toArray []) 0) (List.toArray []))) ::
  ((nat_lit 235), (@Obj.mk (@Value.type "code") none (@Data.fields (List.toArray [(.str (.ofString "local") 507), (.str (.ofString "Tree.local") 508), (.str (.ofString "/claim/cut.py") 509), (@Value.int (130 : @Int) 0), (@Value.int (2 : @Int) 0), (@Value.int (0 : @Int) 0), (@Value.int (0 : @Int) 0), (@Value.int (3 : @Int) 0), (.ref 230), (@Value.bool @Bool.true), (@Value.int (181 : @Int) 0), (.ref 231), @Value.none, (.ref 232), (.ref 233), (.ref 234), (@Value.int (512 : @Int) 0), (@Value.int (130 : @Int) 0), (.str (.ofString "/claim/cut.py") 513)])) (List.toArray []))) ::
  ((nat_lit 236), @Obj.mk (@Value.type "function") none (@Data.func (@FuncData.mk (.ofString "local") (.ofString "Tree.local") (fnA (inK (stK 14) 16)) (@FuncBody.stmts (fnB (inK (stK 14) 16))) (fnS (inK (stK 14) 16)) 3 [] @Value.none @Value.none @Value.none (.str (.ofString "markupmill.tree") 291) none (.ref 235) @Value.none 0)) (List.toArray [])) ::
  ((nat_lit 237), (@Obj.mk (@Value.type "tuple") none (@Data.seq (List.toArray []) 0) (List.toArray []))) ::
  ((nat_lit 239), (@Obj.mk (@Value.type "tuple") none (@Data.seq (List.toArray [(.str (.ofString "self") 518), (.str (.ofString "node") 519)]) 0) (List.toArray []))) ::
  ((nat_lit 240), (@Obj.mk (@Value.type "tuple") none (@Data.seq (List.toArray []) 0) (List.toArray []))) ::
  ((nat_lit 242), (@Obj.mk (@Value.type "code") none (@Data.fields (List.toArray [(.str (.ofString "value") 515), (.str (.ofString "Tree.value") 516), (.str (.ofString "/claim/cut.py") 517), (@Value.int (133 : @Int) 0), (@Value.int (2 : @Int) 0), (@Value.int (0 : @Int) 0), (@Value.int (0 : @Int) 0), (@Value.int (3 : @Int) 0), (.ref 237), (@Value.bool @Bool.true), (@Value.int (181 : @Int) 0), (.ref 238), @Value.none, (.ref 239), (.ref 240), (.ref 241), (@Value.int (520 : @Int) 0), (@Value.int (133 : @Int) 0), (.str (.ofString "/claim/cut.py") 521)])) (List.toArray []))) ::
  ((nat_lit 243), @Obj.mk (@Value.type "function") none (@Data.func (@FuncData.mk (.ofString "value") (.ofString "Tree.value") (fnA (inK (stK 14) 17)) (@FuncBody.stmts (fnB (inK (stK 14) 17))) (fnS (inK (stK 14) 17)) 3 [] @Value.none @Value.none @Value.none (.str (.ofString "markupmill.tree") 291) none (.ref 242) @Value.none 0)) (List.toArray [])) ::
  ((nat_lit 244), (@Obj.mk (@Value.type "tuple") none (@Data.seq (List.toArray []) 0) (List.toArray []))) ::
  ((nat_lit 246), (@Obj.mk (@Value.type "tuple") none (@Data.seq (List.toArray [(.str (.ofString "self") 526), (.str (.ofString "node") 527)]) 0) (List.toArray []))) ::
  ((nat_lit 247), (@Obj.mk (@Value.type "tuple") none (@Data.seq (List.toArray []) 0) (List.toArray []))) ::
  ((nat_lit 249), (@Obj.mk (@Value.type "code") none (@Data.fields (List.toArray [(.str (.ofString "parent") 523), (.str (.ofString "Tree.parent") 524), (.str (.ofString "/claim/cut.py") 525), (@Value.int (136 : @Int) 0), (@Value.int (2 : @Int) 0), (@Value.int (0 : @Int) 0), (@Value.int (0 : @Int) 0), (@Value.int (3 : @Int) 0), (.ref 244), (@Value.bool @Bool.true), (@Value.int (181 : @Int) 0), (.ref 245), @Value.none, (.ref 246), (.ref 247), (.ref 248), (@Value.int (528 : @Int) 0), (@Value.int (136 : @Int) 0), (.str (.ofString "/claim/cut.py") 529)])) (List.toArray []))) ::
  ((nat_lit 250), @Obj.mk (@Value.type "function") none (@Data.func (@FuncData.mk (.ofString "parent") (.ofString "Tree.parent") (fnA (inK (stK 14) 18)) (@FuncBody.stmts (fnB (inK (stK 14) 18))) (fnS (inK (stK 14) 18)) 3 [] @Value.none @Value.none @Value.none (.str (.ofString "markupmill.tree") 291) none (.ref 249) @Value.none 0)) (List.toArray [])) ::
  ((nat_lit 251), (@Obj.mk (@Value.type "tuple") none (@Data.seq (List.toArray []) 0) (List.toArray []))) ::
  ((nat_lit 253), (@Obj.mk (@Value.type "tuple") none (@Data.seq (List.toArray [(.str (.ofString "self") 534), (.str (.ofString "node") 535)]) 0) (List.toArray []))) ::
  ((nat_lit 254), (@Obj.mk (@Value.type "tuple") none (@Data.seq (List.toArray []) 0) (List.toArray []))) ::
  ((nat_lit 256), (@Obj.mk (@Value.type "code") none (@Data.fields (List.toArray [(.str (.ofString "children") 531), (.str (.ofString "Tree.children") 532), (.str (.ofString "/claim/cut.py") 533), (@Value.int (139 : @Int) 0), (@Value.int (2 : @Int) 0), (@Value.int (0 : @Int) 0), (@Value.int (0 : @Int) 0), (@Value.int (3 : @Int) 0), (.ref 251), (@Value.bool @Bool.true), (@Value.int (181 : @Int) 0), (.ref 252), @Value.none, (.ref 253), (.ref 254), (.ref 255), (@Value.int (536 : @Int) 0), (@Value.int (139 : @Int) 0), (.str (.ofString "/claim/cut.py") 537)])) (List.toArray []))) ::
  ((nat_lit 257), @Obj.mk (@Value.type "function") none (@Data.func (@FuncData.mk (.ofString "children") (.ofString "Tree.children") (fnA (inK (stK 14) 19)) (@FuncBody.stmts (fnB (inK (stK 14) 19))) (fnS (inK (stK 14) 19)) 3 [] @Value.none @Value.none @Value.none (.str (.ofString "markupmill.tree") 291) none (.ref 256) @Value.none 0)) (List.toArray [])) ::
  ((nat_lit 258), (@Obj.mk (@Value.type "tuple") none (@Data.seq (List.toArray []) 0) (List.toArray []))) ::
  ((nat_lit 260), (@Obj.mk (@Value.type "tuple") none (@Data.seq (List.toArray [(.str (.ofString "self") 542), (.str (.ofString "node") 543)]) 0) (List.toArray []))) ::
  ((nat_lit 261), (@Obj.mk (@Value.type "tuple") none (@Data.seq (List.toArray []) 0) (List.toArray []))) ::
  ((nat_lit 263), (@Obj.mk (@Value.type "code") none (@Data.fields (List.toArray [(.str (.ofString "attributes") 539), (.str (.ofString "Tree.attributes") 540), (.str (.ofString "/claim/cut.py") 541), (@Value.int (142 : @Int) 0), (@Value.int (2 : @Int) 0), (@Value.int (0 : @Int) 0), (@Value.int (0 : @Int) 0), (@Value.int (3 : @Int) 0), (.ref 258), (@Value.bool @Bool.true), (@Value.int (181 : @Int) 0), (.ref 259), @Value.none, (.ref 260), (.ref 261), (.ref 262), (@Value.int (544 : @Int) 0), (@Value.int (142 : @Int) 0), (.str (.ofString "/claim/cut.py") 545)])) (List.toArray []))) ::
  ((nat_lit 264), @Obj.mk (@Value.type "function") none (@Data.func (@FuncData.mk (.ofString "attributes") (.ofString "Tree.attributes") (fnA (inK (stK 14) 20)) (@FuncBody.stmts (fnB (inK (stK 14) 20))) (fnS (inK (stK 14) 20)) 3 [] @Value.none @Value.none @Value.none (.str (.ofString "markupmill.tree") 291) none (.ref 263) @Value.none 0)) (List.toArray [])) ::
  ((nat_lit 265), (@Obj.mk (@Value.type "tuple") none (@Data.seq (List.toArray []) 0) (List.toArray []))) ::
  ((nat_lit 267), (@Obj.mk (@Value.type "tuple") none (@Data.seq (List.toArray [(.str (.ofString "self") 550), (.str (.ofString "node") 551)]) 0) (List.toArray []))) ::
  ((nat_lit 268), (@Obj.mk (@Value.type "tuple") none (@Data.seq (List.toArray []) 0) (List.toArray []))) ::
  ((nat_lit 270), (@Obj.mk (@Value.type "code") none (@Data.fields (List.toArray [(.str (.ofString "namespaces") 547), (.str (.ofString "Tree.namespaces") 548), (.str (.ofString "/claim/cut.py") 549), (@Value.int (145 : @Int) 0), (@Value.int (2 : @Int) 0), (@Value.int (0 : @Int) 0), (@Value.int (0 : @Int) 0), (@Value.int (3 : @Int) 0), (.ref 265), (@Value.bool @Bool.true), (@Value.int (181 : @Int) 0), (.ref 266), @Value.none, (.ref 267), (.ref 268), (.ref 269), (@Value.int (552 : @Int) 0), (@Value.int (145 : @Int) 0), (.str (.ofString "/claim/cut.py") 553)])) (List.toArray []))) ::
  ((nat_lit 271), @Obj.mk (@Value.type "function") none (@Data.func (@FuncData.mk (.ofString "namespaces") (.ofString "Tree.namespaces") (fnA (inK (stK 14) 21)) (@FuncBody.stmts (fnB (inK (stK 14) 21))) (fnS (inK (stK 14) 21)) 3 [] @Value.none @Value.none @Value.none (.str (.ofString "markupmill.tree") 291) none (.ref 270) @Value.none 0)) (List.toArray [])) ::
  ((nat_lit 272), (@Obj.mk (@Value.type "tuple") none (@Data.seq (List.toArray []) 0) (List.toArray []))) ::
  ((nat_lit 274), (@Obj.mk (@Value.type "tuple") none (@Data.seq (List.toArray [(.str (.ofString "self") 558), (.str (.ofString "node") 559)]) 0) (List.toArray []))) ::
  ((nat_lit 275), (@Obj.mk (@Value.type "tuple") none (@Data.seq (List.toArray []) 0) (List.toArray []))) ::
  ((nat_lit 277), (@Obj.mk (@Value.type "code") none (@Data.fields (List.toArray [(.str (.ofString "root_of") 555), (.str (.ofString "Tree.root_of") 556), (.str (.ofString "/claim/cut.py") 557), (@Value.int (148 : @Int) 0), (@Value.int (2 : @Int) 0), (@Value.int (0 : @Int) 0), (@Value.int (0 : @Int) 0), (@Value.int (3 : @Int) 0), (.ref 272), (@Value.bool @Bool.true), (@Value.int (181 : @Int) 0), (.ref 273), @Value.none, (.ref 274), (.ref 275), (.ref 276), (@Value.int (560 : @Int) 0), (@Value.int (148 : @Int) 0), (.str (.ofString "/claim/cut.py") 561)])) (List.toArray []))) ::
  ((nat_lit 278), @Obj.mk (@Value.type "function") none (@Data.func (@FuncData.mk (.ofString "root_of") (.ofString "Tree.root_of") (fnA (inK (stK 14) 22)) (@FuncBody.stmts (fnB (inK (stK 14) 22))) (fnS (inK (stK 14) 22)) 3 [] @Value.none @Value.none @Value.none (.str (.ofString "markupmill.tree") 291) none (.ref 277) @Value.none 0)) (List.toArray [])) ::
  ((nat_lit 279), (@Obj.mk (@Value.type "tuple") none (@Data.seq (List.toArray []) 0) (List.toArray []))) ::
  ((nat_lit 281), (@Obj.mk (@Value.type "tuple") none (@Data.seq (List.toArray [(.str (.ofString "self") 566), (.str (.ofString "node") 567), (.str (.ofString "other") 568)]) 0) (List.toArray []))) ::
  ((nat_lit 282), (@Obj.mk (@Value.type "tuple") none (@Data.seq (List.toArray []) 0) (List.toArray []))) ::
  ((nat_lit 284), (@Obj.mk (@Value.type "code") none (@Data.fields (List.toArray [(.str (.ofString "is_above") 563), (.str (.ofString "Tree.is_above") 564), (.str (.ofString "/claim/cut.py") 565), (@Value.int (151 : @Int) 0), (@Value.int (3 : @Int) 0), (@Value.int (0 : @Int) 0), (@Value.int (0 : @Int) 0), (@Value.int (3 : @Int) 0), (.ref 279), (@Value.bool @Bool.true), (@Value.int (181 : @Int) 0), (.ref 280), @Value.none, (.ref 281), (.ref 282), (.ref 283), (@Value.int (569 : @Int) 0), (@Value.int (151 : @Int) 0), (.str (.ofString "/claim/cut.py") 570)])) (List.toArray []))) ::
  ((nat_lit 285), @Obj.mk (@Value.type "function") none (@Data.func (@FuncData.mk (.ofString "is_above") (.ofString "Tree.is_above") (fnA (inK (stK 14) 23)) (@FuncBody.stmts (fnB (inK (stK 14) 23))) (fnS (inK (stK 14) 23)) 3 [] @Value.none @Value.none @Value.none (.str (.ofString "markupmill.tree") 291) none (.ref 284) @Value.none 0)) (List.toArray [])) ::
  ((nat_lit 286), (@Obj.mk (@Value.type "tuple") none (@Data.seq (List.toArray []) 0) (List.toArray []))) ::
  ((nat_lit 288), (@Obj.mk (@Value.type "tuple") none (@Data.seq (List.toArray [(.str (.ofString "self") 575), (.str (.ofString "element") 576), (.str (.ofString "uri") 577), (.str (.ofString "local") 578)]) 0) (List.toArray []))) ::
  ((nat_lit 289), (@Obj.mk (@Value.type "tuple") none (@Data.seq (List.toArray []) 0) (List.toArray []))) ::
  ((nat_lit 291), (@Obj.mk (@Value.type "code") none (@Data.fields (List.toArray [(.str (.ofString "attribute_value") 572), (.str (.ofString "Tree.attribute_value") 573), (.str (.ofString "/claim/cut.py") 574), (@Value.int (154 : @Int) 0), (@Value.int (4 : @Int) 0), (@Value.int (0 : @Int) 0), (@Value.int (0 : @Int) 0), (@Value.int (3 : @Int) 0), (.ref 286), (@Value.bool @Bool.true), (@Value.int (181 : @Int) 0), (.ref 287), @Value.none, (.ref 288), (.ref 289), (.ref 290), (@Value.int (579 : @Int) 0), (@Value.int (154 : @Int) 0), (.str (.ofString "/claim/cut.py") 580)])) (List.toArray []))) ::
  ((nat_lit 292), @Obj.mk (@Value.type "function") none (@Data.func (@FuncData.mk (.ofString "attribute_value") (.ofString "Tree.attribute_value") (fnA (inK (stK 14) 24)) (@FuncBody.stmts (fnB (inK (stK 14) 24))) (fnS (inK (stK 14) 24)) 3 [] @Value.none @Value.none @Value.none (.str (.ofString "markupmill.tree") 291) none (.ref 291) @Value.none 0)) (List.toArray [])) ::
  ((nat_lit 293), (@Obj.mk (@Value.type "tuple") none (@Data.seq (List.toArray [(.str (.ofString "rows") 582)]) 0) (List.toArray []))) ::
  ((nat_lit 294), (@Obj.mk (@Value.type "dict") none (@Data.dict (List.toArray [⟨PyData.keyHash P (.ofString "__module__"), (.str (.ofString "__module__") 345), (.str (.ofString "markupmill.tree") 291)⟩, ⟨PyData.keyHash P (.ofString "__firstlineno__"), (.str (.ofString "__firstlineno__") 349), (@Value.int (53 : @Int) 348)⟩, ⟨PyData.keyHash P (.ofString "__init__"), (.str (.ofString "__init__") 356), (.ref 124)⟩, ⟨PyData.keyHash P (.ofString "new_row"), (.str (.ofString "new_row") 369), (.ref 131)⟩, ⟨PyData.keyHash P (.ofString "row"), (.str (.ofString "row") 377), (.ref 138)⟩, ⟨PyData.keyHash P (.ofString "new_root"), (.str (.ofString "new_root") 384), (.ref 145)⟩, ⟨PyData.keyHash P (.ofString "add_child"), (.str (.ofString "add_child") 398), (.ref 152)⟩, ⟨PyData.keyHash P (.ofString "add_element"), (.str (.ofString "add_element") 409), (.ref 159)⟩, ⟨PyData.keyHash P (.ofString "add_text"), (.str (.ofString "add_text") 418), (.ref 166)⟩, ⟨PyData.keyHash P (.ofString "add_comment"), (.str (.ofString "add_comment") 427), (.ref 173)⟩, ⟨PyData.keyHash P (.ofString "add_instruction"), (.str (.ofString "add_instruction") 437), (.ref 180)⟩, ⟨PyData.keyHash P (.ofString "element_row"), (.str (.ofString "element_row") 446), (.ref 187)⟩, ⟨PyData.keyHash P (.ofString "set_attribute"), (.str (.ofString "set_attribute") 461), (.ref 194)⟩, ⟨PyData.keyHash P (.ofString "add_namespace"), (.str (.ofString "add_namespace") 473), (.ref 201)⟩, ⟨PyData.keyHash P (.ofString "set_value"), (.str (.ofString "set_value") 482), (.ref 208)⟩, ⟨PyData.keyHash P (.ofString "kind"), (.str (.ofString "kind") 490), (.ref 215)⟩, ⟨PyData.keyHash P (.ofString "name"), (.str (.ofString "name") 498), (.ref 222)⟩, ⟨PyData.keyHash P (.ofString "uri"), (.str (.ofString "uri") 506), (.ref 229)⟩, ⟨PyData.keyHash P (.ofString "local"), (.str (.ofString "local") 514), (.ref 236)⟩, ⟨PyData.keyHash P (.ofString "value"), (.str (.ofString "value") 522), (.ref 243)⟩, ⟨PyData.keyHash P (.ofString "parent"), (.str (.ofString "parent") 530), (.ref 250)⟩, ⟨PyData.keyHash P (.ofString "children"), (.str (.ofString "children") 538), (.ref 257)⟩, ⟨PyData.keyHash P (.ofString "attributes"), (.str (.ofString "attributes") 546), (.ref 264)⟩, ⟨PyData.keyHash P (.ofString "namespaces"), (.str (.ofString "namespaces") 554), (.ref 271)⟩, ⟨PyData.keyHash P (.ofString "root_of"), (.str (.ofString "root_of") 562), (.ref 278)⟩, ⟨PyData.keyHash P (.ofString "is_above"), (.str (.ofString "is_above") 571), (.ref 285)⟩, ⟨PyData.keyHash P (.ofString "attribute_value"), (.str (.ofString "attribute_value") 581), (.ref 292)⟩, ⟨PyData.keyHash P (.ofString "__static_attributes__"), (.str (.ofString "__static_attributes__") 583), (.ref 293)⟩, ⟨PyData.keyHash P (.ofString "__dict__"), (.str (.ofString "__dict__") 585), (.ref 296)⟩, ⟨PyData.keyHash P (.ofString "__weakref__"), (.str (.ofString "__weakref__") 587), (.ref 297)⟩, ⟨PyData.keyHash P (.ofString "__doc__"), (.str (.ofString "__doc__") 588), @Value.none⟩]) 4) (List.toArray []))) ::
  ((nat_lit 295), (@Obj.mk (@Value.type "type") none (@Data.cls (@ClassData.mk (.ofString "Tree") [(@Value.type "object")] [(.ref 295), (@Value.type "object")] 294 (.ofString "Tree") @Bool.true [] [] @Bool.false none @Bool.false)) (List.toArray [none, none, (some (.str (.ofString "Tree") 338)), (some (.str (.ofString "Tree") 346)), (some (@Value.builtin "object.__new__")), (some (@Value.bool @Bool.true))]))) ::
  ((nat_lit 296), (@Obj.mk (@Value.type "getset_descriptor") none (@Data.fields (List.toArray [(.str (.ofString "__dict__") 584), (.ref 295), (@Value.builtin "function.__dict__"), (@Value.builtin "function.__dict__#set")])) (List.toArray []))) ::
  ((nat_lit 297), (@Obj.mk (@Value.type "getset_descriptor") none (@Data.fields (List.toArray [(.str (.ofString "__weakref__") 586), (.ref 295), (@Value.builtin "ExceptionGroup.__weakref__"), @Value.none])) (List.toArray []))) ::
  ((nat_lit 300), (@Obj.mk (@Value.type "tuple") none (@Data.seq (List.toArray []) 0) (List.toArray []))) ::
  ((nat_lit 302), (@Obj.mk (@Value.type "tuple") none (@Data.seq (List.toArray [(.str (.ofString "script") 596), (.str (.ofString "cell") 597), (.str (.ofString "size") 598)]) 0) (List.toArray []))) ::
  ((nat_lit 303), (@Obj.mk (@Value.type "tuple") none (@Data.seq (List.toArray []) 0) (List.toArray []))) ::
  ((nat_lit 305), (@Obj.mk (@Value.type "code") none (@Data.fields (List.toArray [(.str (.ofString "_law_pool") 593), (.str (.ofString "_law_pool") 594), (.str (.ofString "/claim/cut.py") 595), (@Value.int (157 : @Int) 0), (@Value.int (1 : @Int) 0), (@Value.int (0 : @Int) 0), (@Value.int (0 : @Int) 0), (@Value.int (3 : @Int) 0), (.ref 300), (@Value.bool @Bool.true), (@Value.int (181 : @Int) 0), (.ref 301), @Value.none, (.ref 302), (.ref 303), (.ref 304), (@Value.int (599 : @Int) 0), (@Value.int (157 : @Int) 0), (.str (.ofString "/claim/cut.py") 600)])) (List.toArray []))) ::
  ((nat_lit 306), @Obj.mk (@Value.type "function") none (@Data.func (@FuncData.mk (.ofString "_law_pool") (.ofString "_law_pool") (fnA (stK 16)) (@FuncBody.stmts (fnB (stK 16))) (fnS (stK 16)) 3 [] @Value.none @Value.none @Value.none (.str (.ofString "law_xm0664_01") 591) none (.ref 305) @Value.none 0)) (List.toArray [])) ::
  ((nat_lit 307), (@Obj.mk (@Value.type "tuple") none (@Data.seq (List.toArray []) 0) (List.toArray []))) ::
  ((nat_lit 309), (@Obj.mk (@Value.type "tuple") none (@Data.seq (List.toArray [(.str (.ofString "source") 605), (.str (.ofString "top") 606), (.str (.ofString "figure") 607)]) 0) (List.toArray []))) ::
  ((nat_lit 310), (@Obj.mk (@Value.type "tuple") none (@Data.seq (List.toArray []) 0) (List.toArray []))) ::
  ((nat_lit 312), (@Obj.mk (@Value.type "code") none (@Data.fields (List.toArray [(.str (.ofString "_law_take") 602), (.str (.ofString "_law_take") 603), (.str (.ofString "/claim/cut.py") 604), (@Value.int (161 : @Int) 0), (@Value.int (2 : @Int) 0), (@Value.int (0 : @Int) 0), (@Value.int (0 : @Int) 0), (@Value.int (3 : @Int) 0), (.ref 307), (@Value.bool @Bool.true), (@Value.int (181 : @Int) 0), (.ref 308), @Value.none, (.ref 309), (.ref 310), (.ref 311), (@Value.int (608 : @Int) 0), (@Value.int (161 : @Int) 0), (.str (.ofString "/claim/cut.py") 609)])) (List.toArray []))) ::
  ((nat_lit 313), @Obj.mk (@Value.type "function") none (@Data.func (@FuncData.mk (.ofString "_law_take") (.ofString "_law_take") (fnA (stK 17)) (@FuncBody.stmts (fnB (stK 17))) (fnS (stK 17)) 3 [] @Value.none @Value.none @Value.none (.str (.ofString "law_xm0664_01") 591) none (.ref 312) @Value.none 0)) (List.toArray [])) ::
  ((nat_lit 314), (@Obj.mk (@Value.type "tuple") none (@Data.seq (List.toArray []) 0) (List.toArray []))) ::
  ((nat_lit 316), (@Obj.mk (@Value.type "tuple") none (@Data.seq (List.toArray [(.str (.ofString "source") 614), (.str (.ofString "things") 615)]) 0) (List.toArray []))) ::
  ((nat_lit 317), (@Obj.mk (@Value.type "tuple") none (@Data.seq (List.toArray []) 0) (List.toArray []))) ::
  ((nat_lit 319), (@Obj.mk (@Value.type "code") none (@Data.fields (List.toArray [(.str (.ofString "_law_one") 611), (.str (.ofString "_law_one") 612), (.str (.ofString "/claim/cut.py") 613), (@Value.int (168 : @Int) 0), (@Value.int (2 : @Int) 0), (@Value.int (0 : @Int) 0), (@Value.int (0 : @Int) 0), (@Value.int (3 : @Int) 0), (.ref 314), (@Value.bool @Bool.true), (@Value.int (181 : @Int) 0), (.ref 315), @Value.none, (.ref 316), (.ref 317), (.ref 318), (@Value.int (616 : @Int) 0), (@Value.int (168 : @Int) 0), (.str (.ofString "/claim/cut.py") 617)])) (List.toArray []))) ::
  ((nat_lit 320), @Obj.mk (@Value.type "function") none (@Data.func (@FuncData.mk (.ofString "_law_one") (.ofString "_law_one") (fnA (stK 18)) (@FuncBody.stmts (fnB (stK 18))) (fnS (stK 18)) 3 [] @Value.none @Value.none @Value.none (.str (.ofString "law_xm0664_01") 591) none (.ref 319) @Value.none 0)) (List.toArray [])) ::
  ((nat_lit 321), (@Obj.mk (@Value.type "tuple") none (@Data.seq (List.toArray []) 0) (List.toArray []))) ::
  ((nat_lit 323), (@Obj.mk (@Value.type "tuple") none (@Data.seq (List.toArray [(.str (.ofString "source") 622), (.str (.ofString "many") 623), (.str (.ofString "tree") 624), (.str (.ofString "top") 625), (.str (.ofString "first") 626), (.str (.ofString "rows") 627), (.str (.ofString "inner") 628), (.str (.ofString "turn") 629), (.str (.ofString "parent") 630), (.str (.ofString "way") 631), (.str (.ofString "owner") 632), (.str (.ofString "path") 633), (.str (.ofString "node") 634), (.str (.ofString "kind") 635)]) 0) (List.toArray []))) ::
  ((nat_lit 324), (@Obj.mk (@Value.type "tuple") none (@Data.seq (List.toArray []) 0) (List.toArray []))) ::
  ((nat_lit 326), (@Obj.mk (@Value.type "code") none (@Data.fields (List.toArray [(.str (.ofString "_law_grown") 619), (.str (.ofString "_law_grown") 620), (.str (.ofString "/claim/cut.py") 621), (@Value.int (170 : @Int) 0), (@Value.int (2 : @Int) 0), (@Value.int (0 : @Int) 0), (@Value.int (0 : @Int) 0), (@Value.int (3 : @Int) 0), (.ref 321), (@Value.bool @Bool.true), (@Value.int (181 : @Int) 0), (.ref 322), @Value.none, (.ref 323), (.ref 324), (.ref 325), (@Value.int (636 : @Int) 0), (@Value.int (170 : @Int) 0), (.str (.ofString "/claim/cut.py") 637)])) (List.toArray []))) ::
  ((nat_lit 327), @Obj.mk (@Value.type "function") none (@Data.func (@FuncData.mk (.ofString "_law_grown") (.ofString "_law_grown") (fnA (stK 19)) (@FuncBody.stmts (fnB (stK 19))) (fnS (stK 19)) 3 [] @Value.none @Value.none @Value.none (.str (.ofString "law_xm0664_01") 591) none (.ref 326) @Value.none 0)) (List.toArray [])) ::
  ((nat_lit 328), (@Obj.mk (@Value.type "tuple") none (@Data.seq (List.toArray []) 0) (List.toArray []))) ::
  ((nat_lit 331), (@Obj.mk (@Value.type "code") none (@Data.fields (List.toArray [(.str (.ofString "_law_loosened") 639), (.str (.ofString "_law_loosened") 640), (.str (.ofString "/claim/cut.py") 641), (@Value.int (195 : @Int) 0), (@Value.int (3 : @Int) 0), (@Value.int (0 : @Int) 0), (@Value.int (0 : @Int) 0), (@Value.int (3 : @Int) 0), (.ref 328), (@Value.bool @Bool.true), (@Value.int (181 : @Int) 0), (.ref 329), @Value.none, @Value.none, @Value.none, (.ref 330), (@Value.int (642 : @Int) 0), (@Value.int (195 : @Int) 0), (.str (.ofString "/claim/cut.py") 643)])) (List.toArray []))) ::
  ((nat_lit 332), @Obj.mk (@Value.type "function") none (@Data.func (@FuncData.mk (.ofString "_law_loosened") (.ofString "_law_loosened") (fnA (stK 20)) (@FuncBody.stmts (fnB (stK 20))) (fnS (stK 20)) 3 [] @Value.none @Value.none @Value.none (.str (.ofString "law_xm0664_01") 591) none (.ref 331) @Value.none 0)) (List.toArray [])) ::
  ((nat_lit 333), (@Obj.mk (@Value.type "tuple") none (@Data.seq (List.toArray []) 0) (List.toArray []))) ::
  ((nat_lit 335), (@Obj.mk (@Value.type "tuple") none (@Data.seq (List.toArray [(.str (.ofString "rows") 648), (.str (.ofString "node") 649)]) 0) (List.toArray []))) ::
  ((nat_lit 336), (@Obj.mk (@Value.type "tuple") none (@Data.seq (List.toArray []) 0) (List.toArray []))) ::
  ((nat_lit 338), (@Obj.mk (@Value.type "code") none (@Data.fields (List.toArray [(.str (.ofString "_law_is_child") 645), (.str (.ofString "_law_is_child") 646), (.str (.ofString "/claim/cut.py") 647), (@Value.int (204 : @Int) 0), (@Value.int (2 : @Int) 0), (@Value.int (0 : @Int) 0), (@Value.int (0 : @Int) 0), (@Value.int (3 : @Int) 0), (.ref 333), (@Value.bool @Bool.true), (@Value.int (181 : @Int) 0), (.ref 334), @Value.none, (.ref 335), (.ref 336), (.ref 337), (@Value.int (650 : @Int) 0), (@Value.int (204 : @Int) 0), (.str (.ofString "/claim/cut.py") 651)])) (List.toArray []))) ::
  ((nat_lit 339), @Obj.mk (@Value.type "function") none (@Data.func (@FuncData.mk (.ofString "_law_is_child") (.ofString "_law_is_child") (fnA (stK 21)) (@FuncBody.stmts (fnB (stK 21))) (fnS (stK 21)) 3 [] @Value.none @Value.none @Value.none (.str (.ofString "law_xm0664_01") 591) none (.ref 338) @Value.none 0)) (List.toArray [])) ::
  ((nat_lit 340), (@Obj.mk (@Value.type "tuple") none (@Data.seq (List.toArray []) 0) (List.toArray []))) ::
  ((nat_lit 342), (@Obj.mk (@Value.type "tuple") none (@Data.seq (List.toArray [(.str (.ofString "call") 656), (.str (.ofString "tree") 657), (.str (.ofString "node") 658)]) 0) (List.toArray []))) ::
  ((nat_lit 343), (@Obj.mk (@Value.type "tuple") none (@Data.seq (List.toArray []) 0) (List.toArray []))) ::
  ((nat_lit 345), (@Obj.mk (@Value.type "code") none (@Data.fields (List.toArray [(.str (.ofString "_law_is_refused") 653), (.str (.ofString "_law_is_refused") 654), (.str (.ofString "/claim/cut.py") 655), (@Value.int (206 : @Int) 0), (@Value.int (3 : @Int) 0), (@Value.int (0 : @Int) 0), (@Value.int (0 : @Int) 0), (@Value.int (3 : @Int) 0), (.ref 340), (@Value.bool @Bool.true), (@Value.int (181 : @Int) 0), (.ref 341), @Value.none, (.ref 342), (.ref 343), (.ref 344), (@Value.int (659 : @Int) 0), (@Value.int (206 : @Int) 0), (.str (.ofString "/claim/cut.py") 660)])) (List.toArray []))) ::
  ((nat_lit 346), @Obj.mk (@Value.type "function") none (@Data.func (@FuncData.mk (.ofString "_law_is_refused") (.ofString "_law_is_refused") (fnA (stK 22)) (@FuncBody.stmts (fnB (stK 22))) (fnS (stK 22)) 3 [] @Value.none @Value.none @Value.none (.str (.ofString "law_xm0664_01") 591) none (.ref 345) @Value.none 0)) (List.toArray [])) ::
  ((nat_lit 347), (@Obj.mk (@Value.type "tuple") none (@Data.seq (List.toArray []) 0) (List.toArray []))) ::
  ((nat_lit 350), (@Obj.mk (@Value.type "code") none (@Data.fields (List.toArray [(.str (.ofString "law") 662), (.str (.ofString "law") 663), (.str (.ofString "/claim/cut.py") 664), (@Value.int (212 : @Int) 0), (@Value.int (1 : @Int) 0), (@Value.int (0 : @Int) 0), (@Value.int (0 : @Int) 0), (@Value.int (3 : @Int) 0), (.ref 347), (@Value.bool @Bool.true), (@Value.int (181 : @Int) 0), (.ref 348), @Value.none, @Value.none, @Value.none, (.ref 349), (@Value.int (665 : @Int) 0), (@Value.int (212 : @Int) 0), (.str (.ofString "/claim/cut.py") 666)])) (List.toArray []))) ::
  ((nat_lit 351), @Obj.mk (@Value.type "function") none (@Data.func (@FuncData.mk (.ofString "law") (.ofString "law") (fnA (stK 23)) (@FuncBody.stmts (fnB (stK 23))) (fnS (stK 23)) 3 [] @Value.none @Value.none @Value.none (.str (.ofString "law_xm0664_01") 591) none (.ref 350) @Value.none 0)) (List.toArray [])) ::
  []
end
set_option maxRecDepth 100000 in
set_option maxHeartbeats 8000000 in
theorem prepK : PySem.Challenge.rw_xm0664_01 = PySem.Challenge.rw_xm0664_01 ∧ kz = kz := by
  k_fill
  exact ⟨rfl, rfl⟩
/-! Base -/
section
open PySem PySem.W PyProof.Rows
abbrev Led := List (Addr × Obj)
/-! the ledger's own laws -/
def Apart (l : Led) : Prop := (l.map (·.1)).Nodup
theorem Apart.perm {l l' : Led} (h : l.Perm l') (a : Apart l) : Apart l' := (h.map _).nodup_iff.mp a
theorem Apart.sub {l l' : Led} (h : l'.Sublist l) (a : Apart l) : Apart l' := a.sublist (h.map _)
theorem Apart.cons {a : Addr} {o : Obj} {l : Led} (h : ∀ p ∈ l, p.1 < a) (A : Apart l) : Apart ((a, o) :: l) :=
  List.nodup_cons.mpr ⟨fun hm => by
    obtain ⟨p, hp, e⟩ := List.mem_map.mp hm
    exact absurd (h p hp) (e ▸ Nat.lt_irrefl _), A⟩
theorem News_perm {h₀ h : Heap} {L : Addr} {l l' : Led} (p : l.Perm l') (N : News h₀ L h l) : News h₀ L h l' := fun q hq => N q (p.mem_iff.mpr hq)
theorem News_sub {h₀ h : Heap} {L : Addr} {l l' : Led} (p : ∀ q ∈ l', q ∈ l) (N : News h₀ L h l) : News h₀ L h l' := fun q hq => N q (p q hq)
theorem News_subN {h₀ h : Heap} {L : Addr} {l l' : Led} (N : News h₀ L h l) (p : ∀ q ∈ l', q ∈ l) : News h₀ L h l' := fun q hq => N q (p q hq)
theorem Apart.keys {l l' : Led} (h : l.map (·.1) = l'.map (·.1)) (A : Apart l) : Apart l' := by unfold Apart; rw [← h]; exact A
theorem Apart.consNe {a : Addr} {o : Obj} {l : Led} (h : ∀ p ∈ l, p.1 ≠ a) (A : Apart l) : Apart ((a, o) :: l) :=
  List.nodup_cons.mpr ⟨fun hm => by
    obtain ⟨p, hp, e⟩ := List.mem_map.mp hm
    exact h p hp e, A⟩
theorem Apart.ne {a : Addr} {o : Obj} {l : Led} (A : Apart ((a, o) :: l)) : ∀ p ∈ l, p.1 ≠ a := fun p hp e =>
  (List.nodup_cons.mp A).1 (List.mem_map.mpr ⟨p, hp, e⟩)
theorem Apart.tl {q : Addr × Obj} {l : Led} (A : Apart (q :: l)) : Apart l := (List.nodup_cons.mp A).2
def upd (a : Addr) (o : Obj) (l : Led) : Led := l.map fun p => if p.1 = a then (a, o) else p
theorem upd_keys (a : Addr) (o : Obj) (l : Led) : (upd a o l).map (·.1) = l.map (·.1) := by
  unfold upd
  rw [List.map_map]
  apply List.map_congr_left
  intro p _
  show (if p.1 = a then (a, o) else p).1 = p.1
  split
  · rename_i h; exact h.symm
  · rfl
theorem mem_upd_self {a : Addr} {o o' : Obj} {l : Led} (h : (a, o) ∈ l) : (a, o') ∈ upd a o' l := List.mem_map.mpr ⟨_, h, if_pos rfl⟩
theorem mem_upd_ne {a : Addr} {o' : Obj} {l : Led} {p : Addr × Obj} (h : p ∈ l) (hne : p.1 ≠ a) : p ∈ upd a o' l := List.mem_map.mpr ⟨_, h, if_neg hne⟩
theorem News_upd {h₀ h h' : Heap} {L a : Addr} {o o' : Obj} {l : Led} (N : News h₀ L h l) (ha : (a, o) ∈ l) (hs : Heap.SameBut a h h') (ho : h'.get? a = some o') : News h₀ L h' (upd a o' l) := by
  intro p hp
  obtain ⟨q, hq, e⟩ := List.mem_map.mp hp
  split at e
  · subst e
    exact ⟨ho, (N _ ha).2⟩
  · rename_i hne
    subst e
    exact ⟨(hs.2 _ hne).trans (N _ hq).1, (N _ hq).2⟩
theorem News_ne {h₀ h : Heap} {L a b : Addr} {o p : Obj} {l : Led} (N : News h₀ L h l) (ha : (a, o) ∈ l) (hb : (b, p) ∈ l) (hne : o.cls ≠ p.cls) : a ≠ b := fun e => by
  subst e
  have h1 := (N _ ha).1
  rw [(N _ hb).1] at h1
  exact hne (congrArg Obj.cls (Option.some.inj h1)).symm
theorem wpAny_room {α : Type} {M : Model} {A A' : Around} {t : Sem α} {Q : α → Shared → Prop} {E : Value → Shared → Prop} {s : Shared} (h : wpAny M A' t Q E s)
    (hh : A.handled = A'.handled) (hf : A.frames = A'.frames) (hg : A.guards = A'.guards) (hd : A.depth ≤ A'.depth) (hu : A.units ≤ A'.units) : wpAny M A t Q E s :=
  fun Γ p hΓ => h Γ p ⟨hΓ.1.trans hh, Nat.le_trans hΓ.2.1 hd, fun l hl => hΓ.2.2.1 l (hf.trans hl), fun g hgg => hΓ.2.2.2.1 g (hg.trans hgg), Nat.le_trans hΓ.2.2.2.2 hu⟩
/-- what a call of `f` with `args` does to the ledger, whoever calls it -/
def Con (w : World) (f : Addr) (dq uq : Nat) (args : List Value) (Pre : Led → Prop) (Post : Led → Value → Led → Prop) : Prop :=
  ∀ (tpv : Program) (lov : List Str) (mean : ExcName → Option Value) (mg mb : Str → Option Value) (A : Around) (cn : Str) (cs : Scope) (a : Addr) (ccd : Value) (cl : List (Str × Addr)) (outer : List Env) (A₀ : Around) (base h₀ : Heap) (L : Addr)
    (m : Str → Option Value) (news : Led) (s : Shared) (Q E : Value → Shared → Prop),
    A.handled = none → A.frames = some (envX cn cs L a ccd cl :: outer) → A.depth ≤ dq → A.units ≤ uq → cs.kind = .function →
    Below A₀ base outer h₀ → Fr h₀ L s.heap m → (kz w.params).In h₀ → News h₀ L s.heap news → Apart news → Top tpv lov mean mg mb h₀ → Pre news →
    (∀ r news' h' tk', Fr h₀ L h' m → News h₀ L h' news' → Apart news' → Post news r news' → Q r { s with heap := h', toks := tk' }) →
    wpAny (model PySem.Challenge.rw_xm0664_01.row.prog w) A (call (.ref f) args) Q E s
theorem Con.of {w : World} {f : Addr} {dq uq : Nat} {args : List Value} {Pre : Led → Prop} {Post : Led → Value → Led → Prop}
    (h : ∀ (tpv : Program) (lov : List Str) (mean : ExcName → Option Value) (mg mb : Str → Option Value) (gd : Option (List Code)) (cn : Str) (cs : Scope) (a : Addr) (ccd : Value) (cl : List (Str × Addr)) (outer : List Env) (A₀ : Around) (base h₀ : Heap) (L : Addr)
      (m : Str → Option Value) (news : Led) (s : Shared) (Q E : Value → Shared → Prop),
      cs.kind = .function → Below A₀ base outer h₀ → Fr h₀ L s.heap m → (kz w.params).In h₀ → News h₀ L s.heap news → Apart news → Top tpv lov mean mg mb h₀ → Pre news →
      (∀ r news' h' tk', Fr h₀ L h' m → News h₀ L h' news' → Apart news' → Post news r news' → Q r { s with heap := h', toks := tk' }) →
      wpAny (model PySem.Challenge.rw_xm0664_01.row.prog w) (ktrTop dq uq gd cn cs L a ccd cl outer) (call (.ref f) args) Q E s) : Con w f dq uq args Pre Post := by
  intro tpv lov mean mg mb A cn cs a ccd cl outer A₀ base h₀ L m news s Q E hh hf hdp hu hk B F X N D T P ret
  exact wpAny_room (h tpv lov mean mg mb A.guards cn cs a ccd cl outer A₀ base h₀ L m news s Q E hk B F X N D T P ret) hh hf rfl hdp hu
theorem Con.tr {w : World} {f a b : Addr} {dq uq : Nat} {l : List Value} {Pre : Led → Prop} {Post : Led → Value → Led → Prop} (h : a = b) (c : Con w f dq uq (.ref a :: l) Pre Post) : Con w f dq uq (.ref b :: l) Pre Post := h ▸ c
theorem Con.use {w : World} {f : Addr} {dq uq : Nat} {args : List Value} {Pre : Led → Prop} {Post : Led → Value → Led → Prop} {tpv : Program} {lov : List Str} {mean : ExcName → Option Value} {mg mb : Str → Option Value} {A : Around} {cn : Str} {cs : Scope} {a : Addr} {ccd : Value} {cl : List (Str × Addr)} {outer : List Env}
    {A₀ : Around} {base h₀ : Heap} {L : Addr} {m : Str → Option Value} {news : Led} {s : Shared} {Q E : Value → Shared → Prop}
    (C : Con w f dq uq args Pre Post) (hh : A.handled = none) (hf : A.frames = some (envX cn cs L a ccd cl :: outer)) (hdp : A.depth ≤ dq) (hu : A.units ≤ uq) (hk : cs.kind = .function)
    (B : Below A₀ base outer h₀) (F : Fr h₀ L s.heap m) (X : (kz w.params).In h₀) (N : News h₀ L s.heap news) (T : Top tpv lov mean mg mb h₀) (D : Apart news) (P : Pre news)
    (ret : ∀ r news' h' tk', Fr h₀ L h' m → News h₀ L h' news' → Apart news' → Post news r news' → Q r { s with heap := h', toks := tk' }) :
    wpAny (model PySem.Challenge.rw_xm0664_01.row.prog w) A (call (.ref f) args) Q E s :=
  C tpv lov mean mg mb A cn cs a ccd cl outer A₀ base h₀ L m news s Q E hh hf hdp hu hk B F X N D T P ret
section
variable {prog : Program} {w : World} {A : Around} {E : Value → Shared → Prop} {s : Shared} {h₀ : Heap} {L : Addr} {news : Led} {m : Str → Option Value}
theorem m_len {l : Addr} {vs : List Value} {n : Nat} {Q : Value → Shared → Prop} (N : News h₀ L s.heap news) (hm : (l, listOf vs.toArray n) ∈ news) (hz : vs.length < 1000000)
    (h : Q (.int (vs.length : Nat) (s.toks + 1)) { s with toks := s.toks + 1 + 1 }) : wpAny (model prog w) A (call (.builtin "len") [.ref l]) Q E s :=
  len_list (N.isList hm) (by rw [List.size_toArray]; omega) (by rw [List.size_toArray]; exact h)
theorem m_item {value slice : Expr} {a : Addr} {l : List Value} {n i : Nat} {u : Tok} {x : Value} {Q : Value → Shared → Prop} (N : News h₀ L s.heap news) (hm : (a, listOf l.toArray n) ∈ news) (hx : l[i]? = some x) (hz : l.length < 1000000) (h : Q x s)
    (hs : subscripted slice false (.ref a) (.int (i : Nat) u) = operate [.ref a, .int (i : Nat) u] (getItem (.ref a) (.int (i : Nat) u)) := by with_unfolding_all rfl) (hg : ∀ r, letTemporaryGo value (.ref a) r = pure () := by intro _; with_unfolding_all rfl) :
    wpAny (model prog w) A (subscriptTail value slice (.ref a) (.int (i : Nat) u)) Q E s := by
  have hi : i < l.length := by
    rcases Nat.lt_or_ge i l.length with h' | h'
    · exact h'
    · rw [List.getElem?_eq_none h'] at hx; cases hx
  exact item_listL (N.isList hm) (by omega) (by omega) (by simpa using hx) h hs hg
end
end
local macro_rules | `(tactic| walk_at "call builtin:len") => `(tactic| (k_here; (with_reducible show wpAny _ _ (call (Value.builtin "len") [Value.ref _]) _ _ _); k_dflt (refine' m_len ?N ?m ?z ?_; (case N => k_asm); (case m => k_mem); (case z => first | assumption | omega); k_whole)))
local macro_rules | `(tactic| walk_at "subscriptTail") => `(tactic| (k_here; (with_reducible show wpAny _ _ (subscriptTail _ _ (Value.ref _) (Value.int _ _)) _ _ _); k_dflt (refine' m_item ?N ?m ?x ?z ?_; (case N => k_asm); (case m => k_mem); (case x => assumption); (case z => first | assumption | omega); k_whole)))
section
open PySem PySem.W PyProof.Rows
theorem line_le {n : Nat} (h : n ≤ 1000) : n ≤ sizeLine := by rw [sizeLine_eq]; omega
theorem m_copy {prog : Program} {w : World} {A : Around} {E : Value → Shared → Prop} {s : Shared} {h₀ : Heap} {L : Addr} {m : Str → Option Value} {news : Led} {Q : Value → Shared → Prop} {l : Addr} {vs : List Value} {n : Nat} (F : Fr h₀ L s.heap m) (N : News h₀ L s.heap news) (hm : (l, listOf vs.toArray n) ∈ news)
    (hz : vs.length ≤ 1000)
    (h : ∀ D c h', Fr h₀ L h' m → News h₀ L h' ((D, listOf vs.toArray c) :: news) → (∀ q ∈ news, q.1 < D) → Q (.ref D) { s with heap := h' }) :
    wpAny (model prog w) A (call (.type "list") [.ref l]) Q E s :=
  list_copyK F N (N.isList hm) h (by rw [List.size_toArray]; exact line_le hz)
end
local macro_rules | `(tactic| walk_at "call type:list") => `(tactic| (k_here; (with_reducible show wpAny _ _ (call (Value.type _) [Value.ref _]) _ _ _); k_dflt (refine' m_copy ?F ?N ?m ?z ?_; (case F => k_asm); (case N => k_asm); (case m => k_mem); (case z => first | assumption | omega); k_whole); intro D' c' h' F' N' l1; (try k_lt l1); (try k_sweep)))
local macro_rules | `(tactic| k_mem) => `(tactic| first | ktr_member | exact List.mem_cons_self | (refine' List.mem_cons_of_mem _ ?_; k_mem))
local macro_rules | `(tactic| k_handed) => `(tactic| assumption)
section
open PySem PySem.W PyProof.Rows
theorem weight_small : ∀ {ns : List Int}, (∀ x ∈ ns, x.natAbs < 1000) → PyData.weightAll (ns.map PyData.int) ≤ 11 * ns.length
  | [], _ => by simp [PyData.weightAll]
  | x :: r, h => by
    have ih := weight_small (ns := r) fun y hy => h y (.tail _ hy)
    have hx := h x (.head _)
    have hw : PyData.weight (.int x) ≤ 10 := by
      unfold PyData.weight
      split
      · omega
      · rename_i q
        have q' : x.natAbs ≠ 0 := by
          intro e
          have : x = 0 := Int.natAbs_eq_zero.mp e
          rw [this] at q
          exact q rfl
        have : x.natAbs.log2 < 10 := (Nat.log2_lt q').mpr (by omega)
        omega
    simp only [List.map_cons, PyData.weightAll, List.length_cons]
    omega
theorem lay_small {ns : List Int} (h : ∀ x ∈ ns, x.natAbs < 1000) (hz : ns.length ≤ 1000) : PyData.layable0 (.list (ns.map .int)) = true := by
  have hw := weight_small h
  simp only [PyData.layable0, PyData.canLay0, PyData.depth, ke_canLayAll0, ke_depthAll, PyData.weight, Bool.true_and, Bool.and_eq_true, decide_eq_true_eq]
  have e : (2 : Nat) ^ 20 = 1048576 := by decide
  rw [e]
  exact ⟨by omega, decide_eq_true (by omega)⟩
end
local macro_rules | `(tactic| walk_at "call builtin:list.index") => `(tactic| (k_here; (with_reducible show wpAny _ _ (call (Value.builtin _) [Value.ref _, Value.int _ _]) _ _ _); (k_dflt (refine' index_list_ints ?l ?i ?y ?k ?_; (case l => exact News.isList (by k_asm) (by k_mem)); (case i => assumption); (case y => assumption); (case k => assumption); k_whole))))
local macro_rules | `(tactic| walk_at "subscriptTail Name Slice ref ref") => `(tactic| (k_here; (with_reducible show wpAny _ _ (subscriptTail _ (PySem.Expr.Slice _ _ none _) (Value.ref _) (Value.ref _)) _ _ _); k_dflt (refine' kmk_slice_ints ?F ?N ?l ?p ?q ?i ?m ?c ?_ ?s ?t ?z; (case F => k_asm); (case N => k_asm); (case l => exact News.isList (by k_asm) (by k_mem)); (case p => kmk_part); (case q => kmk_part); (case i => assumption); (case m => first | exact kmk_from (by assumption) (by omega) | exact kmk_upto (by assumption) (by omega) | exact kmk_upto_neg (by assumption) (by omega)); (case c => exact rfl); (case s => with_unfolding_all rfl); (case t => kmk_pure); (case z => first | exact kmk_sz (by assumption) (line_le (by omega)) | exact kmk_sz (by assumption) (line_le (by assumption))); k_whole); intro D' ws' h' F' N' l1 hI' hC' hL'; (try k_lt l1); (try k_sweep)))
section
open PySem PySem.W PyProof.Rows
theorem m_append {prog : Program} {w : World} {A : Around} {E : Value → Shared → Prop} {s : Shared} {h₀ : Heap} {L : Addr} {m : Str → Option Value} {news : Led} {Q : Value → Shared → Prop} {l : Addr} {vs : List Value} {n : Nat} {x : Value} (F : Fr h₀ L s.heap m) (N : News h₀ L s.heap news) (hm : (l, listOf vs.toArray n) ∈ news)
    (hz : vs.length ≤ 1000) (h : ∀ h', Fr h₀ L h' m → News h₀ L h' (upd l (listOf (vs ++ [x]).toArray (n + 1)) news) → Q .none { s with heap := h' }) :
    wpAny (model prog w) A (call (.builtin "list.append") [.ref l, x]) Q E s :=
  append_at (hsz := by rw [List.size_toArray]; exact line_le hz) (N _ hm).1 fun h' hs ho' => h h' (F.change hs (N _ hm).2.1 (N _ hm).2.2) (News_upd N hm hs (by rw [ho']; simp))
theorem Upd_of {a : Addr} {o o' : Obj} : ∀ {l : Led}, Apart l → (a, o) ∈ l → Upd a o o' l (upd a o' l)
  | p :: r, A, h => by
    have hn := Apart.ne (a := p.1) (o := p.2) (l := r) A
    rcases List.mem_cons.mp h with e | h
    · subst e
      have er : upd a o' r = r := by
        unfold upd
        refine (List.map_congr_left (g := id) (fun q hq => ?_)).trans (List.map_id r)
        exact if_neg (hn q hq)
      have : upd a o' ((a, o) :: r) = (a, o') :: r := by
        show (if (a, o).1 = a then (a, o') else (a, o)) :: upd a o' r = _
        rw [if_pos rfl, er]
      rw [this]
      exact .head hn
    · have hne : p.1 ≠ a := fun e => hn _ h e.symm
      have : upd a o' (p :: r) = p :: upd a o' r := by
        show (if p.1 = a then (a, o') else p) :: upd a o' r = _
        rw [if_neg hne]
      rw [this]
      exact .tail hne (Upd_of (Apart.tl A) h)
theorem ints_kf : ∀ {vs : List Value} {ns : List Int}, IntsAre vs ns → kf_ints vs = true
  | _, _, .nil => rfl
  | _, _, .cons (vs := vs) n t h => by
    have : kf_ints (.int n t :: vs) = kf_ints vs := rfl
    rw [this]; exact ints_kf h
theorem ints_at {k : Int} : ∀ {vs : List Value} {ns : List Int}, IntsAre vs ns → k ∈ ns → kf_at k vs = some (ns.idxOf k)
  | _, _, .cons n t h, hk => by
    unfold kf_at
    by_cases e : n = k
    · subst e; simp [isInt]
    · have e' : (n == k) = false := beq_false_of_ne e
      rcases List.mem_cons.mp hk with q | hk
      · exact absurd q.symm e
      · rw [ints_at h hk, List.idxOf_cons, e']
        have e2 : isInt k (Value.int n t) = false := e'
        rw [e2]; rfl
theorem m_remove {prog : Program} {w : World} {A : Around} {E : Value → Shared → Prop} {s : Shared} {h₀ : Heap} {L : Addr} {m : Str → Option Value} {news : Led} {Q : Value → Shared → Prop} {l : Addr} {vs : List Value} {ns : List Int} {n : Nat} {k : Int} {t : Tok} (F : Fr h₀ L s.heap m) (N : News h₀ L s.heap news) (Ap : Apart news)
    (hm : (l, listOf vs.toArray n) ∈ news) (hI : IntsAre vs ns) (hk : k ∈ ns) (hz : vs.length ≤ 1000) (h : ∀ h', Fr h₀ L h' m → News h₀ L h' (upd l (listOf (vs.eraseIdx (ns.idxOf k)).toArray (n + 1)) news) → Q .none { s with heap := h' }) :
    wpAny (model prog w) A (call (.builtin "list.remove") [.ref l, .int k t]) Q E s :=
  kf_remove F N (its := vs.toArray) (ints_kf hI) (ints_at hI hk) (del_of (by rw [hI.length]; exact List.idxOf_lt_length_iff.mpr hk)) (Upd_of Ap hm) (line_le hz) h
where
  del_of {l : List Value} {j : Nat} (hj : j < l.length) : ki_delL l j = some (l.eraseIdx j) := by
    induction l generalizing j with
    | nil => cases hj
    | cons a r ih =>
      cases j with
      | zero => rfl
      | succ j =>
        unfold ki_delL
        rw [ih (Nat.lt_of_succ_lt_succ hj)]; rfl
theorem m_itemK {prog : Program} {w : World} {A : Around} {E : Value → Shared → Prop} {s : Shared} {h₀ : Heap} {L : Addr} {news : Led} {value slice : Expr} {a : Addr} {l : List Value} {n : Nat} {k : Int} {u : Tok} {x : Value} {Q : Value → Shared → Prop} (N : News h₀ L s.heap news) (hm : (a, listOf l.toArray n) ∈ news) (h0 : 0 ≤ k) (hfit : k < 2 ^ 63) (hx : l[k.toNat]? = some x) (h : Q x s)
    (hs : subscripted slice false (.ref a) (.int k u) = operate [.ref a, .int k u] (getItem (.ref a) (.int k u)) := by with_unfolding_all rfl) (hg : ∀ r, letTemporaryGo value (.ref a) r = pure () := by intro _; with_unfolding_all rfl) :
    wpAny (model prog w) A (subscriptTail value slice (.ref a) (.int k u)) Q E s :=
  item_listL (N.isList hm) h0 hfit hx h hs hg
end
local macro_rules | `(tactic| walk_at "subscriptTail") => `(tactic| (k_here; (with_reducible show wpAny _ _ (subscriptTail _ _ (Value.ref _) (Value.int _ _)) _ _ _); k_dflt (refine' m_itemK ?N ?m ?a ?b ?x ?_; (case N => k_asm); (case m => k_mem); (case a => decide); (case b => decide); (case x => rfl); k_whole)))
local macro_rules | `(tactic| k_all) => `(tactic| assumption)
section
open PySem PySem.W PyProof.Rows
theorem m_cat {prog : Program} {w : World} {A : Around} {E : Value → Shared → Prop} {s : Shared} {h₀ : Heap} {L : Addr} {m : Str → Option Value} {news : Led} {Q : Value → Shared → Prop} {a b : Addr} {xs ys : List Value} {na nb : Nat} (F : Fr h₀ L s.heap m) (N : News h₀ L s.heap news)
    (ha : (a, listOf xs.toArray na) ∈ news) (hb : (b, listOf ys.toArray nb) ∈ news) (hz : xs.length + ys.length ≤ 1000)
    (h : ∀ D h', Fr h₀ L h' m → News h₀ L h' ((D, listOf (xs ++ ys).toArray 0) :: news) → (∀ p ∈ news, p.1 < D) → Q (.ref D) { s with heap := h' }) :
    wpAny (model prog w) A (binaryOp .Add (.ref a) (.ref b)) Q E s :=
  add_arrays (hsz := by rw [List.size_toArray, List.size_toArray]; exact line_le hz) F N (N.isList ha) (N.isList hb) fun h' F' N' => h _ h' F' N' fun p hp => Heap.lt_size (N p hp).1
theorem m_append_head {prog : Program} {w : World} {A : Around} {E : Value → Shared → Prop} {s : Shared} {h₀ : Heap} {L : Addr} {m : Str → Option Value} {l : Led} {Q : Value → Shared → Prop} {a : Addr} {vs : List Value} {n : Nat} {x : Value} (F : Fr h₀ L s.heap m) (N : News h₀ L s.heap ((a, listOf vs.toArray n) :: l)) (hne : ∀ p ∈ l, p.1 ≠ a)
    (hz : vs.length ≤ 1000) (h : ∀ h', Fr h₀ L h' m → News h₀ L h' ((a, listOf (vs ++ [x]).toArray (n + 1)) :: l) → Q .none { s with heap := h' }) :
    wpAny (model prog w) A (call (.builtin "list.append") [.ref a, x]) Q E s :=
  append_K (hsz := by rw [List.size_toArray]; exact line_le hz) F N (.head hne) fun h' F' N' => h h' F' (by simpa using N')
end
local macro_rules | `(tactic| walk_at "binaryOp Add ref ref") => `(tactic| (k_here; (with_reducible show wpAny _ _ (binaryOp _ (Value.ref _) (Value.ref _)) _ _ _); k_dflt (refine' m_cat ?F ?N ?a ?b ?z ?_; (case F => k_asm); (case N => k_asm); (case a => k_mem); (case b => k_mem); (case z => (simp only [List.length_append, List.length_cons, List.length_nil]; omega)); k_whole); intro D' h' F' N' l1; (try k_lt l1); (try k_sweep)))
section
open PySem PySem.W PyProof.Rows
theorem m_append_led {prog : Program} {w : World} {A : Around} {E : Value → Shared → Prop} {s : Shared} {h₀ : Heap} {L : Addr} {m : Str → Option Value} {news news' : Led} {Q : Value → Shared → Prop} {a : Addr} {vs : List Value} {n : Nat} {x : Value} (F : Fr h₀ L s.heap m) (N : News h₀ L s.heap news)
    (U : Upd a (listOf vs.toArray n) (listOf (vs ++ [x]).toArray (n + 1)) news news') (hz : vs.length ≤ 1000) (h : ∀ h', Fr h₀ L h' m → News h₀ L h' news' → Q .none { s with heap := h' }) :
    wpAny (model prog w) A (call (.builtin "list.append") [.ref a, x]) Q E s :=
  append_K (its := vs.toArray) (n := n) (hsz := by rw [List.size_toArray]; exact line_le hz) F N (by simpa using U) h
theorem permMid (l A B : Led) : (l ++ (A ++ B)).Perm (A ++ (l ++ B)) := by
  rw [← List.append_assoc, ← List.append_assoc]
  exact List.perm_append_comm.append_right _
end
local macro_rules | `(tactic| walk_at "call builtin:list.append") => `(tactic| (k_here; (with_reducible show wpAny _ _ (call (Value.builtin _) [Value.ref _, _]) _ _ _); k_dflt (refine' m_append_led ?F ?N ?U ?z ?_; (case F => k_asm); (case N => k_asm); (case U => k_upd); (case z => first | assumption | omega); k_whole); intro h' F' N'; (try k_sweep)))
local macro_rules | `(tactic| walk_at "setItem ref int") => `(tactic| (k_here; k_dflt (refine' kda_set (knd := PySem.intKind _ _) ?F ?N ?U ?d (intKind_is _ _ _ _) ?z ?_; (case F => k_asm); (case N => k_asm); (case U => k_updF); (case d => assumption); (case z => exact line_le (by assumption))); intro h' o' F' N' hd'; (try dsimp only at N')))
/-! Tree -/
section
open PySem PySem.W PyProof.Rows
/-- one node's objects: the object itself, its dict, the three lists -/
structure RowD where
  x : Addr
  d : Addr
  c : Addr
  a : Addr
  n : Addr
  k : Nat → Tok
  kind : Str
  name : Str
  uri : Str
  loc : Str
  value : Str
  par : Value
  ch : List Value
  cn : Nat
  at_ : List Value
  an : Nat
  ns : List Value
  nn : Nat
def RowD.es (w : World) (r : RowD) : List DictEntry :=
  [⟨PyData.keyHash w.params "kind", .str "kind" (r.k 0), .str r.kind (r.k 1)⟩,
   ⟨PyData.keyHash w.params "name", .str "name" (r.k 2), .str r.name (r.k 3)⟩,
   ⟨PyData.keyHash w.params "uri", .str "uri" (r.k 4), .str r.uri (r.k 5)⟩,
   ⟨PyData.keyHash w.params "local", .str "local" (r.k 6), .str r.loc (r.k 7)⟩,
   ⟨PyData.keyHash w.params "value", .str "value" (r.k 8), .str r.value (r.k 9)⟩,
   ⟨PyData.keyHash w.params "parent", .str "parent" (r.k 10), r.par⟩,
   ⟨PyData.keyHash w.params "children", .str "children" (r.k 11), .ref r.c⟩,
   ⟨PyData.keyHash w.params "attributes", .str "attributes" (r.k 12), .ref r.a⟩,
   ⟨PyData.keyHash w.params "namespaces", .str "namespaces" (r.k 13), .ref r.n⟩]
def RowD.led (w : World) (r : RowD) : Led :=
  [(r.x, instObj 106 r.d), (r.d, dictOf (r.es w) 9), (r.c, listOf r.ch.toArray r.cn), (r.a, listOf r.at_.toArray r.an), (r.n, listOf r.ns.toArray r.nn)]
/-- the tree's objects -/
structure TreeD where
  tr : Addr
  dt : Addr
  rl : Addr
  tk : Tok
  nv : Nat
  rows : List RowD
def rowsLed (w : World) (rs : List RowD) : Led := rs.flatMap (RowD.led w)
abbrev TreeD.refs (D : TreeD) : List Value := D.rows.map fun r : RowD => Value.ref r.x
abbrev TreeD.dobj (w : World) (D : TreeD) : Obj := dictOf [⟨PyData.keyHash w.params "rows", .str "rows" D.tk, .ref D.rl⟩] 1
def TreeD.top (w : World) (D : TreeD) : Led :=
  [(D.tr, instObj 295 D.dt), (D.dt, D.dobj w), (D.rl, listOf D.refs.toArray D.nv)]
def TreeD.led (w : World) (D : TreeD) : Led := D.top w ++ rowsLed w D.rows
def TreeD.set (D : TreeD) (i : Nat) (r : RowD) : TreeD := { D with rows := D.rows.set i r }
def TreeD.add (D : TreeD) (r : RowD) : TreeD := { D with rows := D.rows ++ [r], nv := D.nv + 1 }
theorem getElem?_lt {α : Type} {l : List α} {i : Nat} {x : α} (h : l[i]? = some x) : i < l.length := by
  rcases Nat.lt_or_ge i l.length with h' | h'
  · exact h'
  · rw [List.getElem?_eq_none h'] at h; cases h
theorem set_perm {α : Type} : ∀ {l : List α} {i : Nat}, i < l.length → ∀ y, (l.set i y).Perm (y :: l.eraseIdx i)
  | _ :: _, 0, _, _ => .refl _
  | a :: l, i + 1, h, y => ((set_perm (l := l) (i := i) (Nat.lt_of_succ_lt_succ h) y).cons a).trans (.swap ..)
theorem self_perm {α : Type} {l : List α} {i : Nat} {x : α} (h : l[i]? = some x) : l.Perm (x :: l.eraseIdx i) := by
  have e := set_perm (getElem?_lt h) x
  rwa [List.set_getElem?_self h] at e
where
  List.set_getElem?_self {α : Type} {l : List α} {i : Nat} {x : α} (h : l[i]? = some x) : l.set i x = l := by
    apply List.ext_getElem?
    intro j
    rw [List.getElem?_set]
    split
    · subst_vars; split
      · exact h.symm
      · rename_i q; exact absurd (getElem?_lt h) q
    · rfl
/-- all but the row i's own objects -/
def TreeD.oth (w : World) (D : TreeD) (i : Nat) : Led := D.top w ++ rowsLed w (D.rows.eraseIdx i)
theorem rowsLed_cons (w : World) (r : RowD) (l : List RowD) : rowsLed w (r :: l) = r.led w ++ rowsLed w l := by
  simp [rowsLed]
theorem rowsLed_append (w : World) (l l' : List RowD) : rowsLed w (l ++ l') = rowsLed w l ++ rowsLed w l' := by
  simp [rowsLed]
theorem rowsLed_perm (w : World) {l l' : List RowD} (h : l.Perm l') : (rowsLed w l).Perm (rowsLed w l') := List.Perm.flatMap_right _ h
theorem led_split (w : World) {D : TreeD} {i : Nat} {r r' : RowD} (hr : D.rows[i]? = some r) (hx : r'.x = r.x) : ((D.set i r').led w).Perm (r'.led w ++ D.oth w i) := by
  have ht : (D.set i r').top w = D.top w := by
    unfold TreeD.top TreeD.set
    have : (D.rows.set i r').map (fun r => Value.ref r.x) = D.rows.map fun r => Value.ref r.x := by
      rw [List.map_set, hx]
      apply List.ext_getElem?
      intro j
      rw [List.getElem?_set]
      split
      · subst_vars
        split
        · rw [List.getElem?_map, hr]; rfl
        · rename_i q; rw [List.length_map] at q; exact absurd (getElem?_lt hr) q
      · rfl
    simp only [this]
  unfold TreeD.led TreeD.oth
  rw [ht]
  have h2 : (rowsLed w (D.set i r').rows).Perm (r'.led w ++ rowsLed w (D.rows.eraseIdx i)) := by
    rw [← rowsLed_cons]
    exact rowsLed_perm w (set_perm (getElem?_lt hr) r')
  refine (h2.append_left _).trans ?_
  rw [← List.append_assoc, ← List.append_assoc]
  exact List.perm_append_comm.append_right _
theorem led_split0 (w : World) {D : TreeD} {i : Nat} {r : RowD} (hr : D.rows[i]? = some r) : (D.led w).Perm (r.led w ++ D.oth w i) := by
  have h := led_split w hr (r' := r) rfl
  have e : D.set i r = D := by
    unfold TreeD.set
    have : D.rows.set i r = D.rows := by
      apply List.ext_getElem?
      intro j
      rw [List.getElem?_set]
      split
      · subst_vars; split
        · exact hr.symm
        · rename_i q; exact absurd (getElem?_lt hr) q
      · rfl
    rw [this]
  rwa [e] at h
theorem mem_top1 (w : World) (D : TreeD) : (D.tr, instObj 295 D.dt) ∈ D.led w := .head _
theorem mem_top2 (w : World) (D : TreeD) : (D.dt, D.dobj w) ∈ D.led w := .tail _ (.head _)
theorem mem_top3 (w : World) (D : TreeD) : (D.rl, listOf D.refs.toArray D.nv) ∈ D.led w := .tail _ (.tail _ (.head _))
theorem mem_oth1 (w : World) (D : TreeD) (i : Nat) : (D.tr, instObj 295 D.dt) ∈ D.oth w i := .head _
theorem mem_oth2 (w : World) (D : TreeD) (i : Nat) : (D.dt, D.dobj w) ∈ D.oth w i := .tail _ (.head _)
theorem mem_oth3 (w : World) (D : TreeD) (i : Nat) : (D.rl, listOf D.refs.toArray D.nv) ∈ D.oth w i := .tail _ (.tail _ (.head _))
theorem mem_row (w : World) {D : TreeD} {i : Nat} {r : RowD} (hr : D.rows[i]? = some r) {p : Addr × Obj} (hp : p ∈ r.led w) : p ∈ D.led w :=
  List.mem_append.mpr (.inr (List.mem_flatMap.mpr ⟨r, List.mem_of_getElem? hr, hp⟩))
theorem mem_x (w : World) {D : TreeD} {i : Nat} {r : RowD} (hr : D.rows[i]? = some r) : (r.x, instObj 106 r.d) ∈ D.led w := mem_row w hr (.head _)
theorem mem_d (w : World) {D : TreeD} {i : Nat} {r : RowD} (hr : D.rows[i]? = some r) : (r.d, dictOf (r.es w) 9) ∈ D.led w := mem_row w hr (.tail _ (.head _))
theorem mem_c (w : World) {D : TreeD} {i : Nat} {r : RowD} (hr : D.rows[i]? = some r) : (r.c, listOf r.ch.toArray r.cn) ∈ D.led w := mem_row w hr (.tail _ (.tail _ (.head _)))
theorem mem_a (w : World) {D : TreeD} {i : Nat} {r : RowD} (hr : D.rows[i]? = some r) : (r.a, listOf r.at_.toArray r.an) ∈ D.led w := mem_row w hr (.tail _ (.tail _ (.tail _ (.head _))))
theorem mem_n (w : World) {D : TreeD} {i : Nat} {r : RowD} (hr : D.rows[i]? = some r) : (r.n, listOf r.ns.toArray r.nn) ∈ D.led w := mem_row w hr (.tail _ (.tail _ (.tail _ (.tail _ (.head _)))))
theorem row_keys (w : World) (r r' : RowD) (hx : r'.x = r.x) (hd : r'.d = r.d) (hc : r'.c = r.c) (ha : r'.a = r.a) (hn : r'.n = r.n) : (r'.led w).map (·.1) = (r.led w).map (·.1) := by
  simp [RowD.led, hx, hd, hc, ha, hn]
theorem Apart.set (w : World) {D : TreeD} {i : Nat} {r r' : RowD} {rest : Led} (A : Apart (D.led w ++ rest)) (hr : D.rows[i]? = some r) (hx : r'.x = r.x) (hd : r'.d = r.d) (hc : r'.c = r.c) (ha : r'.a = r.a) (hn : r'.n = r.n) :
    Apart ((D.set i r').led w ++ rest) := by
  have h1 : Apart ((r.led w ++ D.oth w i) ++ rest) := A.perm ((led_split0 w hr).append_right _)
  have h2 : Apart ((r'.led w ++ D.oth w i) ++ rest) := h1.keys (by simp [row_keys w r r' hx hd hc ha hn])
  exact h2.perm ((led_split w hr hx).symm.append_right _)
theorem mem_upd_sub {a : Addr} {o : Obj} {l l' : Led} (h : ∀ q ∈ l, q ∈ l') : ∀ q ∈ upd a o l, q ∈ upd a o l' := fun q hq => by
  obtain ⟨p, hp, e⟩ := List.mem_map.mp hq
  exact List.mem_map.mpr ⟨p, h p hp, e⟩
theorem upd_row (w : World) {D : TreeD} {i : Nat} {r r' : RowD} {rest : Led} {a : Addr} {o : Obj} (Ap : Apart (D.led w ++ rest)) (hr : D.rows[i]? = some r) (hx : r'.x = r.x) (ha : a ∈ (r.led w).map (·.1))
    (hm : Apart (r.led w) → ∀ q ∈ r'.led w, q ∈ upd a o (r.led w)) : ∀ q ∈ (D.set i r').led w ++ rest, q ∈ upd a o (D.led w ++ rest) := by
  have A1 : Apart (r.led w ++ (D.oth w i ++ rest)) := by
    rw [← List.append_assoc]
    exact Ap.perm ((led_split0 w hr).append_right _)
  have A2 : Apart (r.led w) := A1.sub (List.sublist_append_left _ _)
  have hd : ∀ q ∈ D.oth w i ++ rest, q.1 ≠ a := by
    intro q hq e
    unfold Apart at A1
    rw [List.map_append] at A1
    exact (List.nodup_append.mp A1).2.2 a ha q.1 (List.mem_map.mpr ⟨q, hq, rfl⟩) e.symm
  have hb : ∀ q ∈ D.oth w i ++ rest, q ∈ D.led w ++ rest := fun q hq => by
    have := ((led_split0 w hr).append_right rest).mem_iff (a := q)
    rw [this, List.append_assoc]
    exact List.mem_append_right _ hq
  intro q hq
  have h1 := ((led_split w hr hx).append_right rest).mem_iff (a := q)
  rw [List.append_assoc] at h1
  rcases List.mem_append.mp (h1.mp hq) with h2 | h2
  · refine mem_upd_sub (fun p hp => List.mem_append_left _ (mem_row w hr hp)) q (hm A2 q h2)
  · exact mem_upd_ne (hb q h2) (hd q h2)
theorem upd_c (w : World) (r : RowD) (vs : List Value) (n : Nat) (A : Apart (r.led w)) : ∀ q ∈ ({ r with ch := vs, cn := n } : RowD).led w, q ∈ upd r.c (listOf vs.toArray n) (r.led w) := by
  unfold Apart at A
  simp only [RowD.led, List.map_cons, List.map_nil, List.nodup_cons, List.mem_cons, List.not_mem_nil, or_false, not_or] at A
  obtain ⟨⟨_, h2, _, _⟩, ⟨h5, _, _⟩, ⟨h8, h9⟩, _⟩ := A
  have e : upd r.c (listOf vs.toArray n) (r.led w) = ({ r with ch := vs, cn := n } : RowD).led w := by
    simp [upd, RowD.led, h2, h5, Ne.symm h8, Ne.symm h9, RowD.es]
  rw [e]; exact fun q hq => hq
theorem upd_a (w : World) (r : RowD) (vs : List Value) (n : Nat) (A : Apart (r.led w)) : ∀ q ∈ ({ r with at_ := vs, an := n } : RowD).led w, q ∈ upd r.a (listOf vs.toArray n) (r.led w) := by
  unfold Apart at A
  simp only [RowD.led, List.map_cons, List.map_nil, List.nodup_cons, List.mem_cons, List.not_mem_nil, or_false, not_or] at A
  obtain ⟨⟨_, _, h3, _⟩, ⟨_, h6, _⟩, ⟨h8, h9⟩, h10, _⟩ := A
  have e : upd r.a (listOf vs.toArray n) (r.led w) = ({ r with at_ := vs, an := n } : RowD).led w := by
    simp [upd, RowD.led, h3, h6, h8, Ne.symm h10, RowD.es]
  rw [e]; exact fun q hq => hq
theorem upd_n (w : World) (r : RowD) (vs : List Value) (n : Nat) (A : Apart (r.led w)) : ∀ q ∈ ({ r with ns := vs, nn := n } : RowD).led w, q ∈ upd r.n (listOf vs.toArray n) (r.led w) := by
  unfold Apart at A
  simp only [RowD.led, List.map_cons, List.map_nil, List.nodup_cons, List.mem_cons, List.not_mem_nil, or_false, not_or] at A
  obtain ⟨⟨_, _, _, h4⟩, ⟨_, _, h7⟩, ⟨h8, h9⟩, h10, _⟩ := A
  have e : upd r.n (listOf vs.toArray n) (r.led w) = ({ r with ns := vs, nn := n } : RowD).led w := by
    simp [upd, RowD.led, h4, h7, h9, h10, RowD.es]
  rw [e]; exact fun q hq => hq
theorem upd_d (w : World) (r : RowD) (v : Value) (A : Apart (r.led w)) : ∀ q ∈ ({ r with par := v } : RowD).led w, q ∈ upd r.d (dictOf (({ r with par := v } : RowD).es w) 9) (r.led w) := by
  unfold Apart at A
  simp only [RowD.led, List.map_cons, List.map_nil, List.nodup_cons, List.mem_cons, List.not_mem_nil, or_false, not_or] at A
  obtain ⟨⟨h1, _, _, _⟩, ⟨h5, h6, h7⟩, _⟩ := A
  have e : upd r.d (dictOf (({ r with par := v } : RowD).es w) 9) (r.led w) = ({ r with par := v } : RowD).led w := by
    simp [upd, RowD.led, h1, Ne.symm h5, Ne.symm h6, Ne.symm h7]
  rw [e]; exact fun q hq => hq
theorem key_c (w : World) (r : RowD) : r.c ∈ (r.led w).map (·.1) := by simp [RowD.led]
theorem key_a (w : World) (r : RowD) : r.a ∈ (r.led w).map (·.1) := by simp [RowD.led]
theorem key_n (w : World) (r : RowD) : r.n ∈ (r.led w).map (·.1) := by simp [RowD.led]
theorem key_d (w : World) (r : RowD) : r.d ∈ (r.led w).map (·.1) := by simp [RowD.led]
end
/-! C1 -/
section
variable {w : World} {D : TreeD} {i : Nat} {r : RowD} {t : Tok}
theorem map_get {D : TreeD} {i : Nat} {r : RowD} (hr : D.rows[i]? = some r) : D.refs[i]? = some (.ref r.x) := by
  show (D.rows.map _)[i]? = _
  rw [List.getElem?_map, hr]; rfl
set_option maxRecDepth 100000 in
set_option maxHeartbeats 8000000 in
theorem c_row (hr : D.rows[i]? = some r) (hz : D.rows.length < 1000) :
    Con w 138 900 9000 [.ref D.tr, .int i t] (fun n => ∀ p ∈ D.led w, p ∈ n) (fun n v n' => n' = n ∧ v = .ref r.x) := by
  refine Con.of fun tpv lov mean mg mb gd cn cs a ccd cl outer A₀ base h₀ L m news s Q E hkk B F X N Ap T P ret => ?_
  have h1 := P _ (mem_top1 w D)
  have h2 := P _ (mem_top2 w D)
  have h3 := P _ (mem_top3 w D)
  have hx := map_get hr
  have hil := getElem?_lt hx
  have hlz : D.refs.length < 1000000 := by show (D.rows.map _).length < _; rw [List.length_map]; omega
  generalize D.refs = rs at *
  refine wpAny_call ?_
  k_dflt ktr_enter
  repeat' (first | (k_unfold; (try dsimp only)) | ((fail_if_success (with_reducible show wpAny _ _ (call (Value.ref _) _ _) _ _ _)); walk1) | (dsimp only; ((fail_if_success (with_reducible show wpAny _ _ (call (Value.ref _) _ _) _ _ _)); walk1)))
  exact ret _ _ _ _ (by k_asm) (by k_asm) (by assumption) ⟨rfl, rfl⟩
set_option maxRecDepth 100000 in
set_option maxHeartbeats 8000000 in
theorem c_kind (hr : D.rows[i]? = some r) (hz : D.rows.length < 1000) :
    Con w 215 890 8900 [.ref D.tr, .int i t] (fun n => ∀ p ∈ D.led w, p ∈ n) (fun n v n' => n' = n ∧ v = .str r.kind (r.k 1)) := by
  refine Con.of fun tpv lov mean mg mb gd cn cs a ccd cl outer A₀ base h₀ L m news s Q E hkk B F X N Ap T P ret => ?_
  have h1 := P _ (mem_top1 w D)
  have h2 := P _ (mem_top2 w D)
  have hx := P _ (mem_x w hr)
  have hdd := P _ (mem_d w hr)
  refine wpAny_call ?_
  k_dflt ktr_enter
  repeat' (first | (k_unfold; (try dsimp only)) | ((fail_if_success (with_reducible show wpAny _ _ (call (Value.ref _) _ _) _ _ _)); walk1) | (dsimp only; ((fail_if_success (with_reducible show wpAny _ _ (call (Value.ref _) _ _) _ _ _)); walk1)))
  (refine' Con.use (c_row hr hz) ?uhh1 ?uhf1 ?uhdp1 ?uhu1 ?uhk1 ?uB1 ?uF1 ?uX1 ?uN1 ?uT1 ?uAp1 ?uP1 ?_; (case uhh1 => exact rfl); (case uhf1 => exact rfl); (case uhdp1 => exact Nat.le_of_ble_eq_true rfl); (case uhu1 => exact Nat.le_of_ble_eq_true rfl); (case uhk1 => first | assumption | exact rfl); (case uB1 => k_asm); (case uF1 => k_asm); (case uX1 => k_asm); (case uN1 => k_asm); (case uT1 => k_asm); (case uAp1 => first | assumption | (repeat' (first | assumption | refine Apart.cons (by first | assumption | exact tb_ltOf (by assumption)) ?_))))
  · assumption
  rintro v n2 h2' tk2 F2 N2 Ap2 ⟨rfl, rfl⟩
  repeat' (first | (k_unfold; (try dsimp only)) | ((fail_if_success (with_reducible show wpAny _ _ (call (Value.ref _) _ _) _ _ _)); walk1) | (dsimp only; ((fail_if_success (with_reducible show wpAny _ _ (call (Value.ref _) _ _) _ _ _)); walk1)))
  exact ret _ _ _ _ (by k_asm) (by k_asm) (by assumption) ⟨rfl, rfl⟩
set_option maxRecDepth 100000 in
set_option maxHeartbeats 8000000 in
theorem c_parent (hr : D.rows[i]? = some r) (hz : D.rows.length < 1000) (hh : handedIn r.par = true) :
    Con w 250 890 8900 [.ref D.tr, .int i t] (fun n => ∀ p ∈ D.led w, p ∈ n) (fun n v n' => n' = n ∧ v = r.par) := by
  refine Con.of fun tpv lov mean mg mb gd cn cs a ccd cl outer A₀ base h₀ L m news s Q E hkk B F X N Ap T P ret => ?_
  have h1 := P _ (mem_top1 w D)
  have h2 := P _ (mem_top2 w D)
  have hx := P _ (mem_x w hr)
  have hdd := P _ (mem_d w hr)
  refine wpAny_call ?_
  k_dflt ktr_enter
  repeat' (first | (k_unfold; (try dsimp only)) | ((fail_if_success (with_reducible show wpAny _ _ (call (Value.ref _) _ _) _ _ _)); walk1) | (dsimp only; ((fail_if_success (with_reducible show wpAny _ _ (call (Value.ref _) _ _) _ _ _)); walk1)))
  (refine' Con.use (c_row hr hz) ?uhh2 ?uhf2 ?uhdp2 ?uhu2 ?uhk2 ?uB2 ?uF2 ?uX2 ?uN2 ?uT2 ?uAp2 ?uP2 ?_; (case uhh2 => exact rfl); (case uhf2 => exact rfl); (case uhdp2 => exact Nat.le_of_ble_eq_true rfl); (case uhu2 => exact Nat.le_of_ble_eq_true rfl); (case uhk2 => first | assumption | exact rfl); (case uB2 => k_asm); (case uF2 => k_asm); (case uX2 => k_asm); (case uN2 => k_asm); (case uT2 => k_asm); (case uAp2 => first | assumption | (repeat' (first | assumption | refine Apart.cons (by first | assumption | exact tb_ltOf (by assumption)) ?_))))
  · assumption
  rintro v n2 h2' tk2 F2 N2 Ap2 ⟨rfl, rfl⟩
  repeat' (first | (k_unfold; (try dsimp only)) | ((fail_if_success (with_reducible show wpAny _ _ (call (Value.ref _) _ _) _ _ _)); walk1) | (dsimp only; ((fail_if_success (with_reducible show wpAny _ _ (call (Value.ref _) _ _) _ _ _)); walk1)))
  exact ret _ _ _ _ (by k_asm) (by k_asm) (by assumption) ⟨rfl, rfl⟩
set_option maxRecDepth 100000 in
set_option maxHeartbeats 8000000 in
theorem c_children (hr : D.rows[i]? = some r) (hz : D.rows.length < 1000) (hc : r.ch.length ≤ 1000) :
    Con w 257 890 8900 [.ref D.tr, .int i t] (fun n => ∀ p ∈ D.led w, p ∈ n) (fun n v n' => ∃ l c, v = .ref l ∧ n' = (l, listOf r.ch.toArray c) :: n ∧ ∀ p ∈ n, p.1 < l) := by
  refine Con.of fun tpv lov mean mg mb gd cn cs a ccd cl outer A₀ base h₀ L m news s Q E hkk B F X N Ap T P ret => ?_
  have h1 := P _ (mem_top1 w D)
  have h2 := P _ (mem_top2 w D)
  have hx := P _ (mem_x w hr)
  have hdd := P _ (mem_d w hr)
  have hcc := P _ (mem_c w hr)
  refine wpAny_call ?_
  k_dflt ktr_enter
  repeat' (first | (k_unfold; (try dsimp only)) | ((fail_if_success (with_reducible show wpAny _ _ (call (Value.ref _) _ _) _ _ _)); walk1) | (dsimp only; ((fail_if_success (with_reducible show wpAny _ _ (call (Value.ref _) _ _) _ _ _)); walk1)))
  (refine' Con.use (c_row hr hz) ?uhh3 ?uhf3 ?uhdp3 ?uhu3 ?uhk3 ?uB3 ?uF3 ?uX3 ?uN3 ?uT3 ?uAp3 ?uP3 ?_; (case uhh3 => exact rfl); (case uhf3 => exact rfl); (case uhdp3 => exact Nat.le_of_ble_eq_true rfl); (case uhu3 => exact Nat.le_of_ble_eq_true rfl); (case uhk3 => first | assumption | exact rfl); (case uB3 => k_asm); (case uF3 => k_asm); (case uX3 => k_asm); (case uN3 => k_asm); (case uT3 => k_asm); (case uAp3 => first | assumption | (repeat' (first | assumption | refine Apart.cons (by first | assumption | exact tb_ltOf (by assumption)) ?_))))
  · assumption
  rintro v n2 h2' tk2 F2 N2 Ap2 ⟨rfl, rfl⟩
  repeat' (first | (k_unfold; (try dsimp only)) | ((fail_if_success (with_reducible show wpAny _ _ (call (Value.ref _) _ _) _ _ _)); walk1) | (dsimp only; ((fail_if_success (with_reducible show wpAny _ _ (call (Value.ref _) _ _) _ _ _)); walk1)))
  exact ret _ _ _ _ (by k_asm) (by k_asm) (Apart.cons (by assumption) (by assumption)) ⟨_, _, rfl, rfl, by assumption⟩
set_option maxRecDepth 100000 in
set_option maxHeartbeats 8000000 in
theorem c_element_row (hr : D.rows[i]? = some r) (hz : D.rows.length < 1000) (he : r.kind = "element") :
    Con w 187 890 8900 [.ref D.tr, .int i t] (fun n => ∀ p ∈ D.led w, p ∈ n) (fun n v n' => n' = n ∧ v = .ref r.x) := by
  refine Con.of fun tpv lov mean mg mb gd cn cs a ccd cl outer A₀ base h₀ L m news s Q E hkk B F X N Ap T P ret => ?_
  have h1 := P _ (mem_top1 w D)
  have h2 := P _ (mem_top2 w D)
  have hx := P _ (mem_x w hr)
  have hdd := P _ (mem_d w hr)
  unfold RowD.es at hdd
  rw [he] at hdd
  refine wpAny_call ?_
  k_dflt ktr_enter
  repeat' (first | (k_unfold; (try dsimp only)) | ((fail_if_success (with_reducible show wpAny _ _ (call (Value.ref _) _ _) _ _ _)); walk1) | (dsimp only; ((fail_if_success (with_reducible show wpAny _ _ (call (Value.ref _) _ _) _ _ _)); walk1)))
  (refine' Con.use (c_row hr hz) ?uhh4 ?uhf4 ?uhdp4 ?uhu4 ?uhk4 ?uB4 ?uF4 ?uX4 ?uN4 ?uT4 ?uAp4 ?uP4 ?_; (case uhh4 => exact rfl); (case uhf4 => exact rfl); (case uhdp4 => exact Nat.le_of_ble_eq_true rfl); (case uhu4 => exact Nat.le_of_ble_eq_true rfl); (case uhk4 => first | assumption | exact rfl); (case uB4 => k_asm); (case uF4 => k_asm); (case uX4 => k_asm); (case uN4 => k_asm); (case uT4 => k_asm); (case uAp4 => first | assumption | (repeat' (first | assumption | refine Apart.cons (by first | assumption | exact tb_ltOf (by assumption)) ?_))))
  · assumption
  rintro v n2 h2' tk2 F2 N2 Ap2 ⟨rfl, rfl⟩
  repeat' (first | (k_unfold; (try dsimp only)) | ((fail_if_success (with_reducible show wpAny _ _ (call (Value.ref _) _ _) _ _ _)); walk1) | (dsimp only; ((fail_if_success (with_reducible show wpAny _ _ (call (Value.ref _) _ _) _ _ _)); walk1)))
  exact ret _ _ _ _ (by k_asm) (by k_asm) (by assumption) ⟨rfl, rfl⟩
def besideStr (k : Str) : Bool := (["attribute", "namespace"] : List Str).any (· == k)
set_option maxRecDepth 100000 in
set_option maxHeartbeats 8000000 in
theorem c_is_beside (hr : D.rows[i]? = some r) (hz : D.rows.length < 1000) :
    Con w 28 880 8800 [.ref D.tr, .int i t] (fun n => ∀ p ∈ D.led w, p ∈ n) (fun n v n' => n' = n ∧ v = .bool (besideStr r.kind)) := by
  refine Con.of fun tpv lov mean mg mb gd cn cs a ccd cl outer A₀ base h₀ L m news s Q E hkk B F X N Ap T P ret => ?_
  have h1 := P _ (mem_top1 w D)
  have h2 := P _ (mem_top2 w D)
  refine wpAny_call ?_
  k_dflt ktr_enter
  repeat' (first | (k_unfold; (try dsimp only)) | ((fail_if_success (with_reducible show wpAny _ _ (call (Value.ref _) _ _) _ _ _)); walk1) | (dsimp only; ((fail_if_success (with_reducible show wpAny _ _ (call (Value.ref _) _ _) _ _ _)); walk1)))
  (refine' Con.use (c_kind hr hz) ?uhh5 ?uhf5 ?uhdp5 ?uhu5 ?uhk5 ?uB5 ?uF5 ?uX5 ?uN5 ?uT5 ?uAp5 ?uP5 ?_; (case uhh5 => exact rfl); (case uhf5 => exact rfl); (case uhdp5 => exact Nat.le_of_ble_eq_true rfl); (case uhu5 => exact Nat.le_of_ble_eq_true rfl); (case uhk5 => first | assumption | exact rfl); (case uB5 => k_asm); (case uF5 => k_asm); (case uX5 => k_asm); (case uN5 => k_asm); (case uT5 => k_asm); (case uAp5 => first | assumption | (repeat' (first | assumption | refine Apart.cons (by first | assumption | exact tb_ltOf (by assumption)) ?_))))
  · assumption
  rintro v n2 h2' tk2 F2 N2 Ap2 ⟨rfl, rfl⟩
  repeat' (first | (k_unfold; (try dsimp only)) | ((fail_if_success (with_reducible show wpAny _ _ (call (Value.ref _) _ _) _ _ _)); walk1) | (dsimp only; ((fail_if_success (with_reducible show wpAny _ _ (call (Value.ref _) _ _) _ _ _)); walk1)))
  exact ret _ _ _ _ (by k_asm) (News_sub (fun _ hq => List.Mem.tail _ hq) (by k_asm)) (by assumption) ⟨rfl, rfl⟩
end
/-! C2 -/
section
theorem ints_else {b : Bool} {vs : List Value} {a c d : List Int} (hb : b = false) (h : IntsAre vs c) (e : c = d) : IntsAre vs (if b then a else d) := by
  subst hb; subst e; exact h
variable {w : World} {D : TreeD} {i : Nat} {r : RowD} {t : Tok}
set_option maxRecDepth 100000 in
set_option maxHeartbeats 8000000 in
theorem c_ahead0 (hr : D.rows[i]? = some r) (hz : D.rows.length < 1000) (hp : r.par = .none) :
    Con w 35 870 8700 [.ref D.tr, .int i t] (fun n => ∀ p ∈ D.led w, p ∈ n) (fun n v n' => ∃ l vs c, v = .ref l ∧ n' = (l, listOf vs.toArray c) :: n ∧ (∀ p ∈ n, p.1 < l) ∧ IntsAre vs []) := by
  refine Con.of fun tpv lov mean mg mb gd cn cs a ccd cl outer A₀ base h₀ L m news s Q E hkk B F X N Ap T P ret => ?_
  have h1 := P _ (mem_top1 w D)
  have h2 := P _ (mem_top2 w D)
  refine wpAny_call ?_
  k_dflt ktr_enter
  repeat' (first | (k_unfold; (try dsimp only)) | ((fail_if_success (with_reducible show wpAny _ _ (call (Value.ref _) _ _) _ _ _)); walk1) | (dsimp only; ((fail_if_success (with_reducible show wpAny _ _ (call (Value.ref _) _ _) _ _ _)); walk1)))
  (refine' Con.use (c_parent hr hz (by rw [hp]; rfl)) ?uhh6 ?uhf6 ?uhdp6 ?uhu6 ?uhk6 ?uB6 ?uF6 ?uX6 ?uN6 ?uT6 ?uAp6 ?uP6 ?_; (case uhh6 => exact rfl); (case uhf6 => exact rfl); (case uhdp6 => exact Nat.le_of_ble_eq_true rfl); (case uhu6 => exact Nat.le_of_ble_eq_true rfl); (case uhk6 => first | assumption | exact rfl); (case uB6 => k_asm); (case uF6 => k_asm); (case uX6 => k_asm); (case uN6 => k_asm); (case uT6 => k_asm); (case uAp6 => first | assumption | (repeat' (first | assumption | refine Apart.cons (by first | assumption | exact tb_ltOf (by assumption)) ?_))))
  · assumption
  rintro v n2 h2' tk2 F2 N2 Ap2 ⟨rfl, rfl⟩
  rw [hp]
  repeat' (first | (k_unfold; (try dsimp only)) | ((fail_if_success (with_reducible show wpAny _ _ (call (Value.ref _) _ _) _ _ _)); walk1) | (dsimp only; ((fail_if_success (with_reducible show wpAny _ _ (call (Value.ref _) _ _) _ _ _)); walk1)))
  exact ret _ _ _ _ (by k_asm) (by k_asm) (Apart.cons (by first | assumption | exact tb_ltOf (by assumption) | exact tb_ltOf (by tbn_find)) (by assumption)) ⟨_, [], 0, rfl, rfl, (by first | assumption | exact tb_ltOf (by assumption) | exact tb_ltOf (by tbn_find)), .nil⟩
set_option maxRecDepth 100000 in
set_option maxHeartbeats 8000000 in
theorem c_ahead1 {p : Nat} {tp : Tok} {rp : RowD} {ns : List Int} (hr : D.rows[i]? = some r) (hz : D.rows.length < 1000) (hp : r.par = .int p tp) (hpr : D.rows[p]? = some rp) (hc : rp.ch.length ≤ 1000) (hI : IntsAre rp.ch ns)
    (hm : besideStr r.kind = false → (i : Int) ∈ ns) (hs : ∀ x ∈ ns, x.natAbs < 1000) :
    Con w 35 870 8700 [.ref D.tr, .int i t] (fun n => ∀ p ∈ D.led w, p ∈ n) (fun n v n' => ∃ l vs c, v = .ref l ∧ n' = (l, listOf vs.toArray c) :: n ∧ (∀ p ∈ n, p.1 < l) ∧
      IntsAre vs (if besideStr r.kind then [] else (ns.take (ns.idxOf (i : Int))).reverse)) := by
  refine Con.of fun tpv lov mean mg mb gd cn cs a ccd cl outer A₀ base h₀ L m news s Q E hkk B F X N Ap T P ret => ?_
  have h1 := P _ (mem_top1 w D)
  have h2 := P _ (mem_top2 w D)
  refine wpAny_call ?_
  k_dflt ktr_enter
  repeat' (first | (k_unfold; (try dsimp only)) | ((fail_if_success (with_reducible show wpAny _ _ (call (Value.ref _) _ _) _ _ _)); walk1) | (dsimp only; ((fail_if_success (with_reducible show wpAny _ _ (call (Value.ref _) _ _) _ _ _)); walk1)))
  (refine' Con.use (c_parent hr hz (by rw [hp]; rfl)) ?uhh7 ?uhf7 ?uhdp7 ?uhu7 ?uhk7 ?uB7 ?uF7 ?uX7 ?uN7 ?uT7 ?uAp7 ?uP7 ?_; (case uhh7 => exact rfl); (case uhf7 => exact rfl); (case uhdp7 => exact Nat.le_of_ble_eq_true rfl); (case uhu7 => exact Nat.le_of_ble_eq_true rfl); (case uhk7 => first | assumption | exact rfl); (case uB7 => k_asm); (case uF7 => k_asm); (case uX7 => k_asm); (case uN7 => k_asm); (case uT7 => k_asm); (case uAp7 => first | assumption | (repeat' (first | assumption | refine Apart.cons (by first | assumption | exact tb_ltOf (by assumption)) ?_))))
  · assumption
  rintro v n2 h2' tk2 F2 N2 Ap2 ⟨rfl, rfl⟩
  rw [hp]
  repeat' (first | (k_unfold; (try dsimp only)) | ((fail_if_success (with_reducible show wpAny _ _ (call (Value.ref _) _ _) _ _ _)); walk1) | (dsimp only; ((fail_if_success (with_reducible show wpAny _ _ (call (Value.ref _) _ _) _ _ _)); walk1)))
  (refine' Con.use (c_is_beside hr hz) ?uhh8 ?uhf8 ?uhdp8 ?uhu8 ?uhk8 ?uB8 ?uF8 ?uX8 ?uN8 ?uT8 ?uAp8 ?uP8 ?_; (case uhh8 => exact rfl); (case uhf8 => exact rfl); (case uhdp8 => exact Nat.le_of_ble_eq_true rfl); (case uhu8 => exact Nat.le_of_ble_eq_true rfl); (case uhk8 => first | assumption | exact rfl); (case uB8 => k_asm); (case uF8 => k_asm); (case uX8 => k_asm); (case uN8 => k_asm); (case uT8 => k_asm); (case uAp8 => first | assumption | (repeat' (first | assumption | refine Apart.cons (by first | assumption | exact tb_ltOf (by assumption)) ?_))))
  · assumption
  rintro v n2 h2' tk2 F2 N2 Ap2 ⟨rfl, rfl⟩
  repeat' (first | (k_unfold; (try dsimp only)) | ((fail_if_success (with_reducible show wpAny _ _ (call (Value.ref _) _ _) _ _ _)); walk1) | (dsimp only; ((fail_if_success (with_reducible show wpAny _ _ (call (Value.ref _) _ _) _ _ _)); walk1)))
  · have hb : besideStr r.kind = true := by assumption
    exact ret _ _ _ _ (by k_asm) (by k_asm) (Apart.cons (by first | assumption | exact tb_ltOf (by assumption) | exact tb_ltOf (by tbn_find)) (by assumption)) ⟨_, [], 0, rfl, rfl, (by first | assumption | exact tb_ltOf (by assumption) | exact tb_ltOf (by tbn_find)), by rw [if_pos hb]; exact .nil⟩
  · have hb : besideStr r.kind = false := by assumption
    have hmm := hm hb
    have hnz : ns.length ≤ 1000 := by rw [← hI.length]; exact hc
    have hly := lay_small hs hnz
    (refine' Con.use (c_children hpr hz hc) ?uhh9 ?uhf9 ?uhdp9 ?uhu9 ?uhk9 ?uB9 ?uF9 ?uX9 ?uN9 ?uT9 ?uAp9 ?uP9 ?_; (case uhh9 => exact rfl); (case uhf9 => exact rfl); (case uhdp9 => exact Nat.le_of_ble_eq_true rfl); (case uhu9 => exact Nat.le_of_ble_eq_true rfl); (case uhk9 => first | assumption | exact rfl); (case uB9 => k_asm); (case uF9 => k_asm); (case uX9 => k_asm); (case uN9 => k_asm); (case uT9 => k_asm); (case uAp9 => first | assumption | (repeat' (first | assumption | refine Apart.cons (by first | assumption | exact tb_ltOf (by assumption)) ?_))))
    · assumption
    rintro v n2 h2' tk2 F2 N2 Ap2 ⟨l, c, rfl, rfl, hl⟩
    repeat' (first | (k_unfold; (try dsimp only)) | ((fail_if_success (with_reducible show wpAny _ _ (call (Value.ref _) _ _) _ _ _)); walk1) | (dsimp only; ((fail_if_success (with_reducible show wpAny _ _ (call (Value.ref _) _ _) _ _ _)); walk1)))
    have hI3 := (by assumption : IntsAre _ (List.reverse _))
    refine ret _ _ _ _ (by k_asm) (News_subN (by k_asm) (fun q hq => by (try simp only [List.mem_cons] at hq); (try simp only [List.mem_cons]); first | (simp [hq]; done) | (rcases hq with hq | hq <;> simp [hq]; done))) (Apart.cons (by first | assumption | exact tb_ltOf (by assumption) | exact tb_ltOf (by tbn_find)) Ap) ⟨_, _, 0, rfl, rfl, (by first | assumption | exact tb_ltOf (by assumption) | exact tb_ltOf (by tbn_find)), ints_else hb hI3 (by rw [show ((ns.idxOf (i : Int) : Nat) : Int).toNat = ns.idxOf (i : Int) by omega])⟩
set_option maxRecDepth 100000 in
set_option maxHeartbeats 8000000 in
theorem c_behind0 (hr : D.rows[i]? = some r) (hz : D.rows.length < 1000) (hp : r.par = .none) :
    Con w 42 870 8700 [.ref D.tr, .int i t] (fun n => ∀ p ∈ D.led w, p ∈ n) (fun n v n' => ∃ l vs c, v = .ref l ∧ n' = (l, listOf vs.toArray c) :: n ∧ (∀ p ∈ n, p.1 < l) ∧ IntsAre vs []) := by
  refine Con.of fun tpv lov mean mg mb gd cn cs a ccd cl outer A₀ base h₀ L m news s Q E hkk B F X N Ap T P ret => ?_
  have h1 := P _ (mem_top1 w D)
  have h2 := P _ (mem_top2 w D)
  refine wpAny_call ?_
  k_dflt ktr_enter
  repeat' (first | (k_unfold; (try dsimp only)) | ((fail_if_success (with_reducible show wpAny _ _ (call (Value.ref _) _ _) _ _ _)); walk1) | (dsimp only; ((fail_if_success (with_reducible show wpAny _ _ (call (Value.ref _) _ _) _ _ _)); walk1)))
  (refine' Con.use (c_parent hr hz (by rw [hp]; rfl)) ?uhh10 ?uhf10 ?uhdp10 ?uhu10 ?uhk10 ?uB10 ?uF10 ?uX10 ?uN10 ?uT10 ?uAp10 ?uP10 ?_; (case uhh10 => exact rfl); (case uhf10 => exact rfl); (case uhdp10 => exact Nat.le_of_ble_eq_true rfl); (case uhu10 => exact Nat.le_of_ble_eq_true rfl); (case uhk10 => first | assumption | exact rfl); (case uB10 => k_asm); (case uF10 => k_asm); (case uX10 => k_asm); (case uN10 => k_asm); (case uT10 => k_asm); (case uAp10 => first | assumption | (repeat' (first | assumption | refine Apart.cons (by first | assumption | exact tb_ltOf (by assumption)) ?_))))
  · assumption
  rintro v n2 h2' tk2 F2 N2 Ap2 ⟨rfl, rfl⟩
  rw [hp]
  repeat' (first | (k_unfold; (try dsimp only)) | ((fail_if_success (with_reducible show wpAny _ _ (call (Value.ref _) _ _) _ _ _)); walk1) | (dsimp only; ((fail_if_success (with_reducible show wpAny _ _ (call (Value.ref _) _ _) _ _ _)); walk1)))
  exact ret _ _ _ _ (by k_asm) (by k_asm) (Apart.cons (by first | assumption | exact tb_ltOf (by assumption) | exact tb_ltOf (by tbn_find)) (by assumption)) ⟨_, [], 0, rfl, rfl, (by first | assumption | exact tb_ltOf (by assumption) | exact tb_ltOf (by tbn_find)), .nil⟩
set_option maxRecDepth 100000 in
set_option maxHeartbeats 8000000 in
theorem c_behind1 {p : Nat} {tp : Tok} {rp : RowD} {ns : List Int} (hr : D.rows[i]? = some r) (hz : D.rows.length < 1000) (hp : r.par = .int p tp) (hpr : D.rows[p]? = some rp) (hc : rp.ch.length ≤ 1000) (hI : IntsAre rp.ch ns)
    (hm : besideStr r.kind = false → (i : Int) ∈ ns) (hs : ∀ x ∈ ns, x.natAbs < 1000) :
    Con w 42 870 8700 [.ref D.tr, .int i t] (fun n => ∀ p ∈ D.led w, p ∈ n) (fun n v n' => ∃ l vs c, v = .ref l ∧ n' = (l, listOf vs.toArray c) :: n ∧ (∀ p ∈ n, p.1 < l) ∧
      IntsAre vs (if besideStr r.kind then [] else ns.drop (ns.idxOf (i : Int) + 1))) := by
  refine Con.of fun tpv lov mean mg mb gd cn cs a ccd cl outer A₀ base h₀ L m news s Q E hkk B F X N Ap T P ret => ?_
  have h1 := P _ (mem_top1 w D)
  have h2 := P _ (mem_top2 w D)
  refine wpAny_call ?_
  k_dflt ktr_enter
  repeat' (first | (k_unfold; (try dsimp only)) | ((fail_if_success (with_reducible show wpAny _ _ (call (Value.ref _) _ _) _ _ _)); walk1) | (dsimp only; ((fail_if_success (with_reducible show wpAny _ _ (call (Value.ref _) _ _) _ _ _)); walk1)))
  (refine' Con.use (c_parent hr hz (by rw [hp]; rfl)) ?uhh11 ?uhf11 ?uhdp11 ?uhu11 ?uhk11 ?uB11 ?uF11 ?uX11 ?uN11 ?uT11 ?uAp11 ?uP11 ?_; (case uhh11 => exact rfl); (case uhf11 => exact rfl); (case uhdp11 => exact Nat.le_of_ble_eq_true rfl); (case uhu11 => exact Nat.le_of_ble_eq_true rfl); (case uhk11 => first | assumption | exact rfl); (case uB11 => k_asm); (case uF11 => k_asm); (case uX11 => k_asm); (case uN11 => k_asm); (case uT11 => k_asm); (case uAp11 => first | assumption | (repeat' (first | assumption | refine Apart.cons (by first | assumption | exact tb_ltOf (by assumption)) ?_))))
  · assumption
  rintro v n2 h2' tk2 F2 N2 Ap2 ⟨rfl, rfl⟩
  rw [hp]
  repeat' (first | (k_unfold; (try dsimp only)) | ((fail_if_success (with_reducible show wpAny _ _ (call (Value.ref _) _ _) _ _ _)); walk1) | (dsimp only; ((fail_if_success (with_reducible show wpAny _ _ (call (Value.ref _) _ _) _ _ _)); walk1)))
  (refine' Con.use (c_is_beside hr hz) ?uhh12 ?uhf12 ?uhdp12 ?uhu12 ?uhk12 ?uB12 ?uF12 ?uX12 ?uN12 ?uT12 ?uAp12 ?uP12 ?_; (case uhh12 => exact rfl); (case uhf12 => exact rfl); (case uhdp12 => exact Nat.le_of_ble_eq_true rfl); (case uhu12 => exact Nat.le_of_ble_eq_true rfl); (case uhk12 => first | assumption | exact rfl); (case uB12 => k_asm); (case uF12 => k_asm); (case uX12 => k_asm); (case uN12 => k_asm); (case uT12 => k_asm); (case uAp12 => first | assumption | (repeat' (first | assumption | refine Apart.cons (by first | assumption | exact tb_ltOf (by assumption)) ?_))))
  · assumption
  rintro v n2 h2' tk2 F2 N2 Ap2 ⟨rfl, rfl⟩
  repeat' (first | (k_unfold; (try dsimp only)) | ((fail_if_success (with_reducible show wpAny _ _ (call (Value.ref _) _ _) _ _ _)); walk1) | (dsimp only; ((fail_if_success (with_reducible show wpAny _ _ (call (Value.ref _) _ _) _ _ _)); walk1)))
  · have hb : besideStr r.kind = true := by assumption
    exact ret _ _ _ _ (by k_asm) (by k_asm) (Apart.cons (by first | assumption | exact tb_ltOf (by assumption) | exact tb_ltOf (by tbn_find)) (by assumption)) ⟨_, [], 0, rfl, rfl, (by first | assumption | exact tb_ltOf (by assumption) | exact tb_ltOf (by tbn_find)), by rw [if_pos hb]; exact .nil⟩
  · have hb : besideStr r.kind = false := by assumption
    have hmm := hm hb
    have hnz : ns.length ≤ 1000 := by rw [← hI.length]; exact hc
    have hly := lay_small hs hnz
    (refine' Con.use (c_children hpr hz hc) ?uhh13 ?uhf13 ?uhdp13 ?uhu13 ?uhk13 ?uB13 ?uF13 ?uX13 ?uN13 ?uT13 ?uAp13 ?uP13 ?_; (case uhh13 => exact rfl); (case uhf13 => exact rfl); (case uhdp13 => exact Nat.le_of_ble_eq_true rfl); (case uhu13 => exact Nat.le_of_ble_eq_true rfl); (case uhk13 => first | assumption | exact rfl); (case uB13 => k_asm); (case uF13 => k_asm); (case uX13 => k_asm); (case uN13 => k_asm); (case uT13 => k_asm); (case uAp13 => first | assumption | (repeat' (first | assumption | refine Apart.cons (by first | assumption | exact tb_ltOf (by assumption)) ?_))))
    · assumption
    rintro v n2 h2' tk2 F2 N2 Ap2 ⟨l, c, rfl, rfl, hl⟩
    repeat' (first | (k_unfold; (try dsimp only)) | ((fail_if_success (with_reducible show wpAny _ _ (call (Value.ref _) _ _) _ _ _)); walk1) | (dsimp only; ((fail_if_success (with_reducible show wpAny _ _ (call (Value.ref _) _ _) _ _ _)); walk1)))
    have hI3 := (by assumption : IntsAre _ (List.drop _ _))
    refine ret _ _ _ _ (by k_asm) (News_subN (by k_asm) (fun q hq => by (try simp only [List.mem_cons] at hq); (try simp only [List.mem_cons]); first | (simp [hq]; done) | (rcases hq with hq | hq <;> simp [hq]; done))) (Apart.cons (by first | assumption | exact tb_ltOf (by assumption) | exact tb_ltOf (by tbn_find)) Ap) ⟨_, _, 0, rfl, rfl, (by first | assumption | exact tb_ltOf (by assumption) | exact tb_ltOf (by tbn_find)), ints_else hb hI3 (by rw [show (((ns.idxOf (i : Int) : Nat) : Int) + 1).toNat = ns.idxOf (i : Int) + 1 by omega])⟩
end
/-! C3 -/
section
variable {w : World} {D : TreeD} {i : Nat} {r : RowD} {t : Tok} {rest : Led}
theorem perm_mem {n : Led} (h : n.Perm (D.led w ++ rest)) : ∀ p ∈ D.led w, p ∈ n := fun _ hp => h.mem_iff.mpr (List.mem_append_left _ hp)
theorem row_append {prog : Program} {A : Around} {E : Value → Shared → Prop} {s : Shared} {h₀ : Heap} {L : Addr} {m : Str → Option Value} {news : Led} {Q : Value → Shared → Prop} {n1 a1 c1 x1 d1 : Addr} {o1 o2 o3 o4 o5 : Obj}
    (F : Fr h₀ L s.heap m) (N : News h₀ L s.heap ((n1, o1) :: (a1, o2) :: (c1, o3) :: (x1, o4) :: (d1, o5) :: news)) (P : news.Perm (D.led w ++ rest)) (Ap : Apart news) (hz : D.rows.length < 1000)
    (l5 : ∀ p ∈ news, p.1 < d1) (l4 : @LT.lt Nat _ d1 x1) (l3 : @LT.lt Nat _ x1 c1) (l2 : @LT.lt Nat _ c1 a1) (l1 : @LT.lt Nat _ a1 n1)
    (h : ∀ h' big, Fr h₀ L h' m → News h₀ L h' big → (D.tr, instObj 295 D.dt) ∈ big → (D.dt, D.dobj w) ∈ big →
      (D.rl, listOf (D.refs ++ [Value.ref x1]).toArray (D.nv + 1)) ∈ big → (∀ q ∈ (n1, o1) :: (a1, o2) :: (c1, o3) :: (x1, o4) :: (d1, o5) :: (rowsLed w D.rows ++ rest), q ∈ big) → Q .none { s with heap := h' }) :
    wpAny (model prog w) A (call (.builtin "list.append") [.ref D.rl, .ref x1]) Q E s := by
  have sub : ∀ q ∈ news, q ∈ (n1, o1) :: (a1, o2) :: (c1, o3) :: (x1, o4) :: (d1, o5) :: news := fun q hq => .tail _ (.tail _ (.tail _ (.tail _ (.tail _ hq))))
  have h1 := perm_mem P _ (mem_top1 w D)
  have h2 := perm_mem P _ (mem_top2 w D)
  have h3 := perm_mem P _ (mem_top3 w D)
  have Ap' : Apart ((D.rl, listOf D.refs.toArray D.nv) :: ((D.tr, instObj 295 D.dt) :: (D.dt, D.dobj w) :: (rowsLed w D.rows ++ rest))) := by
    refine Ap.perm (P.trans ?_)
    show List.Perm (_ :: _ :: _ :: (rowsLed w D.rows ++ rest)) _
    exact ((List.Perm.swap _ _ _).cons _).trans (List.Perm.swap _ _ _)
  have lrl := l5 _ h3
  refine m_append F N (sub _ h3) (by rw [List.length_map]; omega) fun h' F' N' => h h' _ F' N' ?_ ?_ ?_ ?_
  · exact mem_upd_ne (sub _ h1) (News_ne N (sub _ h1) (sub _ h3) (by simp))
  · exact mem_upd_ne (sub _ h2) (News_ne N (sub _ h2) (sub _ h3) (by simp))
  · exact mem_upd_self (sub _ h3)
  · intro q hq
    have hl : @LT.lt Nat _ D.rl d1 := lrl
    rcases List.mem_cons.mp hq with rfl | hq
    · exact mem_upd_ne (.head _) (neN (by omega))
    rcases List.mem_cons.mp hq with rfl | hq
    · exact mem_upd_ne (.tail _ (.head _)) (neN (by omega))
    rcases List.mem_cons.mp hq with rfl | hq
    · exact mem_upd_ne (.tail _ (.tail _ (.head _))) (neN (by omega))
    rcases List.mem_cons.mp hq with rfl | hq
    · exact mem_upd_ne (.tail _ (.tail _ (.tail _ (.head _)))) (neN (by omega))
    rcases List.mem_cons.mp hq with rfl | hq
    · exact mem_upd_ne (.tail _ (.tail _ (.tail _ (.tail _ (.head _))))) (neN (by omega))
    · refine mem_upd_ne (sub _ (P.mem_iff.mpr ?_)) (Ap'.ne q (.tail _ (.tail _ hq)))
      rcases List.mem_append.mp hq with hq | hq
      · exact List.mem_append_left _ (List.mem_append_right _ hq)
      · exact List.mem_append_right _ hq
theorem refs_len {x : Value} {big : Led} {n : Nat} (hz : D.rows.length < 1000) (_m : (D.rl, listOf (D.refs ++ [x]).toArray n) ∈ big) : (D.refs ++ [x]).length < 1000000 := by
  rw [List.length_append, List.length_map, List.length_singleton]; omega
theorem add_perm (w : World) (D : TreeD) (r : RowD) (rest : Led) :
    ((D.add r).led w ++ rest).Perm ((D.tr, instObj 295 D.dt) :: (D.dt, D.dobj w) :: (D.rl, listOf (D.refs ++ [Value.ref r.x]).toArray (D.nv + 1)) :: (r.led w ++ (rowsLed w D.rows ++ rest))) := by
  have e : (D.add r).led w ++ rest = (D.tr, instObj 295 D.dt) :: (D.dt, D.dobj w) :: (D.rl, listOf (D.refs ++ [Value.ref r.x]).toArray (D.nv + 1)) :: (rowsLed w D.rows ++ (r.led w ++ rest)) := by
    simp [TreeD.led, TreeD.top, TreeD.add, TreeD.refs, rowsLed]
  rw [e]
  refine List.Perm.cons _ (List.Perm.cons _ (List.Perm.cons _ ?_))
  rw [← List.append_assoc, ← List.append_assoc]
  exact List.perm_append_comm.append_right _
theorem add_apart {news : Led} (P : news.Perm (D.led w ++ rest)) (Ap : Apart news) {r : RowD} (l5 : ∀ p ∈ news, p.1 < r.d) (l4 : @LT.lt Nat _ r.d r.x) (l3 : @LT.lt Nat _ r.x r.c) (l2 : @LT.lt Nat _ r.c r.a) (l1 : @LT.lt Nat _ r.a r.n) : Apart ((D.add r).led w ++ rest) := by
  have A2 : Apart (D.led w ++ rest) := Ap.perm P
  have lt : ∀ {o : Addr}, @LT.lt Nat _ r.d o → ∀ p ∈ news, p.1 < o := fun ho p hp => Nat.lt_trans (l5 p hp) ho
  have lt2 : ∀ {o : Addr}, @LE.le Nat _ r.d o → ∀ p ∈ D.led w ++ rest, p.1 < o := fun ho p hp => Nat.lt_of_lt_of_le (l5 p (P.mem_iff.mpr hp)) ho
  have A7 : Apart ((r.n, listOf r.ns.toArray r.nn) :: (r.a, listOf r.at_.toArray r.an) :: (r.c, listOf r.ch.toArray r.cn) :: (r.x, instObj 106 r.d) :: (r.d, dictOf (r.es w) 9) :: (D.led w ++ rest)) := by
    refine Apart.cons ?_ (Apart.cons ?_ (Apart.cons ?_ (Apart.cons ?_ (Apart.cons (lt2 (Nat.le_refl _)) A2))))
    all_goals
      intro p hp
      simp only [List.mem_cons] at hp
      rcases hp with rfl | hp
      · show (_ : Nat) < _
        omega
      first
      | exact lt2 (by omega) p hp
      | rcases hp with rfl | hp
        · show (_ : Nat) < _
          omega
        first
        | exact lt2 (by omega) p hp
        | rcases hp with rfl | hp
          · show (_ : Nat) < _
            omega
          first
          | exact lt2 (by omega) p hp
          | rcases hp with rfl | hp
            · show (_ : Nat) < _
              omega
            · exact lt2 (by omega) p hp
  have k1 : Apart ((D.tr, instObj 295 D.dt) :: (D.dt, D.dobj w) :: (D.rl, listOf (D.refs ++ [Value.ref r.x]).toArray (D.nv + 1)) :: (r.led w ++ (rowsLed w D.rows ++ rest))) := by
    unfold Apart at A7 ⊢
    refine (List.Perm.nodup_iff ?_).mp A7
    simp only [List.map_cons, List.map_append, RowD.led, TreeD.led, TreeD.top, List.cons_append, List.nil_append]
    generalize List.map (fun x : Addr × Obj => x.1) (rowsLed w D.rows) ++ List.map (fun x : Addr × Obj => x.1) rest = q
    have : ∀ (a b c d e f g h : Addr), (a :: b :: c :: d :: e :: f :: g :: h :: q).Perm (f :: g :: h :: d :: e :: c :: b :: a :: q) := by
      intro a b c d e f g h
      apply List.perm_iff_count.mpr
      intro z
      simp only [List.count_cons]
      omega
    exact this ..
  exact k1.perm (add_perm w D r rest).symm
theorem new_row_end {big : Led} {h₀ h : Heap} {L : Addr} {news : Led} {n1 a1 c1 x1 d1 : Addr} {k0 k1 k2 k3 k4 k5 k6 k7 k8 k9 k10 k11 k12 k13 : Tok} {kind name uri loc value : Str} {par : Value}
    (N : News h₀ L h big) (P : news.Perm (D.led w ++ rest)) (Ap : Apart news) (m1 : (D.tr, instObj 295 D.dt) ∈ big) (m2 : (D.dt, D.dobj w) ∈ big) (m3 : (D.rl, listOf (D.refs ++ [Value.ref x1]).toArray (D.nv + 1)) ∈ big)
    (m4 : ∀ q ∈ (n1, listOf #[] 0) :: (a1, listOf #[] 0) :: (c1, listOf #[] 0) :: (x1, instObj 106 d1) :: (d1, dictOf [⟨PyData.keyHash w.params "kind", .str "kind" k0, .str kind k1⟩, ⟨PyData.keyHash w.params "name", .str "name" k2, .str name k3⟩, ⟨PyData.keyHash w.params "uri", .str "uri" k4, .str uri k5⟩, ⟨PyData.keyHash w.params "local", .str "local" k6, .str loc k7⟩, ⟨PyData.keyHash w.params "value", .str "value" k8, .str value k9⟩, ⟨PyData.keyHash w.params "parent", .str "parent" k10, par⟩, ⟨PyData.keyHash w.params "children", .str "children" k11, .ref c1⟩, ⟨PyData.keyHash w.params "attributes", .str "attributes" k12, .ref a1⟩, ⟨PyData.keyHash w.params "namespaces", .str "namespaces" k13, .ref n1⟩] 9) :: (rowsLed w D.rows ++ rest), q ∈ big)
    (l5 : ∀ p ∈ news, p.1 < d1) (l4 : @LT.lt Nat _ d1 x1) (l3 : @LT.lt Nat _ x1 c1) (l2 : @LT.lt Nat _ c1 a1) (l1 : @LT.lt Nat _ a1 n1) :
    ∃ r : RowD, (r.kind = kind ∧ r.name = name ∧ r.uri = uri ∧ r.loc = loc ∧ r.value = value ∧ r.par = par ∧ r.ch = [] ∧ r.at_ = [] ∧ r.ns = []) ∧ News h₀ L h ((D.add r).led w ++ rest) ∧ Apart ((D.add r).led w ++ rest) := by
  let r : RowD := { x := x1, d := d1, c := c1, a := a1, n := n1, k := fun i => [k0, k1, k2, k3, k4, k5, k6, k7, k8, k9, k10, k11, k12, k13].getD i 0, kind := kind, name := name, uri := uri, loc := loc, value := value, par := par, ch := [], cn := 0, at_ := [], an := 0, ns := [], nn := 0 }
  refine ⟨r, ⟨rfl, rfl, rfl, rfl, rfl, rfl, rfl, rfl, rfl⟩, ?_, add_apart P Ap (r := r) l5 l4 l3 l2 l1⟩
  refine News_perm (add_perm w D r rest).symm fun q hq => N q ?_
  rcases List.mem_cons.mp hq with rfl | hq
  · exact m1
  rcases List.mem_cons.mp hq with rfl | hq
  · exact m2
  rcases List.mem_cons.mp hq with rfl | hq
  · exact m3
  rcases List.mem_append.mp hq with hq | hq
  · refine m4 q ?_
    have e : r.led w = [(x1, instObj 106 d1), (d1, dictOf [⟨PyData.keyHash w.params "kind", .str "kind" k0, .str kind k1⟩, ⟨PyData.keyHash w.params "name", .str "name" k2, .str name k3⟩, ⟨PyData.keyHash w.params "uri", .str "uri" k4, .str uri k5⟩, ⟨PyData.keyHash w.params "local", .str "local" k6, .str loc k7⟩, ⟨PyData.keyHash w.params "value", .str "value" k8, .str value k9⟩, ⟨PyData.keyHash w.params "parent", .str "parent" k10, par⟩, ⟨PyData.keyHash w.params "children", .str "children" k11, .ref c1⟩, ⟨PyData.keyHash w.params "attributes", .str "attributes" k12, .ref a1⟩, ⟨PyData.keyHash w.params "namespaces", .str "namespaces" k13, .ref n1⟩] 9), (c1, listOf #[] 0), (a1, listOf #[] 0), (n1, listOf #[] 0)] := rfl
    rw [e] at hq
    simp only [List.mem_cons, List.not_mem_nil, or_false] at hq
    rcases hq with rfl | rfl | rfl | rfl | rfl <;> simp
  · exact m4 q (.tail _ (.tail _ (.tail _ (.tail _ (.tail _ hq)))))
set_option maxRecDepth 100000 in
set_option maxHeartbeats 8000000 in
theorem c_new_row {kind name uri loc value : Str} {t1 t2 t3 t4 t5 : Tok} {par : Value} (hz : D.rows.length < 1000) (hh : handedIn par = true) :
    Con w 131 890 8900 [.ref D.tr, .str kind t1, .str name t2, .str uri t3, .str loc t4, .str value t5, par] (fun n => n.Perm (D.led w ++ rest))
      (fun n v n' => ∃ (r : RowD) (tk : Tok), (r.kind = kind ∧ r.name = name ∧ r.uri = uri ∧ r.loc = loc ∧ r.value = value ∧ r.par = par ∧ r.ch = [] ∧ r.at_ = [] ∧ r.ns = []) ∧ v = .int (D.rows.length : Nat) tk ∧ n' = (D.add r).led w ++ rest) := by
  refine Con.of fun tpv lov mean mg mb gd cn cs a ccd cl outer A₀ base h₀ L m news s Q E hkk B F X N Ap T P ret => ?_
  have h1 := perm_mem P _ (mem_top1 w D)
  have h2 := perm_mem P _ (mem_top2 w D)
  have h3 := perm_mem P _ (mem_top3 w D)
  refine wpAny_call ?_
  k_dflt ktr_enter
  repeat' (first | (k_unfold; (try dsimp only)) | ((fail_if_success (with_reducible show wpAny _ _ (call (Value.ref _) _ _) _ _ _)); walk1) | (dsimp only; ((fail_if_success (with_reducible show wpAny _ _ (call (Value.ref _) _ _) _ _ _)); walk1)))
  walk1
  repeat' (first | (k_unfold; (try dsimp only)) | ((fail_if_success (with_reducible show wpAny _ _ (call (Value.ref _) _ _) _ _ _)); walk1) | (dsimp only; ((fail_if_success (with_reducible show wpAny _ _ (call (Value.ref _) _ _) _ _ _)); walk1)))
  refine' row_append ?F1 ?N1 P Ap hz ?a5 ?a4 ?a3 ?a2 ?a1 ?_
  case F1 => k_asm
  case N1 => k_asm
  case a5 => exact (by first | assumption | exact tb_ltOf (by assumption) | exact tb_ltOf (by tbn_find))
  case a4 => omega
  case a3 => omega
  case a2 => omega
  case a1 => omega
  intro h4 big F4 N4 m1 m2 m3 m4
  have hlz := refs_len hz m3
  repeat' (first | (k_unfold; (try dsimp only)) | ((fail_if_success (with_reducible show wpAny _ _ (call (Value.ref _) _ _) _ _ _)); walk1) | (dsimp only; ((fail_if_success (with_reducible show wpAny _ _ (call (Value.ref _) _ _) _ _ _)); walk1)))
  rw [show (((D.refs ++ [Value.ref _]).length : Nat) : Int) - 1 = (D.rows.length : Nat) by rw [List.length_append, List.length_map, List.length_singleton]; omega]
  obtain ⟨r, hr, N5, Ap5⟩ := new_row_end (by k_asm : News h₀ L h4 big) P Ap m1 m2 m3 m4 (by first | assumption | exact tb_ltOf (by assumption) | exact tb_ltOf (by tbn_find)) (by omega) (by omega) (by omega) (by omega)
  exact ret _ _ _ _ (by k_asm) N5 Ap5 ⟨r, _, hr, rfl, rfl⟩
end
/-! C4 -/
section
variable {w : World} {D : TreeD} {i : Nat} {r : RowD} {t : Tok} {rest : Led}
def parentStr (k : Str) : Bool := (["root", "element"] : List Str).any (· == k)
theorem notin_top {prog : Program} {A : Around} {E : Value → Shared → Prop} {s : Shared} {h₀ : Heap} {L : Addr} {m : Str → Option Value} {Q : Value → Shared → Prop} {k : Str} {K : Frag} {a : Addr} {o : Obj} {its : Array Value} {n : Nat} {ys : List Str} (F : Fr h₀ L s.heap m) (X : K.In h₀)
    (ho : K.lookup a = some o) (hc : o.cls = .type "tuple") (hdt : o.data = .seq its n) (hs : StrsAre its.toList ys) (h : Q (.bool (!(ys.any (· == k)))) s) : wpAny (model prog w) A (compareOp .NotIn (.str k t) (.ref a)) Q E s :=
  notin_tuple_strs (ys := ys) ⟨_, F.keep _ _ (X _ _ ho), hc, _, hdt⟩ hs h
set_option maxRecDepth 100000 in
theorem m_notin_parents {prog : Program} {A : Around} {E : Value → Shared → Prop} {s : Shared} {h₀ : Heap} {L : Addr} {m : Str → Option Value} {Q : Value → Shared → Prop} {k : Str} (F : Fr h₀ L s.heap m) (X : (kz w.params).In h₀)
    (h : Q (.bool (!(parentStr k))) s) : wpAny (model prog w) A (compareOp .NotIn (.str k t) (.ref 89)) Q E s := by
  refine' notin_top (ys := ["root", "element"]) F X ?ho ?hc ?hdd ?hs h
  case ho => k_is
  case hc => rfl
  case hdd => rfl
  case hs => exact .cons _ _ (.cons _ _ .nil)
end
local macro_rules | `(tactic| walk_at "compareOp NotIn str ref") => `(tactic| (k_here; (with_reducible show wpAny _ _ (compareOp _ _ (Value.ref 89)) _ _ _); k_dflt (refine' m_notin_parents ?F ?X ?_; (case F => k_asm); (case X => k_asm); k_whole)))
section
variable {w : World} {D : TreeD} {i : Nat} {r : RowD} {t : Tok} {rest : Led}
/-- what a new node's row holds -/
def NewRow (r : RowD) (kind name uri loc value : Str) (par : Value) : Prop :=
  r.kind = kind ∧ r.name = name ∧ r.uri = uri ∧ r.loc = loc ∧ r.value = value ∧ r.par = par ∧ r.ch = [] ∧ r.at_ = [] ∧ r.ns = []
set_option maxRecDepth 100000 in
set_option maxHeartbeats 8000000 in
theorem c_new_root (hz : D.rows.length < 1000) :
    Con w 145 880 8800 [.ref D.tr] (fun n => n.Perm (D.led w ++ rest))
      (fun _ v n' => ∃ (r : RowD) (tk : Tok), NewRow r "root" "" "" "" "" .none ∧ v = .int (D.rows.length : Nat) tk ∧ n' = (D.add r).led w ++ rest) := by
  refine Con.of fun tpv lov mean mg mb gd cn cs a ccd cl outer A₀ base h₀ L m news s Q E hkk B F X N Ap T P ret => ?_
  have h1 := perm_mem P _ (mem_top1 w D)
  have h2 := perm_mem P _ (mem_top2 w D)
  refine wpAny_call ?_
  k_dflt ktr_enter
  repeat' (first | (k_unfold; (try dsimp only)) | ((fail_if_success (with_reducible show wpAny _ _ (call (Value.ref _) _ _) _ _ _)); walk1) | (dsimp only; ((fail_if_success (with_reducible show wpAny _ _ (call (Value.ref _) _ _) _ _ _)); walk1)))
  (refine' Con.use (c_new_row (rest := rest) hz rfl) ?uhh14 ?uhf14 ?uhdp14 ?uhu14 ?uhk14 ?uB14 ?uF14 ?uX14 ?uN14 ?uT14 ?uAp14 ?uP14 ?_; (case uhh14 => exact rfl); (case uhf14 => exact rfl); (case uhdp14 => exact Nat.le_of_ble_eq_true rfl); (case uhu14 => exact Nat.le_of_ble_eq_true rfl); (case uhk14 => first | assumption | exact rfl); (case uB14 => k_asm); (case uF14 => k_asm); (case uX14 => k_asm); (case uN14 => k_asm); (case uT14 => k_asm); (case uAp14 => first | assumption | (repeat' (first | assumption | refine Apart.cons (by first | assumption | exact tb_ltOf (by assumption)) ?_))))
  · exact P
  rintro v n2 h2' tk2 F2 N2 Ap2 ⟨r, tk, hr, rfl, e2⟩
  repeat' (first | (k_unfold; (try dsimp only)) | ((fail_if_success (with_reducible show wpAny _ _ (call (Value.ref _) _ _) _ _ _)); walk1) | (dsimp only; ((fail_if_success (with_reducible show wpAny _ _ (call (Value.ref _) _ _) _ _ _)); walk1)))
  exact ret _ _ _ _ (by k_asm) (by k_asm) Ap2 ⟨r, _, hr, rfl, e2⟩
set_option maxRecDepth 100000 in
set_option maxHeartbeats 8000000 in
theorem c_add_child0 {kind name uri loc value : Str} {t1 t2 t3 t4 t5 : Tok} (hz : D.rows.length < 1000) :
    Con w 152 880 8800 [.ref D.tr, .none, .str kind t1, .str name t2, .str uri t3, .str loc t4, .str value t5] (fun n => n.Perm (D.led w ++ rest))
      (fun _ v n' => ∃ (r : RowD) (tk : Tok), NewRow r kind name uri loc value .none ∧ v = .int (D.rows.length : Nat) tk ∧ n' = (D.add r).led w ++ rest) := by
  refine Con.of fun tpv lov mean mg mb gd cn cs a ccd cl outer A₀ base h₀ L m news s Q E hkk B F X N Ap T P ret => ?_
  have h1 := perm_mem P _ (mem_top1 w D)
  have h2 := perm_mem P _ (mem_top2 w D)
  refine wpAny_call ?_
  k_dflt ktr_enter
  repeat' (first | (k_unfold; (try dsimp only)) | ((fail_if_success (with_reducible show wpAny _ _ (call (Value.ref _) _ _) _ _ _)); walk1) | (dsimp only; ((fail_if_success (with_reducible show wpAny _ _ (call (Value.ref _) _ _) _ _ _)); walk1)))
  (refine' Con.use (c_new_row (rest := rest) hz rfl) ?uhh15 ?uhf15 ?uhdp15 ?uhu15 ?uhk15 ?uB15 ?uF15 ?uX15 ?uN15 ?uT15 ?uAp15 ?uP15 ?_; (case uhh15 => exact rfl); (case uhf15 => exact rfl); (case uhdp15 => exact Nat.le_of_ble_eq_true rfl); (case uhu15 => exact Nat.le_of_ble_eq_true rfl); (case uhk15 => first | assumption | exact rfl); (case uB15 => k_asm); (case uF15 => k_asm); (case uX15 => k_asm); (case uN15 => k_asm); (case uT15 => k_asm); (case uAp15 => first | assumption | (repeat' (first | assumption | refine Apart.cons (by first | assumption | exact tb_ltOf (by assumption)) ?_))))
  · exact P
  rintro v n2 h2' tk2 F2 N2 Ap2 ⟨r, tk, hr, rfl, e2⟩
  repeat' (first | (k_unfold; (try dsimp only)) | ((fail_if_success (with_reducible show wpAny _ _ (call (Value.ref _) _ _) _ _ _)); walk1) | (dsimp only; ((fail_if_success (with_reducible show wpAny _ _ (call (Value.ref _) _ _) _ _ _)); walk1)))
  exact ret _ _ _ _ (by k_asm) (by k_asm) Ap2 ⟨r, _, hr, rfl, e2⟩
set_option maxRecDepth 100000 in
set_option maxHeartbeats 8000000 in
theorem c_add_child1 {p : Nat} {tp : Tok} {rp : RowD} {kind name uri loc value : Str} {t1 t2 t3 t4 t5 : Tok} (hz : D.rows.length < 1000) (hp : D.rows[p]? = some rp) (hk : parentStr rp.kind = true) (hc : rp.ch.length ≤ 1000) :
    Con w 152 880 8800 [.ref D.tr, .int p tp, .str kind t1, .str name t2, .str uri t3, .str loc t4, .str value t5] (fun n => n.Perm (D.led w ++ rest))
      (fun _ v n' => ∃ (r : RowD) (tk : Tok), NewRow r kind name uri loc value (.int p tp) ∧ v = .int (D.rows.length : Nat) tk ∧
        n' = ((D.add r).set p { rp with ch := rp.ch ++ [.int (D.rows.length : Nat) tk], cn := rp.cn + 1 }).led w ++ rest) := by
  refine Con.of fun tpv lov mean mg mb gd cn cs a ccd cl outer A₀ base h₀ L m news s Q E hkk B F X N Ap T P ret => ?_
  have h1 := perm_mem P _ (mem_top1 w D)
  have h2 := perm_mem P _ (mem_top2 w D)
  have h3 := perm_mem P _ (mem_top3 w D)
  have hx := perm_mem P _ (mem_x w hp)
  have hdd := perm_mem P _ (mem_d w hp)
  refine wpAny_call ?_
  k_dflt ktr_enter
  repeat' (first | (k_unfold; (try dsimp only)) | ((fail_if_success (with_reducible show wpAny _ _ (call (Value.ref _) _ _) _ _ _)); walk1) | (dsimp only; ((fail_if_success (with_reducible show wpAny _ _ (call (Value.ref _) _ _) _ _ _)); walk1)))
  (refine' Con.use (c_row hp hz) ?uhh16 ?uhf16 ?uhdp16 ?uhu16 ?uhk16 ?uB16 ?uF16 ?uX16 ?uN16 ?uT16 ?uAp16 ?uP16 ?_; (case uhh16 => exact rfl); (case uhf16 => exact rfl); (case uhdp16 => exact Nat.le_of_ble_eq_true rfl); (case uhu16 => exact Nat.le_of_ble_eq_true rfl); (case uhk16 => first | assumption | exact rfl); (case uB16 => k_asm); (case uF16 => k_asm); (case uX16 => k_asm); (case uN16 => k_asm); (case uT16 => k_asm); (case uAp16 => first | assumption | (repeat' (first | assumption | refine Apart.cons (by first | assumption | exact tb_ltOf (by assumption)) ?_))))
  · exact perm_mem P
  rintro v n2 h2' tk2 F2 N2 Ap2 ⟨rfl, rfl⟩
  repeat' (first | (k_unfold; (try dsimp only)) | ((fail_if_success (with_reducible show wpAny _ _ (call (Value.ref _) _ _) _ _ _)); walk1) | (dsimp only; ((fail_if_success (with_reducible show wpAny _ _ (call (Value.ref _) _ _) _ _ _)); walk1)))
  (refine' Con.use (c_new_row (rest := rest) hz rfl) ?uhh17 ?uhf17 ?uhdp17 ?uhu17 ?uhk17 ?uB17 ?uF17 ?uX17 ?uN17 ?uT17 ?uAp17 ?uP17 ?_; (case uhh17 => exact rfl); (case uhf17 => exact rfl); (case uhdp17 => exact Nat.le_of_ble_eq_true rfl); (case uhu17 => exact Nat.le_of_ble_eq_true rfl); (case uhk17 => first | assumption | exact rfl); (case uB17 => k_asm); (case uF17 => k_asm); (case uX17 => k_asm); (case uN17 => k_asm); (case uT17 => k_asm); (case uAp17 => first | assumption | (repeat' (first | assumption | refine Apart.cons (by first | assumption | exact tb_ltOf (by assumption)) ?_))))
  · exact P
  rintro v n3 h3' tk3 F3 N3 Ap3 ⟨r, tq, hr, rfl, e3⟩
  have P3 : n3.Perm ((D.add r).led w ++ rest) := by rw [e3]
  have hp3 : (D.add r).rows[p]? = some rp := by
    show (D.rows ++ [r])[p]? = _
    rw [List.getElem?_append_left (getElem?_lt hp)]
    exact hp
  have h31 : (D.tr, instObj 295 D.dt) ∈ n3 := perm_mem P3 _ (mem_top1 w _)
  have h32 : (D.dt, D.dobj w) ∈ n3 := perm_mem P3 _ (mem_top2 w _)
  have h33 : (D.rl, listOf (D.add r).refs.toArray (D.nv + 1)) ∈ n3 := perm_mem P3 _ (mem_top3 w _)
  have h3x := perm_mem P3 _ (mem_x w hp3)
  have h3d := perm_mem P3 _ (mem_d w hp3)
  have h3c := perm_mem P3 _ (mem_c w hp3)
  have hgx := map_get hp3
  have hgl : (D.add r).refs.length < 1000000 := by show ((D.rows ++ [r]).map _).length < _; rw [List.length_map, List.length_append, List.length_singleton]; omega
  repeat' (first | (k_unfold; (try dsimp only)) | ((fail_if_success (with_reducible show wpAny _ _ (call (Value.ref _) _ _) _ _ _)); walk1) | (dsimp only; ((fail_if_success (with_reducible show wpAny _ _ (call (Value.ref _) _ _) _ _ _)); walk1)))
  refine' m_append ?F4 ?N4 h3c hc ?_
  case F4 => k_asm
  case N4 => k_asm
  intro h5 F5 N5
  repeat' (first | (k_unfold; (try dsimp only)) | ((fail_if_success (with_reducible show wpAny _ _ (call (Value.ref _) _ _) _ _ _)); walk1) | (dsimp only; ((fail_if_success (with_reducible show wpAny _ _ (call (Value.ref _) _ _) _ _ _)); walk1)))
  subst e3
  have N7 := News_subN (by k_asm : News h₀ L h5 (upd rp.c _ _)) (upd_row w (r' := { rp with ch := rp.ch ++ [.int (D.rows.length : Nat) tq], cn := rp.cn + 1 }) Ap3 hp3 rfl (key_c w rp) (upd_c w rp (rp.ch ++ [.int (D.rows.length : Nat) tq]) (rp.cn + 1)))
  exact ret _ _ _ _ (by k_asm) N7 (Ap3.set w hp3 rfl rfl rfl rfl rfl) ⟨r, _, hr, rfl, rfl⟩
end
/-! C5 -/
section
variable {w : World} {D : TreeD} {i : Nat} {r : RowD} {t : Tok} {rest : Led}
set_option maxRecDepth 100000 in
set_option maxHeartbeats 8000000 in
theorem c_add_element0 {name uri loc : Str} {t1 t2 t3 : Tok} (hz : D.rows.length < 1000) :
    Con w 159 870 8700 [.ref D.tr, .none, .str name t1, .str uri t2, .str loc t3] (fun n => n.Perm (D.led w ++ rest))
      (fun _ v n' => ∃ (r : RowD) (tk : Tok), NewRow r "element" name uri loc "" .none ∧ v = .int (D.rows.length : Nat) tk ∧ n' = (D.add r).led w ++ rest) := by
  refine Con.of fun tpv lov mean mg mb gd cn cs a ccd cl outer A₀ base h₀ L m news s Q E hkk B F X N Ap T P ret => ?_
  have h1 := perm_mem P _ (mem_top1 w D)
  have h2 := perm_mem P _ (mem_top2 w D)
  refine wpAny_call ?_
  k_dflt ktr_enter
  repeat' (first | (k_unfold; (try dsimp only)) | ((fail_if_success (with_reducible show wpAny _ _ (call (Value.ref _) _ _) _ _ _)); walk1) | (dsimp only; ((fail_if_success (with_reducible show wpAny _ _ (call (Value.ref _) _ _) _ _ _)); walk1)))
  (refine' Con.use (c_add_child0 (rest := rest) hz) ?uhh18 ?uhf18 ?uhdp18 ?uhu18 ?uhk18 ?uB18 ?uF18 ?uX18 ?uN18 ?uT18 ?uAp18 ?uP18 ?_; (case uhh18 => exact rfl); (case uhf18 => exact rfl); (case uhdp18 => exact Nat.le_of_ble_eq_true rfl); (case uhu18 => exact Nat.le_of_ble_eq_true rfl); (case uhk18 => first | assumption | exact rfl); (case uB18 => k_asm); (case uF18 => k_asm); (case uX18 => k_asm); (case uN18 => k_asm); (case uT18 => k_asm); (case uAp18 => first | assumption | (repeat' (first | assumption | refine Apart.cons (by first | assumption | exact tb_ltOf (by assumption)) ?_))))
  · exact P
  rintro v n2 h2' tk2 F2 N2 Ap2 ⟨r, tq, hr, rfl, e2⟩
  repeat' (first | (k_unfold; (try dsimp only)) | ((fail_if_success (with_reducible show wpAny _ _ (call (Value.ref _) _ _) _ _ _)); walk1) | (dsimp only; ((fail_if_success (with_reducible show wpAny _ _ (call (Value.ref _) _ _) _ _ _)); walk1)))
  exact ret _ _ _ _ (by k_asm) (by k_asm) Ap2 ⟨r, _, hr, rfl, e2⟩
set_option maxRecDepth 100000 in
set_option maxHeartbeats 8000000 in
theorem c_add_element1 {p : Nat} {tp : Tok} {rp : RowD} {name uri loc : Str} {t1 t2 t3 : Tok} (hz : D.rows.length < 1000) (hp : D.rows[p]? = some rp) (hk : parentStr rp.kind = true) (hc : rp.ch.length ≤ 1000) :
    Con w 159 870 8700 [.ref D.tr, .int p tp, .str name t1, .str uri t2, .str loc t3] (fun n => n.Perm (D.led w ++ rest))
      (fun _ v n' => ∃ (r : RowD) (tk : Tok), NewRow r "element" name uri loc "" (.int p tp) ∧ v = .int (D.rows.length : Nat) tk ∧
        n' = ((D.add r).set p { rp with ch := rp.ch ++ [.int (D.rows.length : Nat) tk], cn := rp.cn + 1 }).led w ++ rest) := by
  refine Con.of fun tpv lov mean mg mb gd cn cs a ccd cl outer A₀ base h₀ L m news s Q E hkk B F X N Ap T P ret => ?_
  have h1 := perm_mem P _ (mem_top1 w D)
  have h2 := perm_mem P _ (mem_top2 w D)
  refine wpAny_call ?_
  k_dflt ktr_enter
  repeat' (first | (k_unfold; (try dsimp only)) | ((fail_if_success (with_reducible show wpAny _ _ (call (Value.ref _) _ _) _ _ _)); walk1) | (dsimp only; ((fail_if_success (with_reducible show wpAny _ _ (call (Value.ref _) _ _) _ _ _)); walk1)))
  (refine' Con.use (c_add_child1 (rest := rest) hz hp hk hc) ?uhh19 ?uhf19 ?uhdp19 ?uhu19 ?uhk19 ?uB19 ?uF19 ?uX19 ?uN19 ?uT19 ?uAp19 ?uP19 ?_; (case uhh19 => exact rfl); (case uhf19 => exact rfl); (case uhdp19 => exact Nat.le_of_ble_eq_true rfl); (case uhu19 => exact Nat.le_of_ble_eq_true rfl); (case uhk19 => first | assumption | exact rfl); (case uB19 => k_asm); (case uF19 => k_asm); (case uX19 => k_asm); (case uN19 => k_asm); (case uT19 => k_asm); (case uAp19 => first | assumption | (repeat' (first | assumption | refine Apart.cons (by first | assumption | exact tb_ltOf (by assumption)) ?_))))
  · exact P
  rintro v n2 h2' tk2 F2 N2 Ap2 ⟨r, tq, hr, rfl, e2⟩
  repeat' (first | (k_unfold; (try dsimp only)) | ((fail_if_success (with_reducible show wpAny _ _ (call (Value.ref _) _ _) _ _ _)); walk1) | (dsimp only; ((fail_if_success (with_reducible show wpAny _ _ (call (Value.ref _) _ _) _ _ _)); walk1)))
  exact ret _ _ _ _ (by k_asm) (by k_asm) Ap2 ⟨r, _, hr, rfl, e2⟩
set_option maxRecDepth 100000 in
set_option maxHeartbeats 8000000 in
theorem c_add_text0 {value : Str} {t1 : Tok} (hz : D.rows.length < 1000) :
    Con w 166 870 8700 [.ref D.tr, .none, .str value t1] (fun n => n.Perm (D.led w ++ rest))
      (fun _ v n' => ∃ (r : RowD) (tk : Tok), NewRow r "text" "" "" "" value .none ∧ v = .int (D.rows.length : Nat) tk ∧ n' = (D.add r).led w ++ rest) := by
  refine Con.of fun tpv lov mean mg mb gd cn cs a ccd cl outer A₀ base h₀ L m news s Q E hkk B F X N Ap T P ret => ?_
  have h1 := perm_mem P _ (mem_top1 w D)
  have h2 := perm_mem P _ (mem_top2 w D)
  refine wpAny_call ?_
  k_dflt ktr_enter
  repeat' (first | (k_unfold; (try dsimp only)) | ((fail_if_success (with_reducible show wpAny _ _ (call (Value.ref _) _ _) _ _ _)); walk1) | (dsimp only; ((fail_if_success (with_reducible show wpAny _ _ (call (Value.ref _) _ _) _ _ _)); walk1)))
  (refine' Con.use (c_add_child0 (rest := rest) hz) ?uhh20 ?uhf20 ?uhdp20 ?uhu20 ?uhk20 ?uB20 ?uF20 ?uX20 ?uN20 ?uT20 ?uAp20 ?uP20 ?_; (case uhh20 => exact rfl); (case uhf20 => exact rfl); (case uhdp20 => exact Nat.le_of_ble_eq_true rfl); (case uhu20 => exact Nat.le_of_ble_eq_true rfl); (case uhk20 => first | assumption | exact rfl); (case uB20 => k_asm); (case uF20 => k_asm); (case uX20 => k_asm); (case uN20 => k_asm); (case uT20 => k_asm); (case uAp20 => first | assumption | (repeat' (first | assumption | refine Apart.cons (by first | assumption | exact tb_ltOf (by assumption)) ?_))))
  · exact P
  rintro v n2 h2' tk2 F2 N2 Ap2 ⟨r, tq, hr, rfl, e2⟩
  repeat' (first | (k_unfold; (try dsimp only)) | ((fail_if_success (with_reducible show wpAny _ _ (call (Value.ref _) _ _) _ _ _)); walk1) | (dsimp only; ((fail_if_success (with_reducible show wpAny _ _ (call (Value.ref _) _ _) _ _ _)); walk1)))
  exact ret _ _ _ _ (by k_asm) (by k_asm) Ap2 ⟨r, _, hr, rfl, e2⟩
set_option maxRecDepth 100000 in
set_option maxHeartbeats 8000000 in
theorem c_add_text1 {p : Nat} {tp : Tok} {rp : RowD} {value : Str} {t1 : Tok} (hz : D.rows.length < 1000) (hp : D.rows[p]? = some rp) (hk : parentStr rp.kind = true) (hc : rp.ch.length ≤ 1000) :
    Con w 166 870 8700 [.ref D.tr, .int p tp, .str value t1] (fun n => n.Perm (D.led w ++ rest))
      (fun _ v n' => ∃ (r : RowD) (tk : Tok), NewRow r "text" "" "" "" value (.int p tp) ∧ v = .int (D.rows.length : Nat) tk ∧
        n' = ((D.add r).set p { rp with ch := rp.ch ++ [.int (D.rows.length : Nat) tk], cn := rp.cn + 1 }).led w ++ rest) := by
  refine Con.of fun tpv lov mean mg mb gd cn cs a ccd cl outer A₀ base h₀ L m news s Q E hkk B F X N Ap T P ret => ?_
  have h1 := perm_mem P _ (mem_top1 w D)
  have h2 := perm_mem P _ (mem_top2 w D)
  refine wpAny_call ?_
  k_dflt ktr_enter
  repeat' (first | (k_unfold; (try dsimp only)) | ((fail_if_success (with_reducible show wpAny _ _ (call (Value.ref _) _ _) _ _ _)); walk1) | (dsimp only; ((fail_if_success (with_reducible show wpAny _ _ (call (Value.ref _) _ _) _ _ _)); walk1)))
  (refine' Con.use (c_add_child1 (rest := rest) hz hp hk hc) ?uhh21 ?uhf21 ?uhdp21 ?uhu21 ?uhk21 ?uB21 ?uF21 ?uX21 ?uN21 ?uT21 ?uAp21 ?uP21 ?_; (case uhh21 => exact rfl); (case uhf21 => exact rfl); (case uhdp21 => exact Nat.le_of_ble_eq_true rfl); (case uhu21 => exact Nat.le_of_ble_eq_true rfl); (case uhk21 => first | assumption | exact rfl); (case uB21 => k_asm); (case uF21 => k_asm); (case uX21 => k_asm); (case uN21 => k_asm); (case uT21 => k_asm); (case uAp21 => first | assumption | (repeat' (first | assumption | refine Apart.cons (by first | assumption | exact tb_ltOf (by assumption)) ?_))))
  · exact P
  rintro v n2 h2' tk2 F2 N2 Ap2 ⟨r, tq, hr, rfl, e2⟩
  repeat' (first | (k_unfold; (try dsimp only)) | ((fail_if_success (with_reducible show wpAny _ _ (call (Value.ref _) _ _) _ _ _)); walk1) | (dsimp only; ((fail_if_success (with_reducible show wpAny _ _ (call (Value.ref _) _ _) _ _ _)); walk1)))
  exact ret _ _ _ _ (by k_asm) (by k_asm) Ap2 ⟨r, _, hr, rfl, e2⟩
set_option maxRecDepth 100000 in
set_option maxHeartbeats 8000000 in
theorem c_add_comment0 {value : Str} {t1 : Tok} (hz : D.rows.length < 1000) :
    Con w 173 870 8700 [.ref D.tr, .none, .str value t1] (fun n => n.Perm (D.led w ++ rest))
      (fun _ v n' => ∃ (r : RowD) (tk : Tok), NewRow r "comment" "" "" "" value .none ∧ v = .int (D.rows.length : Nat) tk ∧ n' = (D.add r).led w ++ rest) := by
  refine Con.of fun tpv lov mean mg mb gd cn cs a ccd cl outer A₀ base h₀ L m news s Q E hkk B F X N Ap T P ret => ?_
  have h1 := perm_mem P _ (mem_top1 w D)
  have h2 := perm_mem P _ (mem_top2 w D)
  refine wpAny_call ?_
  k_dflt ktr_enter
  repeat' (first | (k_unfold; (try dsimp only)) | ((fail_if_success (with_reducible show wpAny _ _ (call (Value.ref _) _ _) _ _ _)); walk1) | (dsimp only; ((fail_if_success (with_reducible show wpAny _ _ (call (Value.ref _) _ _) _ _ _)); walk1)))
  (refine' Con.use (c_add_child0 (rest := rest) hz) ?uhh22 ?uhf22 ?uhdp22 ?uhu22 ?uhk22 ?uB22 ?uF22 ?uX22 ?uN22 ?uT22 ?uAp22 ?uP22 ?_; (case uhh22 => exact rfl); (case uhf22 => exact rfl); (case uhdp22 => exact Nat.le_of_ble_eq_true rfl); (case uhu22 => exact Nat.le_of_ble_eq_true rfl); (case uhk22 => first | assumption | exact rfl); (case uB22 => k_asm); (case uF22 => k_asm); (case uX22 => k_asm); (case uN22 => k_asm); (case uT22 => k_asm); (case uAp22 => first | assumption | (repeat' (first | assumption | refine Apart.cons (by first | assumption | exact tb_ltOf (by assumption)) ?_))))
  · exact P
  rintro v n2 h2' tk2 F2 N2 Ap2 ⟨r, tq, hr, rfl, e2⟩
  repeat' (first | (k_unfold; (try dsimp only)) | ((fail_if_success (with_reducible show wpAny _ _ (call (Value.ref _) _ _) _ _ _)); walk1) | (dsimp only; ((fail_if_success (with_reducible show wpAny _ _ (call (Value.ref _) _ _) _ _ _)); walk1)))
  exact ret _ _ _ _ (by k_asm) (by k_asm) Ap2 ⟨r, _, hr, rfl, e2⟩
set_option maxRecDepth 100000 in
set_option maxHeartbeats 8000000 in
theorem c_add_comment1 {p : Nat} {tp : Tok} {rp : RowD} {value : Str} {t1 : Tok} (hz : D.rows.length < 1000) (hp : D.rows[p]? = some rp) (hk : parentStr rp.kind = true) (hc : rp.ch.length ≤ 1000) :
    Con w 173 870 8700 [.ref D.tr, .int p tp, .str value t1] (fun n => n.Perm (D.led w ++ rest))
      (fun _ v n' => ∃ (r : RowD) (tk : Tok), NewRow r "comment" "" "" "" value (.int p tp) ∧ v = .int (D.rows.length : Nat) tk ∧
        n' = ((D.add r).set p { rp with ch := rp.ch ++ [.int (D.rows.length : Nat) tk], cn := rp.cn + 1 }).led w ++ rest) := by
  refine Con.of fun tpv lov mean mg mb gd cn cs a ccd cl outer A₀ base h₀ L m news s Q E hkk B F X N Ap T P ret => ?_
  have h1 := perm_mem P _ (mem_top1 w D)
  have h2 := perm_mem P _ (mem_top2 w D)
  refine wpAny_call ?_
  k_dflt ktr_enter
  repeat' (first | (k_unfold; (try dsimp only)) | ((fail_if_success (with_reducible show wpAny _ _ (call (Value.ref _) _ _) _ _ _)); walk1) | (dsimp only; ((fail_if_success (with_reducible show wpAny _ _ (call (Value.ref _) _ _) _ _ _)); walk1)))
  (refine' Con.use (c_add_child1 (rest := rest) hz hp hk hc) ?uhh23 ?uhf23 ?uhdp23 ?uhu23 ?uhk23 ?uB23 ?uF23 ?uX23 ?uN23 ?uT23 ?uAp23 ?uP23 ?_; (case uhh23 => exact rfl); (case uhf23 => exact rfl); (case uhdp23 => exact Nat.le_of_ble_eq_true rfl); (case uhu23 => exact Nat.le_of_ble_eq_true rfl); (case uhk23 => first | assumption | exact rfl); (case uB23 => k_asm); (case uF23 => k_asm); (case uX23 => k_asm); (case uN23 => k_asm); (case uT23 => k_asm); (case uAp23 => first | assumption | (repeat' (first | assumption | refine Apart.cons (by first | assumption | exact tb_ltOf (by assumption)) ?_))))
  · exact P
  rintro v n2 h2' tk2 F2 N2 Ap2 ⟨r, tq, hr, rfl, e2⟩
  repeat' (first | (k_unfold; (try dsimp only)) | ((fail_if_success (with_reducible show wpAny _ _ (call (Value.ref _) _ _) _ _ _)); walk1) | (dsimp only; ((fail_if_success (with_reducible show wpAny _ _ (call (Value.ref _) _ _) _ _ _)); walk1)))
  exact ret _ _ _ _ (by k_asm) (by k_asm) Ap2 ⟨r, _, hr, rfl, e2⟩
set_option maxRecDepth 100000 in
set_option maxHeartbeats 8000000 in
theorem c_add_instruction0 {target data : Str} {t1 t2 : Tok} (hz : D.rows.length < 1000) :
    Con w 180 870 8700 [.ref D.tr, .none, .str target t1, .str data t2] (fun n => n.Perm (D.led w ++ rest))
      (fun _ v n' => ∃ (r : RowD) (tk : Tok), NewRow r "instruction" target "" target data .none ∧ v = .int (D.rows.length : Nat) tk ∧ n' = (D.add r).led w ++ rest) := by
  refine Con.of fun tpv lov mean mg mb gd cn cs a ccd cl outer A₀ base h₀ L m news s Q E hkk B F X N Ap T P ret => ?_
  have h1 := perm_mem P _ (mem_top1 w D)
  have h2 := perm_mem P _ (mem_top2 w D)
  refine wpAny_call ?_
  k_dflt ktr_enter
  repeat' (first | (k_unfold; (try dsimp only)) | ((fail_if_success (with_reducible show wpAny _ _ (call (Value.ref _) _ _) _ _ _)); walk1) | (dsimp only; ((fail_if_success (with_reducible show wpAny _ _ (call (Value.ref _) _ _) _ _ _)); walk1)))
  (refine' Con.use (c_add_child0 (rest := rest) hz) ?uhh24 ?uhf24 ?uhdp24 ?uhu24 ?uhk24 ?uB24 ?uF24 ?uX24 ?uN24 ?uT24 ?uAp24 ?uP24 ?_; (case uhh24 => exact rfl); (case uhf24 => exact rfl); (case uhdp24 => exact Nat.le_of_ble_eq_true rfl); (case uhu24 => exact Nat.le_of_ble_eq_true rfl); (case uhk24 => first | assumption | exact rfl); (case uB24 => k_asm); (case uF24 => k_asm); (case uX24 => k_asm); (case uN24 => k_asm); (case uT24 => k_asm); (case uAp24 => first | assumption | (repeat' (first | assumption | refine Apart.cons (by first | assumption | exact tb_ltOf (by assumption)) ?_))))
  · exact P
  rintro v n2 h2' tk2 F2 N2 Ap2 ⟨r, tq, hr, rfl, e2⟩
  repeat' (first | (k_unfold; (try dsimp only)) | ((fail_if_success (with_reducible show wpAny _ _ (call (Value.ref _) _ _) _ _ _)); walk1) | (dsimp only; ((fail_if_success (with_reducible show wpAny _ _ (call (Value.ref _) _ _) _ _ _)); walk1)))
  exact ret _ _ _ _ (by k_asm) (by k_asm) Ap2 ⟨r, _, hr, rfl, e2⟩
set_option maxRecDepth 100000 in
set_option maxHeartbeats 8000000 in
theorem c_add_instruction1 {p : Nat} {tp : Tok} {rp : RowD} {target data : Str} {t1 t2 : Tok} (hz : D.rows.length < 1000) (hp : D.rows[p]? = some rp) (hk : parentStr rp.kind = true) (hc : rp.ch.length ≤ 1000) :
    Con w 180 870 8700 [.ref D.tr, .int p tp, .str target t1, .str data t2] (fun n => n.Perm (D.led w ++ rest))
      (fun _ v n' => ∃ (r : RowD) (tk : Tok), NewRow r "instruction" target "" target data (.int p tp) ∧ v = .int (D.rows.length : Nat) tk ∧
        n' = ((D.add r).set p { rp with ch := rp.ch ++ [.int (D.rows.length : Nat) tk], cn := rp.cn + 1 }).led w ++ rest) := by
  refine Con.of fun tpv lov mean mg mb gd cn cs a ccd cl outer A₀ base h₀ L m news s Q E hkk B F X N Ap T P ret => ?_
  have h1 := perm_mem P _ (mem_top1 w D)
  have h2 := perm_mem P _ (mem_top2 w D)
  refine wpAny_call ?_
  k_dflt ktr_enter
  repeat' (first | (k_unfold; (try dsimp only)) | ((fail_if_success (with_reducible show wpAny _ _ (call (Value.ref _) _ _) _ _ _)); walk1) | (dsimp only; ((fail_if_success (with_reducible show wpAny _ _ (call (Value.ref _) _ _) _ _ _)); walk1)))
  (refine' Con.use (c_add_child1 (rest := rest) hz hp hk hc) ?uhh25 ?uhf25 ?uhdp25 ?uhu25 ?uhk25 ?uB25 ?uF25 ?uX25 ?uN25 ?uT25 ?uAp25 ?uP25 ?_; (case uhh25 => exact rfl); (case uhf25 => exact rfl); (case uhdp25 => exact Nat.le_of_ble_eq_true rfl); (case uhu25 => exact Nat.le_of_ble_eq_true rfl); (case uhk25 => first | assumption | exact rfl); (case uB25 => k_asm); (case uF25 => k_asm); (case uX25 => k_asm); (case uN25 => k_asm); (case uT25 => k_asm); (case uAp25 => first | assumption | (repeat' (first | assumption | refine Apart.cons (by first | assumption | exact tb_ltOf (by assumption)) ?_))))
  · exact P
  rintro v n2 h2' tk2 F2 N2 Ap2 ⟨r, tq, hr, rfl, e2⟩
  repeat' (first | (k_unfold; (try dsimp only)) | ((fail_if_success (with_reducible show wpAny _ _ (call (Value.ref _) _ _) _ _ _)); walk1) | (dsimp only; ((fail_if_success (with_reducible show wpAny _ _ (call (Value.ref _) _ _) _ _ _)); walk1)))
  exact ret _ _ _ _ (by k_asm) (by k_asm) Ap2 ⟨r, _, hr, rfl, e2⟩
end
/-! Loop -/
section
open PySem PySem.W PyProof.Rows
theorem frame_stored {stored : List Str} {m₁ m₀ : Str → Option Value} (h : ∀ y, stored.contains y = false → m₁ y = m₀ y) : m₁ = fun y => if stored.contains y then m₁ y else m₀ y := by
  funext y
  cases hc : stored.contains y with
  | true => simp
  | false => simp only [Bool.false_eq_true, if_false]; exact h y hc
theorem frame_stored2 {stored : List Str} {x : Str} {v : Option Value} {m₁ m₀ : Str → Option Value} (h : ∀ y, y ≠ x → stored.contains y = false → m₁ y = m₀ y) :
    (fun y => if y = x then v else m₁ y) = fun y => if y = x then v else if stored.contains y then m₁ y else m₀ y := by
  funext y
  by_cases hx : y = x
  · simp [hx]
  · simp only [if_neg hx]
    cases hc : stored.contains y with
    | true => simp
    | false => simp only [Bool.false_eq_true, if_false]; exact h y hx hc
theorem frame_stored3 {stored : List Str} {x : Str} {m₁ m₀ : Str → Option Value} (h : ∀ y, y ≠ x → stored.contains y = false → m₁ y = m₀ y) :
    m₁ = fun y => if y = x then m₁ y else if stored.contains y then m₁ y else m₀ y := by
  funext y
  by_cases hx : y = x
  · simp [hx]
  · simp only [if_neg hx]
    cases hc : stored.contains y with
    | true => simp
    | false => simp only [Bool.false_eq_true, if_false]; exact h y hx hc
/-- the frame behind a turn: only the loop's name and the named ones are stored -/
def Kept (x : Str) (stored : List Str) (m₀ : Str → Option Value) (l₀ : Led) (m : Str → Option Value) (l : Led) : Prop := l = l₀ ∧ ∀ y, y ≠ x → stored.contains y = false → m y = m₀ y
section
variable {prog : Program} {w : World} {A : Around} {E : Value → Shared → Prop} {s : Shared} {env : Env} {h₀ : Heap} {x : Str} {body : List Stmt} {Q : Flow → Shared → Prop}
/-- what a turn's end must show: the iterator stands, the word holds -/
def TEnd (h₀ : Heap) (L : Addr) (J : (Str → Option Value) → Led → Prop) (I : Addr) (o : Obj) (s : Shared) (s₂ : Shared) : Prop :=
  ∃ h' tk' m' n', s₂ = { s with heap := h', toks := tk' } ∧ Fr h₀ L h' m' ∧ News h₀ L h' ((I, o) :: n') ∧ (∀ p ∈ n', p.1 ≠ I) ∧ J m' n'
def TPost (h₀ : Heap) (L : Addr) (J : (Str → Option Value) → Led → Prop) (I : Addr) (o : Obj) (s : Shared) (Q : Flow → Shared → Prop) (f : Flow) (s₂ : Shared) : Prop :=
  match f with
  | .ret v => Q (.ret v) s₂
  | .brk => Q .next s₂
  | _ => TEnd h₀ L J I o s s₂
theorem loop_any {I : Addr} {fp : List Addr} {n : Nat} {P : Nat → Value → Prop} {St : Nat → Heap → Prop} {m₀ : Str → Option Value} {news : Led} (src : Led) (J : Nat → (Str → Option Value) → Led → Prop)
    (W : Walks prog w A I fp [I] n P St) (hIf : I ∈ fp) (hfp : ∀ b ∈ fp, b = I ∨ b ∈ src.map (·.1)) (keep : ∀ i m l, J i m l → ∀ p ∈ src, p ∈ l) (hob : ∀ i h, St i h → ∃ o, h.get? I = some o)
    (hI0 : h₀.get? I = none) (hLI : env.locals ≠ I) (hnI : ∀ p ∈ news, p.1 ≠ I) (hst : St 0 s.heap) (F : Fr h₀ env.locals s.heap m₀) (N : News h₀ env.locals s.heap news) (hj : J 0 m₀ news)
    (turn : ∀ i v m₁ n₁ h tk o, i < n → P i v → J i m₁ n₁ → (∀ p ∈ n₁, p.1 ≠ I) → Fr h₀ env.locals h (fun y => if y = x then some v else m₁ y) → News h₀ env.locals h ((I, o) :: n₁) →
      wpAny (model prog w) A (execs body env) (TPost h₀ env.locals (J (i + 1)) I o s Q) E { s with heap := h, toks := tk })
    (done : ∀ m₁ n₁ h tk, J n m₁ n₁ → Fr h₀ env.locals h m₁ → News h₀ env.locals h n₁ → Q .next { s with heap := h, toks := tk }) :
    LoopAtV prog w A h₀ env x body Q E (.ref I) s := by
  have srcN : ∀ p ∈ src, p ∈ news := keep 0 m₀ news hj
  have hLf : env.locals ∉ fp := by
    intro hm
    rcases hfp _ hm with e | hm
    · exact hLI e
    · obtain ⟨p, hp, e⟩ := List.mem_map.mp hm
      exact (N p (srcN p hp)).2.1 e
  refine ⟨I, fp, [I], n, P, St, m₀, news, J, rfl, W, hLf, (fun b hb => by rw [List.mem_singleton.mp hb]; exact hI0), (fun p hp hm => hnI p hp (List.mem_singleton.mp hm)), hst, F, N, hj, ?_, ?_⟩
  · rintro i v m₁ n₁ s₁ own ⟨h, tk, rfl⟩ hin hP hJ hoff hown hget hall hst' F₁ N₁
    obtain ⟨o, ho⟩ := hob _ _ hst'
    have hio : (I, o) ∈ own := hall I hIf hI0 o ho
    have hsub : ∀ p ∈ own, p = (I, o) ∨ p ∈ src := by
      intro p hp
      rcases hfp _ (hown p hp) with e | hm
      · refine .inl (Prod.ext e ?_)
        have h1 := hget p hp
        rw [e, ho] at h1
        exact (Option.some.inj h1).symm
      · obtain ⟨q, hq, e⟩ := List.mem_map.mp hm
        refine .inr ?_
        have h1 := hget p hp
        have h2 := (N₁ q (List.mem_append_right _ (keep i m₁ n₁ hJ q hq))).1
        rw [e, h1] at h2
        have : p = q := Prod.ext e.symm (Option.some.inj h2)
        rw [this]; exact hq
    have N₂ : News h₀ env.locals h ((I, o) :: n₁) := fun p hp => by
      rcases List.mem_cons.mp hp with rfl | hp
      · exact N₁ _ (List.mem_append_left _ hio)
      · exact N₁ _ (List.mem_append_right _ hp)
    refine wpAny_mono (turn i v m₁ n₁ h tk o hin hP hJ (fun p hp e => hoff p hp (List.mem_singleton.mpr e)) F₁ N₂) (fun f s₂ p => ?_) fun _ _ e => e
    have fin : TEnd h₀ env.locals (J (i + 1)) I o s s₂ → LoopStepU h₀ env.locals [I] own (J (i + 1)) { s with heap := h, toks := tk } .next s₂ := by
      rintro ⟨h', tk', m', n', e, F', N', ho', hj'⟩
      refine ⟨rfl, h', tk', m', n', e, F', fun p hp => ?_, fun p hp hm => ho' p hp (List.mem_singleton.mp hm), hj'⟩
      rcases List.mem_append.mp hp with hp | hp
      · rcases hsub p hp with rfl | hp
        · exact N' _ (.head _)
        · exact N' _ (.tail _ (keep _ _ _ hj' p hp))
      · exact N' _ (.tail _ hp)
    cases f with
    | ret v => exact .ret p
    | brk => exact .brk p
    | next => exact .next (fin p)
    | cont => exact .cont (fin p)
  · intro h' tk m' n' F' N' _ hJ
    exact done m' n' h' tk hJ F' N'
/-- a for over a list of the ledger that the loop leaves as it is -/
theorem iter_led {l : Addr} {vs : List Value} {nv : Nat} {m₀ : Str → Option Value} {news : Led} (J : Nat → (Str → Option Value) → Led → Prop)
    (hh : A.handled = none) (keep : ∀ i m n, J i m n → (l, listOf vs.toArray nv) ∈ n) (F : Fr h₀ env.locals s.heap m₀) (N : News h₀ env.locals s.heap news) (hj : J 0 m₀ news)
    (turn : ∀ i v m₁ n₁ h tk I o, vs[i]? = some v → J i m₁ n₁ → (∀ p ∈ n₁, p.1 ≠ I) → Fr h₀ env.locals h (fun y => if y = x then some v else m₁ y) → News h₀ env.locals h ((I, o) :: n₁) →
      wpAny (model prog w) A (execs body env) (TPost h₀ env.locals (J (i + 1)) I o s Q) E { s with heap := h, toks := tk })
    (done : ∀ m₁ n₁ h tk, J vs.length m₁ n₁ → Fr h₀ env.locals h m₁ → News h₀ env.locals h n₁ → Q .next { s with heap := h, toks := tk }) :
    wpAny (model prog w) A (pyIter (.ref l)) (fun it s₂ => LoopAtV prog w A h₀ env x body Q E it s₂) E s := by
  have hm := keep 0 m₀ news hj
  have hls : s.heap.IsList l vs.toArray := N.isList hm
  have hne : l ≠ s.heap.objs.size := Nat.ne_of_lt (Heap.lt_size (N _ hm).1)
  refine wpAny_pyIter_list hls ?_
  have W := Walks.list (prog := prog) (w := w) hh s.heap.objs.size l hne vs.toArray
  rw [List.size_toArray] at W
  refine loop_any [(l, listOf vs.toArray nv)] J W (.head _) ?_ (fun i m n h p hp => by rw [List.mem_singleton.mp hp]; exact keep i m n h) (fun i h hs => by obtain ⟨o, ho, _⟩ := hs.1; exact ⟨o, ho⟩) (next_is_new F) (Nat.ne_of_lt F.ns.lt)
    (fun p hp => Nat.ne_of_lt (Heap.lt_size (N p hp).1)) ⟨⟨_, Heap.get?_push_size _ rfl, rfl, rfl⟩, hls.at fun o e => Heap.get?_push_of_some _ e⟩ (F.push _) (fun p hp => ⟨Heap.get?_push_of_some _ (N p hp).1, (N p hp).2⟩) hj ?_ done
  · intro b hb
    rcases List.mem_cons.mp hb with e | hb
    · exact .inl e
    · exact .inr (by rw [List.mem_singleton.mp hb]; simp)
  · intro i v m₁ n₁ h tk o hin hP hJ hoff F₁ N₁
    exact turn i v m₁ n₁ h tk _ o (by simpa using hP) hJ hoff F₁ N₁
/-- a for over a dict of ints of the ledger that the loop leaves as it is -/
theorem iter_keys {d : Addr} {od : Obj} {kvs : List (Int × Value)} {m₀ : Str → Option Value} {news : Led} (J : Nat → (Str → Option Value) → Led → Prop)
    (hh : A.handled = none) (hd : od.IsDictOf (intKind prog w) kvs) (lo : (d == sysModules) = false) (keep : ∀ i m n, J i m n → (d, od) ∈ n) (F : Fr h₀ env.locals s.heap m₀) (N : News h₀ env.locals s.heap news) (hj : J 0 m₀ news)
    (turn : ∀ i k y t m₁ n₁ h tk I o, kvs[i]? = some (k, y) → J i m₁ n₁ → (∀ p ∈ n₁, p.1 ≠ I) → Fr h₀ env.locals h (fun y => if y = x then some (.int k t) else m₁ y) → News h₀ env.locals h ((I, o) :: n₁) →
      wpAny (model prog w) A (execs body env) (TPost h₀ env.locals (J (i + 1)) I o s Q) E { s with heap := h, toks := tk })
    (done : ∀ m₁ n₁ h tk, J kvs.length m₁ n₁ → Fr h₀ env.locals h m₁ → News h₀ env.locals h n₁ → Q .next { s with heap := h, toks := tk }) :
    wpAny (model prog w) A (pyIter (.ref d)) (fun it s₂ => LoopAtV prog w A h₀ env x body Q E it s₂) E s := by
  have hm := keep 0 m₀ news hj
  obtain ⟨es, ep, hr⟩ := hd
  have hda : s.heap.DictAt (intKind prog w) d kvs ep := ⟨od, es, (N _ hm).1, hr⟩
  have hne : d ≠ s.heap.objs.size := Nat.ne_of_lt (Heap.lt_size (N _ hm).1)
  have W := Walks.dictKeys (prog := prog) (w := w) (knd := intKind prog w) hh s.heap.objs.size d hne kvs ep
  refine wpAny_pyIter_dict lo hda ?_
  refine loop_any [(d, od)] J W (.head _) ?_ (fun i m n h p hp => by rw [List.mem_singleton.mp hp]; exact keep i m n h) (fun i h hs => by obtain ⟨o, ho, _⟩ := hs.1; exact ⟨o, ho⟩) (next_is_new F) (Nat.ne_of_lt F.ns.lt)
    (fun p hp => Nat.ne_of_lt (Heap.lt_size (N p hp).1)) ⟨⟨_, Heap.get?_push_size _ rfl, rfl, rfl⟩, hda.at' fun o e => Heap.get?_push_of_some _ e⟩ (F.push _) (fun p hp => ⟨Heap.get?_push_of_some _ (N p hp).1, (N p hp).2⟩) hj ?_ done
  · intro b hb
    rcases List.mem_cons.mp hb with e | hb
    · exact .inl e
    · exact .inr (by rw [List.mem_singleton.mp hb]; simp)
  · intro i v m₁ n₁ h tk o hin hP hJ hoff F₁ N₁
    obtain ⟨k, y, hk, hv⟩ := hP
    obtain ⟨t, rfl⟩ := Value.isInt_shape hv
    exact turn i k y t m₁ n₁ h tk _ o hk hJ hoff F₁ N₁
/-- a for over range(n) -/
theorem iter_range {r : Addr} {n : Nat} {t₀ u₀ v₀ : Tok} {m₀ : Str → Option Value} {news : Led} (J : Nat → (Str → Option Value) → Led → Prop)
    (hh : A.handled = none) (hr : IsRange s.heap r 0 (n : Nat) 1 t₀ u₀ v₀) (hsmall : Builtin.Range.small 0 (n : Nat) 1 = true) (hn : Builtin.Range.rangeSize 0 (n : Nat) 1 = (n : Int)) (F : Fr h₀ env.locals s.heap m₀) (N : News h₀ env.locals s.heap news) (hj : J 0 m₀ news)
    (turn : ∀ i t m₁ n₁ h tk I o, i < n → J i m₁ n₁ → (∀ p ∈ n₁, p.1 ≠ I) → Fr h₀ env.locals h (fun y => if y = x then some (.int (i : Nat) t) else m₁ y) → News h₀ env.locals h ((I, o) :: n₁) →
      wpAny (model prog w) A (execs body env) (TPost h₀ env.locals (J (i + 1)) I o s Q) E { s with heap := h, toks := tk })
    (done : ∀ m₁ n₁ h tk, J n m₁ n₁ → Fr h₀ env.locals h m₁ → News h₀ env.locals h n₁ → Q .next { s with heap := h, toks := tk }) :
    wpAny (model prog w) A (pyIter (.ref r)) (fun it s₂ => LoopAtV prog w A h₀ env x body Q E it s₂) E s := by
  refine wpAny_pyIter_range hr hsmall ?_
  have W : Walks prog w A s.heap.objs.size [s.heap.objs.size] [s.heap.objs.size] n (fun i v => ∃ t, v = .int ((0 : Int) + i * 1) t)
      (fun i h => IsRangeIter h s.heap.objs.size ((0 : Int) + (i : Nat) * 1) ((n : Int) - (i : Nat)) 1) := Walks.range hh _ 0 1 n
  refine loop_any [] J W (.head _) ?_ (fun i m n h p hp => nomatch hp) (fun i h hs => ⟨_, hs⟩) (next_is_new F) (Nat.ne_of_lt F.ns.lt)
    (fun p hp => Nat.ne_of_lt (Heap.lt_size (N p hp).1)) (by show IsRangeIter _ _ _ _ _; rw [hn]; simpa using Heap.get?_push_size _ rfl) (F.push _) (fun p hp => ⟨Heap.get?_push_of_some _ (N p hp).1, (N p hp).2⟩) hj ?_ done
  · intro b hb
    exact .inl (List.mem_singleton.mp hb)
  · intro i v m₁ n₁ h tk o hin hP hJ hoff F₁ N₁
    obtain ⟨t, rfl⟩ := hP
    have e : (0 : Int) + (i : Int) * 1 = (i : Nat) := by omega
    rw [e] at F₁
    exact turn i t m₁ n₁ h tk _ o hin hJ hoff F₁ N₁
/-- a for over a list of the ledger; the ledger stays -/
theorem iter_read {l : Addr} {vs : List Value} {nv : Nat} {m₀ : Str → Option Value} {news : Led} (stored : List Str)
    (hh : A.handled = none) (hm : (l, listOf vs.toArray nv) ∈ news) (F : Fr h₀ env.locals s.heap m₀) (N : News h₀ env.locals s.heap news)
    (turn : ∀ (i : Nat) v (u : Str → Option Value) h tk I o, vs[i]? = some v → (∀ p ∈ news, p.1 ≠ I) → Fr h₀ env.locals h (fun y => if y = x then some v else if stored.contains y then u y else m₀ y) → News h₀ env.locals h ((I, o) :: news) →
      wpAny (model prog w) A (execs body env) (TPost h₀ env.locals (Kept x stored m₀ news) I o s Q) E { s with heap := h, toks := tk })
    (done : ∀ (u : Str → Option Value) h tk, Fr h₀ env.locals h (fun y => if y = x then u y else if stored.contains y then u y else m₀ y) → News h₀ env.locals h news → Q .next { s with heap := h, toks := tk }) :
    wpAny (model prog w) A (pyIter (.ref l)) (fun it s₂ => LoopAtV prog w A h₀ env x body Q E it s₂) E s := by
  refine iter_led (fun _ => Kept x stored m₀ news) hh (fun i m n h => h.1 ▸ hm) F N ⟨rfl, fun _ _ _ => rfl⟩ ?_ ?_
  · rintro i v m₁ n₁ h tk I o hv ⟨rfl, hk⟩ hoff F₁ N₁
    rw [frame_stored2 hk] at F₁
    exact turn i v m₁ h tk I o hv hoff F₁ N₁
  · rintro m₁ n₁ h tk ⟨rfl, hk⟩ F₁ N₁
    rw [frame_stored3 hk] at F₁
    exact done m₁ h tk F₁ N₁
theorem iter_keys_read {d : Addr} {od : Obj} {kvs : List (Int × Value)} {m₀ : Str → Option Value} {news : Led} (stored : List Str)
    (hh : A.handled = none) (hd : od.IsDictOf (intKind prog w) kvs) (lo : (d == sysModules) = false) (hm : (d, od) ∈ news) (F : Fr h₀ env.locals s.heap m₀) (N : News h₀ env.locals s.heap news)
    (turn : ∀ (i : Nat) k y t (u : Str → Option Value) h tk I o, kvs[i]? = some (k, y) → (∀ p ∈ news, p.1 ≠ I) → Fr h₀ env.locals h (fun y => if y = x then some (.int k t) else if stored.contains y then u y else m₀ y) → News h₀ env.locals h ((I, o) :: news) →
      wpAny (model prog w) A (execs body env) (TPost h₀ env.locals (Kept x stored m₀ news) I o s Q) E { s with heap := h, toks := tk })
    (done : ∀ (u : Str → Option Value) h tk, Fr h₀ env.locals h (fun y => if y = x then u y else if stored.contains y then u y else m₀ y) → News h₀ env.locals h news → Q .next { s with heap := h, toks := tk }) :
    wpAny (model prog w) A (pyIter (.ref d)) (fun it s₂ => LoopAtV prog w A h₀ env x body Q E it s₂) E s := by
  refine iter_keys (fun _ => Kept x stored m₀ news) hh hd lo (fun i m n h => h.1 ▸ hm) F N ⟨rfl, fun _ _ _ => rfl⟩ ?_ ?_
  · rintro i k y t m₁ n₁ h tk I o hv ⟨rfl, hk⟩ hoff F₁ N₁
    rw [frame_stored2 hk] at F₁
    exact turn i k y t m₁ h tk I o hv hoff F₁ N₁
  · rintro m₁ n₁ h tk ⟨rfl, hk⟩ F₁ N₁
    rw [frame_stored3 hk] at F₁
    exact done m₁ h tk F₁ N₁
theorem TEnd.kept {stored : List Str} {L I : Addr} {o : Obj} {m₀ m' : Str → Option Value} {l₀ : Led} {h' : Heap} {tk' : Nat} (F : Fr h₀ L h' m') (N : News h₀ L h' ((I, o) :: l₀)) (off : ∀ p ∈ l₀, p.1 ≠ I)
    (hk : ∀ y, y ≠ x → stored.contains y = false → m' y = m₀ y) : TEnd h₀ L (Kept x stored m₀ l₀) I o s { s with heap := h', toks := tk' } := ⟨h', tk', m', l₀, rfl, F, N, off, rfl, hk⟩
def KeptS (x : Str) (stored : List Str) (m₀ : Str → Option Value) (S : Led → Prop) (m : Str → Option Value) (l : Led) : Prop := S l ∧ ∀ y, y ≠ x → stored.contains y = false → m y = m₀ y
theorem TEnd.keptS {stored : List Str} {L I : Addr} {o : Obj} {m₀ m' : Str → Option Value} {S : Led → Prop} {l : Led} {h' : Heap} {tk' : Nat} (F : Fr h₀ L h' m') (N : News h₀ L h' ((I, o) :: l)) (off : ∀ p ∈ l, p.1 ≠ I) (hS : S l)
    (hk : ∀ y, y ≠ x → stored.contains y = false → m' y = m₀ y) : TEnd h₀ L (KeptS x stored m₀ S) I o s { s with heap := h', toks := tk' } := ⟨h', tk', m', l, rfl, F, N, off, hS, hk⟩
theorem iter_range_st {r : Addr} {n : Nat} {t₀ u₀ v₀ : Tok} {m₀ : Str → Option Value} {news : Led} (stored : List Str) (S : Nat → Led → Prop)
    (hh : A.handled = none) (hn : n < 1000) (hr : IsRange s.heap r 0 (n : Nat) 1 t₀ u₀ v₀) (F : Fr h₀ env.locals s.heap m₀) (N : News h₀ env.locals s.heap news) (hs : S 0 news)
    (turn : ∀ (i : Nat) t (u : Str → Option Value) n₁ h tk I o, i < n → S i n₁ → (∀ p ∈ n₁, p.1 ≠ I) → Fr h₀ env.locals h (fun y => if y = x then some (.int (i : Nat) t) else if stored.contains y then u y else m₀ y) → News h₀ env.locals h ((I, o) :: n₁) →
      wpAny (model prog w) A (execs body env) (TPost h₀ env.locals (KeptS x stored m₀ (S (i + 1))) I o s Q) E { s with heap := h, toks := tk })
    (done : ∀ (u : Str → Option Value) n₁ h tk, S n n₁ → Fr h₀ env.locals h (fun y => if y = x then u y else if stored.contains y then u y else m₀ y) → News h₀ env.locals h n₁ → Q .next { s with heap := h, toks := tk }) :
    wpAny (model prog w) A (pyIter (.ref r)) (fun it s₂ => LoopAtV prog w A h₀ env x body Q E it s₂) E s := by
  have e1 : Builtin.Range.rangeSize 0 (n : Nat) 1 = (n : Int) := by rw [rangeSize_nat]; omega
  refine iter_range (fun i => KeptS x stored m₀ (S i)) hh hr (small_one (by omega) (by omega) (by omega) (by omega)) e1 F N ⟨hs, fun _ _ _ => rfl⟩ ?_ ?_
  · rintro i t m₁ n₁ h tk I o hi ⟨hS, hk⟩ hoff F₁ N₁
    rw [frame_stored2 hk] at F₁
    exact turn i t m₁ n₁ h tk I o hi hS hoff F₁ N₁
  · rintro m₁ n₁ h tk ⟨hS, hk⟩ F₁ N₁
    rw [frame_stored3 hk] at F₁
    exact done m₁ n₁ h tk hS F₁ N₁
theorem iter_keys_st {d : Addr} {od : Obj} {kvs : List (Int × Value)} {m₀ : Str → Option Value} {news : Led} (stored : List Str) (S : Nat → Led → Prop)
    (hh : A.handled = none) (hd : od.IsDictOf (intKind prog w) kvs) (lo : (d == sysModules) = false) (keep : ∀ i l, S i l → (d, od) ∈ l) (F : Fr h₀ env.locals s.heap m₀) (N : News h₀ env.locals s.heap news) (hs : S 0 news)
    (turn : ∀ (i : Nat) k y t (u : Str → Option Value) n₁ h tk I o, kvs[i]? = some (k, y) → S i n₁ → (∀ p ∈ n₁, p.1 ≠ I) → Fr h₀ env.locals h (fun y => if y = x then some (.int k t) else if stored.contains y then u y else m₀ y) → News h₀ env.locals h ((I, o) :: n₁) →
      wpAny (model prog w) A (execs body env) (TPost h₀ env.locals (KeptS x stored m₀ (S (i + 1))) I o s Q) E { s with heap := h, toks := tk })
    (done : ∀ (u : Str → Option Value) n₁ h tk, S kvs.length n₁ → Fr h₀ env.locals h (fun y => if y = x then u y else if stored.contains y then u y else m₀ y) → News h₀ env.locals h n₁ → Q .next { s with heap := h, toks := tk }) :
    wpAny (model prog w) A (pyIter (.ref d)) (fun it s₂ => LoopAtV prog w A h₀ env x body Q E it s₂) E s := by
  refine iter_keys (fun i => KeptS x stored m₀ (S i)) hh hd lo (fun i m n h => keep i n h.1) F N ⟨hs, fun _ _ _ => rfl⟩ ?_ ?_
  · rintro i k y t m₁ n₁ h tk I o hv ⟨hS, hk⟩ hoff F₁ N₁
    rw [frame_stored2 hk] at F₁
    exact turn i k y t m₁ n₁ h tk I o hv hS hoff F₁ N₁
  · rintro m₁ n₁ h tk ⟨hS, hk⟩ F₁ N₁
    rw [frame_stored3 hk] at F₁
    exact done m₁ n₁ h tk hS F₁ N₁
end
end
/-! C6 -/
section
variable {w : World} {D : TreeD} {i : Nat} {r : RowD} {t : Tok} {rest : Led}
set_option maxRecDepth 100000 in
set_option maxHeartbeats 8000000 in
theorem c_set_attribute {p : Nat} {tp : Tok} {rp : RowD} {name uri loc value : Str} {t1 t2 t3 t4 : Tok} {ns : List Int} (hz : D.rows.length < 1000) (hp : D.rows[p]? = some rp) (he : rp.kind = "element") (hI : IntsAre rp.at_ ns) (hc : rp.at_.length ≤ 1000)
    (hall : ∀ x ∈ ns, ∃ (j : Nat) (rj : RowD), x = (j : Int) ∧ D.rows[j]? = some rj ∧ ¬ (rj.uri = uri ∧ rj.loc = loc)) :
    Con w 194 870 8700 [.ref D.tr, .int p tp, .str name t1, .str uri t2, .str loc t3, .str value t4] (fun n => n.Perm (D.led w ++ rest))
      (fun _ v n' => ∃ (r : RowD) (tk : Tok), NewRow r "attribute" name uri loc value (.int p tp) ∧ v = .int (D.rows.length : Nat) tk ∧
        n' = ((D.add r).set p { rp with at_ := rp.at_ ++ [.int (D.rows.length : Nat) tk], an := rp.an + 1 }).led w ++ rest) := by
  refine Con.of fun tpv lov mean mg mb gd cn cs a ccd cl outer A₀ base h₀ L m news s Q E hkk B F X N Ap T P ret => ?_
  have h1 := perm_mem P _ (mem_top1 w D)
  have h2 := perm_mem P _ (mem_top2 w D)
  have h3 := perm_mem P _ (mem_top3 w D)
  have hx := perm_mem P _ (mem_x w hp)
  have hdd := perm_mem P _ (mem_d w hp)
  have haa := perm_mem P _ (mem_a w hp)
  refine wpAny_call ?_
  k_dflt ktr_enter
  repeat' (first | (k_unfold; (try dsimp only)) | ((fail_if_success (with_reducible show wpAny _ _ (call (Value.ref _) _ _) _ _ _)); walk1) | (dsimp only; ((fail_if_success (with_reducible show wpAny _ _ (call (Value.ref _) _ _) _ _ _)); walk1)))
  (refine' Con.use (c_element_row hp hz he) ?uhh26 ?uhf26 ?uhdp26 ?uhu26 ?uhk26 ?uB26 ?uF26 ?uX26 ?uN26 ?uT26 ?uAp26 ?uP26 ?_; (case uhh26 => exact rfl); (case uhf26 => exact rfl); (case uhdp26 => exact Nat.le_of_ble_eq_true rfl); (case uhu26 => exact Nat.le_of_ble_eq_true rfl); (case uhk26 => first | assumption | exact rfl); (case uB26 => k_asm); (case uF26 => k_asm); (case uX26 => k_asm); (case uN26 => k_asm); (case uT26 => k_asm); (case uAp26 => first | assumption | (repeat' (first | assumption | refine Apart.cons (by first | assumption | exact tb_ltOf (by assumption)) ?_))))
  · exact perm_mem P
  rintro v n2 h2' tk2 F2 N2 Ap2 ⟨rfl, rfl⟩
  repeat' (first | (k_unfold; (try dsimp only)) | ((fail_if_success (with_reducible show wpAny _ _ (call (Value.ref _) _ _) _ _ _)); walk1) | (dsimp only; ((fail_if_success (with_reducible show wpAny _ _ (call (Value.ref _) _ _) _ _ _)); walk1)))
  have hlz : rp.at_.length < 1000000 := by omega
  refine' iter_read ["known"] rfl haa ?F1 ?N1 ?_ ?_
  case F1 => k_asm
  case N1 => k_asm
  · intro i v u h tk I o hv hoff F3 N3
    obtain ⟨x, tx, hxv, hx2⟩ := hI.at i v hv
    subst hxv
    obtain ⟨j, rj, rfl, hj, hne⟩ := hall x (List.mem_of_getElem? hx2)
    have hjx := perm_mem P _ (mem_x w hj)
    have hjd := perm_mem P _ (mem_d w hj)
    have hjr := map_get hj
    have hlr : D.refs.length < 1000000 := by show (D.rows.map _).length < _; rw [List.length_map]; omega
    repeat' (first | (k_unfold; (try dsimp only)) | ((fail_if_success (with_reducible show wpAny _ _ (call (Value.ref _) _ _) _ _ _)); walk1) | (dsimp only; ((fail_if_success (with_reducible show wpAny _ _ (call (Value.ref _) _ _) _ _ _)); walk1)))
    · exact absurd ⟨eq_of_beq (by assumption), eq_of_beq (by assumption)⟩ hne
    all_goals exact TEnd.kept (by k_asm) (by k_asm) hoff (by intro y e1 e2; have g0 : y ≠ "known" := by { rintro rfl; exact absurd e2 (by decide) }; simp only [if_neg e1, if_neg g0, e2, Bool.false_eq_true, if_false])
  · intro u h tk F3 N3
    repeat' (first | (k_unfold; (try dsimp only)) | ((fail_if_success (with_reducible show wpAny _ _ (call (Value.ref _) _ _) _ _ _)); walk1) | (dsimp only; ((fail_if_success (with_reducible show wpAny _ _ (call (Value.ref _) _ _) _ _ _)); walk1)))
    (refine' Con.use (c_new_row (rest := rest) hz rfl) ?uhh27 ?uhf27 ?uhdp27 ?uhu27 ?uhk27 ?uB27 ?uF27 ?uX27 ?uN27 ?uT27 ?uAp27 ?uP27 ?_; (case uhh27 => exact rfl); (case uhf27 => exact rfl); (case uhdp27 => exact Nat.le_of_ble_eq_true rfl); (case uhu27 => exact Nat.le_of_ble_eq_true rfl); (case uhk27 => first | assumption | exact rfl); (case uB27 => k_asm); (case uF27 => k_asm); (case uX27 => k_asm); (case uN27 => k_asm); (case uT27 => k_asm); (case uAp27 => first | assumption | (repeat' (first | assumption | refine Apart.cons (by first | assumption | exact tb_ltOf (by assumption)) ?_))))
    · exact P
    rintro v n3 h3' tk3 F3 N3 Ap3 ⟨r, tq, hr, rfl, e3⟩
    have P3 : n3.Perm ((D.add r).led w ++ rest) := by rw [e3]
    have hp3 : (D.add r).rows[p]? = some rp := by
      show (D.rows ++ [r])[p]? = _
      rw [List.getElem?_append_left (getElem?_lt hp)]
      exact hp
    have h3x := perm_mem P3 _ (mem_x w hp3)
    have h3d := perm_mem P3 _ (mem_d w hp3)
    have h3a := perm_mem P3 _ (mem_a w hp3)
    repeat' (first | (k_unfold; (try dsimp only)) | ((fail_if_success (with_reducible show wpAny _ _ (call (Value.ref _) _ _) _ _ _)); walk1) | (dsimp only; ((fail_if_success (with_reducible show wpAny _ _ (call (Value.ref _) _ _) _ _ _)); walk1)))
    refine' m_append ?F4 ?N4 h3a hc ?_
    case F4 => k_asm
    case N4 => k_asm
    intro h5 F5 N5
    repeat' (first | (k_unfold; (try dsimp only)) | ((fail_if_success (with_reducible show wpAny _ _ (call (Value.ref _) _ _) _ _ _)); walk1) | (dsimp only; ((fail_if_success (with_reducible show wpAny _ _ (call (Value.ref _) _ _) _ _ _)); walk1)))
    subst e3
    have N7 := News_subN (by k_asm : News h₀ L h5 (upd rp.a _ _)) (upd_row w (r' := { rp with at_ := rp.at_ ++ [.int (D.rows.length : Nat) tq], an := rp.an + 1 }) Ap3 hp3 rfl (key_a w rp) (upd_a w rp (rp.at_ ++ [.int (D.rows.length : Nat) tq]) (rp.an + 1)))
    exact ret _ _ _ _ (by k_asm) N7 (Ap3.set w hp3 rfl rfl rfl rfl rfl) ⟨r, _, hr, rfl, rfl⟩
set_option maxRecDepth 100000 in
set_option maxHeartbeats 8000000 in
theorem c_add_namespace {p : Nat} {tp : Tok} {rp : RowD} {pre uri : Str} {t1 t2 : Tok} {ns : List Int} (hz : D.rows.length < 1000) (hp : D.rows[p]? = some rp) (he : rp.kind = "element") (hI : IntsAre rp.ns ns) (hc : rp.ns.length ≤ 1000)
    (hall : ∀ x ∈ ns, ∃ (j : Nat) (rj : RowD), x = (j : Int) ∧ D.rows[j]? = some rj ∧ ¬ (rj.name = pre)) :
    Con w 201 870 8700 [.ref D.tr, .int p tp, .str pre t1, .str uri t2] (fun n => n.Perm (D.led w ++ rest))
      (fun _ v n' => ∃ (r : RowD) (tk : Tok), NewRow r "namespace" pre "" pre uri (.int p tp) ∧ v = .int (D.rows.length : Nat) tk ∧
        n' = ((D.add r).set p { rp with ns := rp.ns ++ [.int (D.rows.length : Nat) tk], nn := rp.nn + 1 }).led w ++ rest) := by
  refine Con.of fun tpv lov mean mg mb gd cn cs a ccd cl outer A₀ base h₀ L m news s Q E hkk B F X N Ap T P ret => ?_
  have h1 := perm_mem P _ (mem_top1 w D)
  have h2 := perm_mem P _ (mem_top2 w D)
  have h3 := perm_mem P _ (mem_top3 w D)
  have hx := perm_mem P _ (mem_x w hp)
  have hdd := perm_mem P _ (mem_d w hp)
  have haa := perm_mem P _ (mem_n w hp)
  refine wpAny_call ?_
  k_dflt ktr_enter
  repeat' (first | (k_unfold; (try dsimp only)) | ((fail_if_success (with_reducible show wpAny _ _ (call (Value.ref _) _ _) _ _ _)); walk1) | (dsimp only; ((fail_if_success (with_reducible show wpAny _ _ (call (Value.ref _) _ _) _ _ _)); walk1)))
  (refine' Con.use (c_element_row hp hz he) ?uhh28 ?uhf28 ?uhdp28 ?uhu28 ?uhk28 ?uB28 ?uF28 ?uX28 ?uN28 ?uT28 ?uAp28 ?uP28 ?_; (case uhh28 => exact rfl); (case uhf28 => exact rfl); (case uhdp28 => exact Nat.le_of_ble_eq_true rfl); (case uhu28 => exact Nat.le_of_ble_eq_true rfl); (case uhk28 => first | assumption | exact rfl); (case uB28 => k_asm); (case uF28 => k_asm); (case uX28 => k_asm); (case uN28 => k_asm); (case uT28 => k_asm); (case uAp28 => first | assumption | (repeat' (first | assumption | refine Apart.cons (by first | assumption | exact tb_ltOf (by assumption)) ?_))))
  · exact perm_mem P
  rintro v n2 h2' tk2 F2 N2 Ap2 ⟨rfl, rfl⟩
  repeat' (first | (k_unfold; (try dsimp only)) | ((fail_if_success (with_reducible show wpAny _ _ (call (Value.ref _) _ _) _ _ _)); walk1) | (dsimp only; ((fail_if_success (with_reducible show wpAny _ _ (call (Value.ref _) _ _) _ _ _)); walk1)))
  have hlz : rp.ns.length < 1000000 := by omega
  refine' iter_read [] rfl haa ?F1 ?N1 ?_ ?_
  case F1 => k_asm
  case N1 => k_asm
  · intro i v u h tk I o hv hoff F3 N3
    obtain ⟨x, tx, hxv, hx2⟩ := hI.at i v hv
    subst hxv
    obtain ⟨j, rj, rfl, hj, hne⟩ := hall x (List.mem_of_getElem? hx2)
    have hjx := perm_mem P _ (mem_x w hj)
    have hjd := perm_mem P _ (mem_d w hj)
    have hjr := map_get hj
    have hlr : D.refs.length < 1000000 := by show (D.rows.map _).length < _; rw [List.length_map]; omega
    repeat' (first | (k_unfold; (try dsimp only)) | ((fail_if_success (with_reducible show wpAny _ _ (call (Value.ref _) _ _) _ _ _)); walk1) | (dsimp only; ((fail_if_success (with_reducible show wpAny _ _ (call (Value.ref _) _ _) _ _ _)); walk1)))
    · exact absurd (eq_of_beq (by assumption)) hne
    all_goals exact TEnd.kept (by k_asm) (by k_asm) hoff (by intro y e1 e2; simp only [if_neg e1, e2, Bool.false_eq_true, if_false])
  · intro u h tk F3 N3
    repeat' (first | (k_unfold; (try dsimp only)) | ((fail_if_success (with_reducible show wpAny _ _ (call (Value.ref _) _ _) _ _ _)); walk1) | (dsimp only; ((fail_if_success (with_reducible show wpAny _ _ (call (Value.ref _) _ _) _ _ _)); walk1)))
    (refine' Con.use (c_new_row (rest := rest) hz rfl) ?uhh29 ?uhf29 ?uhdp29 ?uhu29 ?uhk29 ?uB29 ?uF29 ?uX29 ?uN29 ?uT29 ?uAp29 ?uP29 ?_; (case uhh29 => exact rfl); (case uhf29 => exact rfl); (case uhdp29 => exact Nat.le_of_ble_eq_true rfl); (case uhu29 => exact Nat.le_of_ble_eq_true rfl); (case uhk29 => first | assumption | exact rfl); (case uB29 => k_asm); (case uF29 => k_asm); (case uX29 => k_asm); (case uN29 => k_asm); (case uT29 => k_asm); (case uAp29 => first | assumption | (repeat' (first | assumption | refine Apart.cons (by first | assumption | exact tb_ltOf (by assumption)) ?_))))
    · exact P
    rintro v n3 h3' tk3 F3 N3 Ap3 ⟨r, tq, hr, rfl, e3⟩
    have P3 : n3.Perm ((D.add r).led w ++ rest) := by rw [e3]
    have hp3 : (D.add r).rows[p]? = some rp := by
      show (D.rows ++ [r])[p]? = _
      rw [List.getElem?_append_left (getElem?_lt hp)]
      exact hp
    have h3x := perm_mem P3 _ (mem_x w hp3)
    have h3d := perm_mem P3 _ (mem_d w hp3)
    have h3a := perm_mem P3 _ (mem_n w hp3)
    repeat' (first | (k_unfold; (try dsimp only)) | ((fail_if_success (with_reducible show wpAny _ _ (call (Value.ref _) _ _) _ _ _)); walk1) | (dsimp only; ((fail_if_success (with_reducible show wpAny _ _ (call (Value.ref _) _ _) _ _ _)); walk1)))
    refine' m_append ?F4 ?N4 h3a hc ?_
    case F4 => k_asm
    case N4 => k_asm
    intro h5 F5 N5
    repeat' (first | (k_unfold; (try dsimp only)) | ((fail_if_success (with_reducible show wpAny _ _ (call (Value.ref _) _ _) _ _ _)); walk1) | (dsimp only; ((fail_if_success (with_reducible show wpAny _ _ (call (Value.ref _) _ _) _ _ _)); walk1)))
    subst e3
    have N7 := News_subN (by k_asm : News h₀ L h5 (upd rp.n _ _)) (upd_row w (r' := { rp with ns := rp.ns ++ [.int (D.rows.length : Nat) tq], nn := rp.nn + 1 }) Ap3 hp3 rfl (key_n w rp) (upd_n w rp (rp.ns ++ [.int (D.rows.length : Nat) tq]) (rp.nn + 1)))
    exact ret _ _ _ _ (by k_asm) N7 (Ap3.set w hp3 rfl rfl rfl rfl rfl) ⟨r, _, hr, rfl, rfl⟩
end
/-! C7 -/
section
variable {w : World} {D : TreeD} {i : Nat} {r : RowD} {t : Tok} {rest : Led}
def aboveAddr (k : Str) (rp : RowD) : Addr := if (k == "attribute") = true then rp.a else if (k == "namespace") = true then rp.n else rp.c
theorem above_a {k : Str} {rp : RowD} (h : (k == "attribute") = true) : aboveAddr k rp = rp.a := if_pos h
theorem above_n {k : Str} {rp : RowD} (h : (k == "attribute") = false) (h2 : (k == "namespace") = true) : aboveAddr k rp = rp.n := by
  unfold aboveAddr; rw [if_neg (by rw [h]; exact Bool.false_ne_true), if_pos h2]
theorem above_c {k : Str} {rp : RowD} (h : (k == "attribute") = false) (h2 : (k == "namespace") = false) : aboveAddr k rp = rp.c := by
  unfold aboveAddr; rw [if_neg (by rw [h]; exact Bool.false_ne_true), if_neg (by rw [h2]; exact Bool.false_ne_true)]
set_option maxRecDepth 100000 in
set_option maxHeartbeats 8000000 in
theorem c_list_above {g p : Nat} {tp : Tok} {rg rp : RowD} (hz : D.rows.length < 1000) (hg : D.rows[g]? = some rg) (hpar : rg.par = .int p tp) (hp : D.rows[p]? = some rp) :
    Con w 81 880 8800 [.ref D.tr, .int g t] (fun n => ∀ p ∈ D.led w, p ∈ n) (fun n v n' => n' = n ∧ v = .ref (aboveAddr rg.kind rp)) := by
  refine Con.of fun tpv lov mean mg mb gd cn cs a ccd cl outer A₀ base h₀ L m news s Q E hkk B F X N Ap T P ret => ?_
  have h1 := P _ (mem_top1 w D)
  have h2 := P _ (mem_top2 w D)
  have hpx := P _ (mem_x w hp)
  have hpd := P _ (mem_d w hp)
  refine wpAny_call ?_
  k_dflt ktr_enter
  repeat' (first | (k_unfold; (try dsimp only)) | ((fail_if_success (with_reducible show wpAny _ _ (call (Value.ref _) _ _) _ _ _)); walk1) | (dsimp only; ((fail_if_success (with_reducible show wpAny _ _ (call (Value.ref _) _ _) _ _ _)); walk1)))
  (refine' Con.use (c_parent hg hz (by rw [hpar]; rfl)) ?uhh30 ?uhf30 ?uhdp30 ?uhu30 ?uhk30 ?uB30 ?uF30 ?uX30 ?uN30 ?uT30 ?uAp30 ?uP30 ?_; (case uhh30 => exact rfl); (case uhf30 => exact rfl); (case uhdp30 => exact Nat.le_of_ble_eq_true rfl); (case uhu30 => exact Nat.le_of_ble_eq_true rfl); (case uhk30 => first | assumption | exact rfl); (case uB30 => k_asm); (case uF30 => k_asm); (case uX30 => k_asm); (case uN30 => k_asm); (case uT30 => k_asm); (case uAp30 => first | assumption | (repeat' (first | assumption | refine Apart.cons (by first | assumption | exact tb_ltOf (by assumption)) ?_))))
  · exact P
  rintro v n2 h2' tk2 F2 N2 Ap2 ⟨rfl, rfl⟩
  rw [hpar]
  repeat' (first | (k_unfold; (try dsimp only)) | ((fail_if_success (with_reducible show wpAny _ _ (call (Value.ref _) _ _) _ _ _)); walk1) | (dsimp only; ((fail_if_success (with_reducible show wpAny _ _ (call (Value.ref _) _ _) _ _ _)); walk1)))
  (refine' Con.use (c_row hp hz) ?uhh31 ?uhf31 ?uhdp31 ?uhu31 ?uhk31 ?uB31 ?uF31 ?uX31 ?uN31 ?uT31 ?uAp31 ?uP31 ?_; (case uhh31 => exact rfl); (case uhf31 => exact rfl); (case uhdp31 => exact Nat.le_of_ble_eq_true rfl); (case uhu31 => exact Nat.le_of_ble_eq_true rfl); (case uhk31 => first | assumption | exact rfl); (case uB31 => k_asm); (case uF31 => k_asm); (case uX31 => k_asm); (case uN31 => k_asm); (case uT31 => k_asm); (case uAp31 => first | assumption | (repeat' (first | assumption | refine Apart.cons (by first | assumption | exact tb_ltOf (by assumption)) ?_))))
  · exact P
  rintro v n2 h2' tk2 F2 N2 Ap2 ⟨rfl, rfl⟩
  repeat' (first | (k_unfold; (try dsimp only)) | ((fail_if_success (with_reducible show wpAny _ _ (call (Value.ref _) _ _) _ _ _)); walk1) | (dsimp only; ((fail_if_success (with_reducible show wpAny _ _ (call (Value.ref _) _ _) _ _ _)); walk1)))
  (refine' Con.use (c_kind hg hz) ?uhh32 ?uhf32 ?uhdp32 ?uhu32 ?uhk32 ?uB32 ?uF32 ?uX32 ?uN32 ?uT32 ?uAp32 ?uP32 ?_; (case uhh32 => exact rfl); (case uhf32 => exact rfl); (case uhdp32 => exact Nat.le_of_ble_eq_true rfl); (case uhu32 => exact Nat.le_of_ble_eq_true rfl); (case uhk32 => first | assumption | exact rfl); (case uB32 => k_asm); (case uF32 => k_asm); (case uX32 => k_asm); (case uN32 => k_asm); (case uT32 => k_asm); (case uAp32 => first | assumption | (repeat' (first | assumption | refine Apart.cons (by first | assumption | exact tb_ltOf (by assumption)) ?_))))
  · exact P
  rintro v n2 h2' tk2 F2 N2 Ap2 ⟨rfl, rfl⟩
  repeat' (first | (k_unfold; (try dsimp only)) | ((fail_if_success (with_reducible show wpAny _ _ (call (Value.ref _) _ _) _ _ _)); walk1) | (dsimp only; ((fail_if_success (with_reducible show wpAny _ _ (call (Value.ref _) _ _) _ _ _)); walk1)))
  · exact ret _ _ _ _ (by k_asm) (by k_asm) (by assumption) ⟨rfl, by rw [above_a (by assumption)]⟩
  · exact ret _ _ _ _ (by k_asm) (by k_asm) (by assumption) ⟨rfl, by rw [above_n (by assumption) (by assumption)]⟩
  · exact ret _ _ _ _ (by k_asm) (by k_asm) (by assumption) ⟨rfl, by rw [above_c (by assumption) (by assumption)]⟩
/-- the parent's row without the node -/
def RowD.drop (rp : RowD) (k : Str) (g : Int) (nc na nn : List Int) : RowD :=
  if (k == "attribute") = true then { rp with at_ := rp.at_.eraseIdx (na.idxOf g), an := rp.an + 1 }
  else if (k == "namespace") = true then { rp with ns := rp.ns.eraseIdx (nn.idxOf g), nn := rp.nn + 1 }
  else { rp with ch := rp.ch.eraseIdx (nc.idxOf g), cn := rp.cn + 1 }
theorem drop_facts {rp : RowD} {k : Str} {g : Int} {nc na nn : List Int} (hIc : IntsAre rp.ch nc) (hIa : IntsAre rp.at_ na) (hIn : IntsAre rp.ns nn) (hc : rp.ch.length ≤ 1000) (ha : rp.at_.length ≤ 1000) (hn : rp.ns.length ≤ 1000)
    (hma : (k == "attribute") = true → g ∈ na) (hmn : (k == "attribute") = false → (k == "namespace") = true → g ∈ nn) (hmc : (k == "attribute") = false → (k == "namespace") = false → g ∈ nc) :
    ∃ (vs : List Value) (n : Nat) (ns : List Int), (aboveAddr k rp, listOf vs.toArray n) ∈ rp.led w ∧ IntsAre vs ns ∧ g ∈ ns ∧ vs.length ≤ 1000 ∧ aboveAddr k rp ∈ (rp.led w).map (·.1) ∧
      (Apart (rp.led w) → ∀ q ∈ (rp.drop k g nc na nn).led w, q ∈ upd (aboveAddr k rp) (listOf (vs.eraseIdx (ns.idxOf g)).toArray (n + 1)) (rp.led w)) := by
  cases h1 : (k == "attribute") with
  | true =>
    have e : rp.drop k g nc na nn = { rp with at_ := rp.at_.eraseIdx (na.idxOf g), an := rp.an + 1 } := if_pos h1
    rw [above_a h1, e]
    exact ⟨rp.at_, rp.an, na, by simp [RowD.led], hIa, hma h1, ha, key_a w rp, upd_a w rp _ _⟩
  | false =>
    cases h2 : (k == "namespace") with
    | true =>
      have e : rp.drop k g nc na nn = { rp with ns := rp.ns.eraseIdx (nn.idxOf g), nn := rp.nn + 1 } := by
        unfold RowD.drop; rw [if_neg (by rw [h1]; exact Bool.false_ne_true), if_pos h2]
      rw [above_n h1 h2, e]
      exact ⟨rp.ns, rp.nn, nn, by simp [RowD.led], hIn, hmn h1 h2, hn, key_n w rp, upd_n w rp _ _⟩
    | false =>
      have e : rp.drop k g nc na nn = { rp with ch := rp.ch.eraseIdx (nc.idxOf g), cn := rp.cn + 1 } := by
        unfold RowD.drop; rw [if_neg (by rw [h1]; exact Bool.false_ne_true), if_neg (by rw [h2]; exact Bool.false_ne_true)]
      rw [above_c h1 h2, e]
      exact ⟨rp.ch, rp.cn, nc, by simp [RowD.led], hIc, hmc h1 h2, hc, key_c w rp, upd_c w rp _ _⟩
theorem drop_same {rp : RowD} {k : Str} {g : Int} {nc na nn : List Int} : (rp.drop k g nc na nn).x = rp.x ∧ (rp.drop k g nc na nn).d = rp.d ∧ (rp.drop k g nc na nn).c = rp.c ∧ (rp.drop k g nc na nn).a = rp.a ∧ (rp.drop k g nc na nn).n = rp.n := by
  unfold RowD.drop
  split
  · exact ⟨rfl, rfl, rfl, rfl, rfl⟩
  · split
    · exact ⟨rfl, rfl, rfl, rfl, rfl⟩
    · exact ⟨rfl, rfl, rfl, rfl, rfl⟩
set_option maxRecDepth 100000 in
set_option maxHeartbeats 8000000 in
theorem c_parent_store {rg : RowD} {M : Led} {L : Addr} {m : Str → Option Value} {s : Shared} {h₀ : Heap} {A : Around} {E : Value → Shared → Prop} {Q : Unit → Shared → Prop}
    (F : Fr h₀ L s.heap m) (X : (kz w.params).In h₀) (N : News h₀ L s.heap M) (Ap : Apart M) (hx : (rg.x, instObj 106 rg.d) ∈ M) (hdd : (rg.d, dictOf (rg.es w) 9) ∈ M)
    (h : ∀ h', Fr h₀ L h' m → News h₀ L h' (upd rg.d (dictOf (({ rg with par := .none } : RowD).es w) 9) M) → Q () { s with heap := h', toks := s.toks + 2 }) :
    wpAny (model PySem.Challenge.rw_xm0664_01.row.prog w) A (setAttr (.ref rg.x) "parent" .none) Q E s := by
  refine' set_dict (es := rg.es w) (n := 9) (ox := instObj 106 rg.d) F X N ?k4 rfl ?k6 ?k7 ?k8 ?k9 ?k10 ?k11 (Upd_of Ap hdd) ?k13 ?_
  case k4 => exact InstAt.of_news N hx hdd
  case k6 => k_is
  case k7 => k_is
  case k8 => k_is
  case k9 => k_is
  case k10 => rfl
  case k11 => rfl
  case k13 => exact Nat.le_of_ble_eq_true rfl
  exact h
set_option maxRecDepth 100000 in
set_option maxHeartbeats 8000000 in
theorem c_remove {g p : Nat} {tp : Tok} {rg rp : RowD} {nc na nn : List Int} (hz : D.rows.length < 1000) (hg : D.rows[g]? = some rg) (hpar : rg.par = .int p tp) (hp : D.rows[p]? = some rp) (hne : p ≠ g)
    (hIc : IntsAre rp.ch nc) (hIa : IntsAre rp.at_ na) (hIn : IntsAre rp.ns nn) (hc : rp.ch.length ≤ 1000) (ha : rp.at_.length ≤ 1000) (hn : rp.ns.length ≤ 1000)
    (hma : (rg.kind == "attribute") = true → (g : Int) ∈ na) (hmn : (rg.kind == "attribute") = false → (rg.kind == "namespace") = true → (g : Int) ∈ nn)
    (hmc : (rg.kind == "attribute") = false → (rg.kind == "namespace") = false → (g : Int) ∈ nc) :
    Con w 88 870 8700 [.ref D.tr, .int g t] (fun n => n.Perm (D.led w ++ rest))
      (fun _ v n' => v = .none ∧ n' = ((D.set p (rp.drop rg.kind g nc na nn)).set g { rg with par := .none }).led w ++ rest) := by
  refine Con.of fun tpv lov mean mg mb gd cn cs a ccd cl outer A₀ base h₀ L m news s Q E hkk B F X N Ap T P ret => ?_
  have h1 := perm_mem P _ (mem_top1 w D)
  have h2 := perm_mem P _ (mem_top2 w D)
  refine wpAny_call ?_
  k_dflt ktr_enter
  repeat' (first | (k_unfold; (try dsimp only)) | ((fail_if_success (with_reducible show wpAny _ _ (call (Value.ref _) _ _) _ _ _)); walk1) | (dsimp only; ((fail_if_success (with_reducible show wpAny _ _ (call (Value.ref _) _ _) _ _ _)); walk1)))
  (refine' Con.use (c_parent hg hz (by rw [hpar]; rfl)) ?uhh33 ?uhf33 ?uhdp33 ?uhu33 ?uhk33 ?uB33 ?uF33 ?uX33 ?uN33 ?uT33 ?uAp33 ?uP33 ?_; (case uhh33 => exact rfl); (case uhf33 => exact rfl); (case uhdp33 => exact Nat.le_of_ble_eq_true rfl); (case uhu33 => exact Nat.le_of_ble_eq_true rfl); (case uhk33 => first | assumption | exact rfl); (case uB33 => k_asm); (case uF33 => k_asm); (case uX33 => k_asm); (case uN33 => k_asm); (case uT33 => k_asm); (case uAp33 => first | assumption | (repeat' (first | assumption | refine Apart.cons (by first | assumption | exact tb_ltOf (by assumption)) ?_))))
  · exact perm_mem P
  rintro v n2 h2' tk2 F2 N2 Ap2 ⟨rfl, rfl⟩
  rw [hpar]
  repeat' (first | (k_unfold; (try dsimp only)) | ((fail_if_success (with_reducible show wpAny _ _ (call (Value.ref _) _ _) _ _ _)); walk1) | (dsimp only; ((fail_if_success (with_reducible show wpAny _ _ (call (Value.ref _) _ _) _ _ _)); walk1)))
  (refine' Con.use (c_list_above hz hg hpar hp) ?uhh34 ?uhf34 ?uhdp34 ?uhu34 ?uhk34 ?uB34 ?uF34 ?uX34 ?uN34 ?uT34 ?uAp34 ?uP34 ?_; (case uhh34 => exact rfl); (case uhf34 => exact rfl); (case uhdp34 => exact Nat.le_of_ble_eq_true rfl); (case uhu34 => exact Nat.le_of_ble_eq_true rfl); (case uhk34 => first | assumption | exact rfl); (case uB34 => k_asm); (case uF34 => k_asm); (case uX34 => k_asm); (case uN34 => k_asm); (case uT34 => k_asm); (case uAp34 => first | assumption | (repeat' (first | assumption | refine Apart.cons (by first | assumption | exact tb_ltOf (by assumption)) ?_))))
  · exact perm_mem P
  rintro v n2 h2' tk2 F2 N2 Ap2 ⟨rfl, rfl⟩
  obtain ⟨vs, nv, ns', hm, hI', hk', hz', hkey, hup⟩ := drop_facts (w := w) hIc hIa hIn hc ha hn hma hmn hmc
  obtain ⟨e1, e2, e3, e4, e5⟩ := drop_same (rp := rp) (k := rg.kind) (g := g) (nc := nc) (na := na) (nn := nn)
  have hmm : (aboveAddr rg.kind rp, listOf vs.toArray nv) ∈ n2 := perm_mem P _ (mem_row w hp hm)
  have Ap3 := Ap2.perm P
  generalize hrp : rp.drop rg.kind g nc na nn = rp' at *
  generalize aboveAddr rg.kind rp = aa at *
  repeat' (first | (k_unfold; (try dsimp only)) | ((fail_if_success (with_reducible show wpAny _ _ (call (Value.ref _) _ _) _ _ _)); walk1) | (dsimp only; ((fail_if_success (with_reducible show wpAny _ _ (call (Value.ref _) _ _) _ _ _)); walk1)))
  refine' m_remove ?F4 ?N4 Ap2 hmm hI' hk' hz' ?_
  case F4 => k_asm
  case N4 => k_asm
  intro h5 F5 N5
  have N6 := News_subN (News_subN N5 (mem_upd_sub (fun q hq => P.mem_iff.mpr hq))) (upd_row w (r' := rp') Ap3 hp e1 hkey hup)
  have Ap6 := Ap3.set w hp e1 e2 e3 e4 e5
  have hg6 : (D.set p rp').rows[g]? = some rg := by
    show (D.rows.set p rp')[g]? = _
    rw [List.getElem?_set_ne hne]; exact hg
  have hz6 : (D.set p rp').rows.length < 1000 := by show (D.rows.set p rp').length < _; rw [List.length_set]; exact hz
  have P6 : ((D.set p rp').led w ++ rest).Perm ((D.set p rp').led w ++ rest) := .refl _
  generalize hn6 : (D.set p rp').led w ++ rest = n6 at N6 Ap6
  rw [hn6] at P6
  have P7 : n6.Perm ((D.set p rp').led w ++ rest) := by rw [hn6]
  have h61 : (D.tr, instObj 295 D.dt) ∈ n6 := perm_mem P7 _ (mem_top1 w _)
  have h62 : (D.dt, D.dobj w) ∈ n6 := perm_mem P7 _ (mem_top2 w _)
  have h6x := perm_mem P7 _ (mem_x w hg6)
  have h6d := perm_mem P7 _ (mem_d w hg6)
  clear N5
  repeat' (first | (k_unfold; (try dsimp only)) | ((fail_if_success (with_reducible show wpAny _ _ (call (Value.ref _) _ _) _ _ _)); walk1) | (dsimp only; ((fail_if_success (with_reducible show wpAny _ _ (call (Value.ref _) _ _) _ _ _)); walk1)))
  (refine' Con.use (c_row (D := D.set p rp') hg6 hz6) ?uhh35 ?uhf35 ?uhdp35 ?uhu35 ?uhk35 ?uB35 ?uF35 ?uX35 ?uN35 ?uT35 ?uAp35 ?uP35 ?_; (case uhh35 => exact rfl); (case uhf35 => exact rfl); (case uhdp35 => exact Nat.le_of_ble_eq_true rfl); (case uhu35 => exact Nat.le_of_ble_eq_true rfl); (case uhk35 => first | assumption | exact rfl); (case uB35 => k_asm); (case uF35 => k_asm); (case uX35 => k_asm); (case uN35 => k_asm); (case uT35 => k_asm); (case uAp35 => first | assumption | (repeat' (first | assumption | refine Apart.cons (by first | assumption | exact tb_ltOf (by assumption)) ?_))))
  · exact perm_mem P7
  rintro v n7 h7' tk7 F7 N7 Ap7 ⟨rfl, rfl⟩
  repeat' (first | (k_unfold; (try dsimp only)) | ((fail_if_success (with_reducible show wpAny _ _ (call (Value.ref _) _ _) _ _ _)); walk1) | (dsimp only; ((fail_if_success (with_reducible show wpAny _ _ (call (Value.ref _) _ _) _ _ _)); walk1)))
  refine' c_parent_store ?F8 ?X8 ?N8 Ap7 h6x h6d ?_
  case F8 => k_asm
  case X8 => k_asm
  case N8 => k_asm
  intro h8 F8 N8
  repeat' (first | (k_unfold; (try dsimp only)) | ((fail_if_success (with_reducible show wpAny _ _ (call (Value.ref _) _ _) _ _ _)); walk1) | (dsimp only; ((fail_if_success (with_reducible show wpAny _ _ (call (Value.ref _) _ _) _ _ _)); walk1)))
  have N9 := News_subN (by k_asm : News h₀ L h8 (upd rg.d _ _)) (mem_upd_sub (fun q hq => P7.mem_iff.mpr hq))
  have N10 := News_subN N9 (upd_row w (r' := { rg with par := .none }) (Ap7.perm P7) hg6 rfl (key_d w rg) (upd_d w rg .none))
  exact ret _ _ _ _ (by k_asm) N10 ((Ap7.perm P7).set w hg6 rfl rfl rfl rfl rfl) ⟨rfl, rfl⟩
end
/-! C8 -/
section
variable {w : World} {D : TreeD} {i : Nat} {r : RowD} {t : Tok} {rest : Led}
theorem fmod_nat (x : Int) {k : Nat} (hk : 0 < k) : ∃ f : Nat, f < k ∧ x.fmod k = (f : Int) := by
  have h1 := Int.fmod_nonneg_of_pos x (show (0 : Int) < (k : Int) by omega)
  have h2 := Int.fmod_lt_of_pos x (show (0 : Int) < (k : Int) by omega)
  exact ⟨(x.fmod k).toNat, by omega, by omega⟩
set_option maxRecDepth 100000 in
set_option maxHeartbeats 8000000 in
theorem c_take {src : Addr} {z0 z1 : Int} {ta tb : Tok} {nv k : Nat} (hk : 0 < k) (hk2 : k < 100) (hz1 : 0 ≤ z1) (hz2 : z1 < 2147483647) :
    Con w 313 900 9000 [.ref src, .int k t] (fun n => n.Perm ((src, listOf [.int z0 ta, .int z1 tb].toArray nv) :: rest))
      (fun _ v n' => ∃ (f : Nat) (tk : Tok) (a' b' : Int) (ta' tb' : Tok), f < k ∧ v = .int f tk ∧ 0 ≤ b' ∧ b' < 2147483647 ∧ n' = (src, listOf [.int a' ta', .int b' tb'].toArray nv) :: rest) := by
  refine Con.of fun tpv lov mean mg mb gd cn cs a ccd cl outer A₀ base h₀ L m news s Q E hkk B F X N Ap T P ret => ?_
  have N1 := News_perm P N
  have Ap1 := Ap.perm P
  have hne := Apart.ne Ap1
  clear N
  refine wpAny_call ?_
  k_dflt ktr_enter
  repeat' (first | (k_unfold; (try dsimp only)) | ((fail_if_success (with_reducible show wpAny _ _ (call (Value.ref _) _ _) _ _ _)); walk1) | (dsimp only; ((fail_if_success (with_reducible show wpAny _ _ (call (Value.ref _) _ _) _ _ _)); walk1)))
  · have e1 : ([z0, z1] : List Int).getD (Int.toNat 0) 0 = z0 := rfl
    rw [e1]
    obtain ⟨f, hf, e⟩ := fmod_nat z0 hk
    rw [e]
    exact ret _ _ _ _ (by k_asm) (by k_asm) (by exact Apart.keys (by rfl) Ap1) ⟨f, _, _, _, _, _, hf, rfl, hz1, hz2, rfl⟩
  · have h0 := Int.fmod_nonneg_of_pos (z1 * 39373 + 7) (show (0 : Int) < 2147483647 by decide)
    have h1 := Int.fmod_lt_of_pos (z1 * 39373 + 7) (show (0 : Int) < 2147483647 by decide)
    have e1 : ([z0, ([z0, z1].getD (Int.toNat 1) 0 * 39373 + 7).fmod 2147483647] : List Int).getD (Int.toNat 1) 0 = (z1 * 39373 + 7).fmod 2147483647 := rfl
    rw [e1]
    refine' mul_int ?_ (IntMulOk.of_left (intBits_le_64 (by omega) (by omega)))
    repeat' (first | (k_unfold; (try dsimp only)) | ((fail_if_success (with_reducible show wpAny _ _ (call (Value.ref _) _ _) _ _ _)); walk1) | (dsimp only; ((fail_if_success (with_reducible show wpAny _ _ (call (Value.ref _) _ _) _ _ _)); walk1)))
    obtain ⟨f, hf, e⟩ := fmod_nat ((((z1 * 39373 + 7).fmod 2147483647 * (z1 * 39373 + 7).fmod 2147483647).fmod 2147483629).fdiv 32) hk
    rw [e]
    exact ret _ _ _ _ (by k_asm) (by k_asm) (by exact Apart.keys (by rfl) Ap1) ⟨f, _, _, _, _, _, hf, rfl, h0, h1, rfl⟩
set_option maxRecDepth 100000 in
set_option maxHeartbeats 8000000 in
theorem c_one {src lt : Addr} {z0 z1 : Int} {ta tb : Tok} {nv nl : Nat} {vs : List Value} (hk : 0 < vs.length) (hk2 : vs.length < 100) (hz1 : 0 ≤ z1) (hz2 : z1 < 2147483647) :
    Con w 320 890 8900 [.ref src, .ref lt] (fun n => n.Perm ((src, listOf [.int z0 ta, .int z1 tb].toArray nv) :: rest) ∧ (lt, listOf vs.toArray nl) ∈ rest)
      (fun _ v n' => ∃ (f : Nat) (a' b' : Int) (ta' tb' : Tok), vs[f]? = some v ∧ 0 ≤ b' ∧ b' < 2147483647 ∧ n' = (src, listOf [.int a' ta', .int b' tb'].toArray nv) :: rest) := by
  refine Con.of fun tpv lov mean mg mb gd cn cs a ccd cl outer A₀ base h₀ L m news s Q E hkk B F X N Ap T P ret => ?_
  obtain ⟨P, hlt⟩ := P
  have hm : (lt, listOf vs.toArray nl) ∈ news := P.mem_iff.mpr (.tail _ hlt)
  have hl6 : vs.length < 1000000 := by omega
  refine wpAny_call ?_
  k_dflt ktr_enter
  repeat' (first | (k_unfold; (try dsimp only)) | ((fail_if_success (with_reducible show wpAny _ _ (call (Value.ref _) _ _) _ _ _)); walk1) | (dsimp only; ((fail_if_success (with_reducible show wpAny _ _ (call (Value.ref _) _ _) _ _ _)); walk1)))
  (refine' Con.use (c_take (rest := rest) (k := vs.length) (z0 := z0) (ta := ta) (tb := tb) (nv := nv) hk hk2 hz1 hz2) ?uhh36 ?uhf36 ?uhdp36 ?uhu36 ?uhk36 ?uB36 ?uF36 ?uX36 ?uN36 ?uT36 ?uAp36 ?uP36 ?_; (case uhh36 => exact rfl); (case uhf36 => exact rfl); (case uhdp36 => exact Nat.le_of_ble_eq_true rfl); (case uhu36 => exact Nat.le_of_ble_eq_true rfl); (case uhk36 => first | assumption | exact rfl); (case uB36 => k_asm); (case uF36 => k_asm); (case uX36 => k_asm); (case uN36 => k_asm); (case uT36 => k_asm); (case uAp36 => first | assumption | (repeat' (first | assumption | refine Apart.cons (by first | assumption | exact tb_ltOf (by assumption)) ?_))))
  · exact P
  rintro v n2 h2' tk2 F2 N2 Ap2 ⟨f, tq, a', b', ta', tb', hf, rfl, hb1, hb2, rfl⟩
  have hm2 : (lt, listOf vs.toArray nl) ∈ (src, listOf [.int a' ta', .int b' tb'].toArray nv) :: rest := .tail _ hlt
  obtain ⟨v, hv⟩ : ∃ v, vs[f]? = some v := ⟨vs[f], by simp [hf]⟩
  repeat' (first | (k_unfold; (try dsimp only)) | ((fail_if_success (with_reducible show wpAny _ _ (call (Value.ref _) _ _) _ _ _)); walk1) | (dsimp only; ((fail_if_success (with_reducible show wpAny _ _ (call (Value.ref _) _ _) _ _ _)); walk1)))
  exact ret _ _ _ _ (by k_asm) (by k_asm) Ap2 ⟨f, _, _, _, _, hv, hb1, hb2, rfl⟩
end
/-! Rows -/
section
open PySem PySem.W PyProof.Rows
/-- one entry of the law's dict: the pair and its path -/
structure EntD where
  e : Addr
  p : Addr
  kt : Tok
  kind : Str
  en : Nat
  path : List Value
  pn : Nat
def EntD.led (x : EntD) : Led := [(x.e, listOf [.str x.kind x.kt, .ref x.p].toArray x.en), (x.p, listOf x.path.toArray x.pn)]
def kvsFrom : Nat → List EntD → List (Int × Value)
  | _, [] => []
  | k, x :: r => ((k : Int), .ref x.e) :: kvsFrom (k + 1) r
theorem kvsFrom_length : ∀ {k : Nat} {l : List EntD}, (kvsFrom k l).length = l.length
  | _, [] => rfl
  | k, _ :: r => by simp [kvsFrom, kvsFrom_length (k := k + 1) (l := r)]
theorem kvsFrom_get : ∀ {k : Nat} {l : List EntD} {i : Nat} {x : EntD}, l[i]? = some x → (kvsFrom k l)[i]? = some (((k + i : Nat) : Int), .ref x.e)
  | _, [], _, _, h => by simp at h
  | k, y :: r, 0, x, h => by
    simp at h; subst h; rfl
  | k, y :: r, i + 1, x, h => by
    have h' : r[i]? = some x := by simpa using h
    have := kvsFrom_get (k := k + 1) h'
    rw [show k + 1 + i = k + (i + 1) by omega] at this
    simpa [kvsFrom] using this
theorem kvsFrom_append : ∀ {k : Nat} {l : List EntD} {x : EntD}, kvsFrom k (l ++ [x]) = kvsFrom k l ++ [(((k + l.length : Nat) : Int), .ref x.e)]
  | _, [], _ => rfl
  | k, y :: r, x => by
    simp only [kvsFrom, List.cons_append, List.length_cons, kvsFrom_append (k := k + 1) (l := r)]
    rw [show k + 1 + r.length = k + (r.length + 1) by omega]
theorem kvsFrom_key_ge : ∀ {k : Nat} {l : List EntD} {p : Int × Value}, p ∈ kvsFrom k l → (k : Int) ≤ p.1 ∧ p.1 < (k + l.length : Nat)
  | _, [], _, h => by cases h
  | k, y :: r, p, h => by
    rcases List.mem_cons.mp h with rfl | h
    · simp only [List.length_cons]; omega
    · have := kvsFrom_key_ge h
      simp only [List.length_cons]; omega
theorem kvsFrom_nodup : ∀ {k : Nat} {l : List EntD}, ((kvsFrom k l).map (·.1)).Nodup
  | _, [] => .nil
  | k, y :: r => by
    refine List.nodup_cons.mpr ⟨fun hm => ?_, kvsFrom_nodup (k := k + 1) (l := r)⟩
    obtain ⟨p, hp, e⟩ := List.mem_map.mp hm
    have := kvsFrom_key_ge hp
    have e' : p.1 = (k : Int) := e
    omega
/-- the law's dict -/
structure RowsD where
  rd : Addr
  od : Obj
  es : List EntD
def RowsD.ents (R : RowsD) : Led := R.es.flatMap EntD.led
def RowsD.led (R : RowsD) : Led := (R.rd, R.od) :: R.ents
def RowsD.kvs (R : RowsD) : List (Int × Value) := kvsFrom 0 R.es
theorem RowsD.at {R : RowsD} {i : Nat} {x : EntD} (h : R.es[i]? = some x) : valueAt R.kvs (i : Int) = some (.ref x.e) := by
  have h1 := kvsFrom_get (k := 0) h
  rw [Nat.zero_add] at h1
  exact valueAt_of_get kvsFrom_nodup h1
theorem RowsD.mem_d (R : RowsD) : (R.rd, R.od) ∈ R.led := .head _
theorem RowsD.mem_ent {R : RowsD} {i : Nat} {x : EntD} (h : R.es[i]? = some x) {p : Addr × Obj} (hp : p ∈ x.led) : p ∈ R.led :=
  .tail _ (List.mem_flatMap.mpr ⟨x, List.mem_of_getElem? h, hp⟩)
theorem RowsD.mem_e {R : RowsD} {i : Nat} {x : EntD} (h : R.es[i]? = some x) : (x.e, listOf [.str x.kind x.kt, .ref x.p].toArray x.en) ∈ R.led := RowsD.mem_ent h (.head _)
theorem RowsD.mem_p {R : RowsD} {i : Nat} {x : EntD} (h : R.es[i]? = some x) : (x.p, listOf x.path.toArray x.pn) ∈ R.led := RowsD.mem_ent h (.tail _ (.head _))
end
local macro_rules | `(tactic| walk_at "subscriptTail") => `(tactic| (k_here; (with_reducible show wpAny _ _ (subscriptTail _ _ (Value.ref _) (Value.int _ _)) _ _ _); k_dflt (refine' kda_item (knd := PySem.intKind _ _) ?N ?m ?d (intKind_is _ _ _ _) ?l ?_; (case N => k_asm); (case m => k_mem); (case d => assumption); (case l => assumption); k_whole)))
local macro_rules | `(tactic| walk_at "getItem ref int") => `(tactic| (k_here; k_dflt (refine' kdt_getItem (knd := PySem.intKind _ _) ?N ?m ?d (intKind_is _ _ _ _) ?l ?_; (case N => k_asm); (case m => k_mem); (case d => assumption); (case l => assumption); k_whole)))
/-! C9 -/
section
variable {w : World} {R : RowsD} {i : Nat} {x : EntD} {t : Tok} {rest : Led}
def childStr (k : Str) : Bool := (["element", "text", "comment", "instruction"] : List Str).any (· == k)
set_option maxRecDepth 100000 in
set_option maxHeartbeats 8000000 in
theorem c_is_child (hd0 : R.od.IsDictOf (intKind PySem.Challenge.rw_xm0664_01.row.prog w) R.kvs) (hx : R.es[i]? = some x) :
    Con w 339 900 9000 [.ref R.rd, .int i t] (fun n => ∀ p ∈ R.led, p ∈ n) (fun n v n' => n' = n ∧ v = .bool (childStr x.kind)) := by
  refine Con.of fun tpv lov mean mg mb gd cn cs a ccd cl outer A₀ base h₀ L m news s Q E hkk B F X N Ap T P ret => ?_
  have h1 := P _ R.mem_d
  have h2 := P _ (RowsD.mem_e hx)
  have h3 := RowsD.at hx
  refine wpAny_call ?_
  k_dflt ktr_enter
  repeat' (first | (k_unfold; (try dsimp only)) | ((fail_if_success (with_reducible show wpAny _ _ (call (Value.ref _) _ _) _ _ _)); walk1) | (dsimp only; ((fail_if_success (with_reducible show wpAny _ _ (call (Value.ref _) _ _) _ _ _)); walk1)))
  exact ret _ _ _ _ (by k_asm) (News_sub (fun _ hq => List.Mem.tail _ hq) (by k_asm)) (by assumption) ⟨rfl, rfl⟩
end
/-! Abs -/
section
open PySem PySem.W PyProof.Rows
/-- the kinds of nodes -/
inductive Kd where
  | root | element | text | comment | instruction | attribute | nspace
  deriving DecidableEq
def Kd.str : Kd → Str
  | .root => "root"
  | .element => "element"
  | .text => "text"
  | .comment => "comment"
  | .instruction => "instruction"
  | .attribute => "attribute"
  | .nspace => "namespace"
def Kd.child : Kd → Bool
  | .element | .text | .comment | .instruction => true
  | _ => false
def Kd.beside : Kd → Bool
  | .attribute | .nspace => true
  | _ => false
def Kd.inner : Kd → Bool
  | .root | .element => true
  | _ => false
structure Nd where
  kind : Kd
  par : Option Nat
/-- the places of the nodes of a sort, in order -/
def sel (f : Nd → Bool) : Nat → List Nd → List Int
  | _, [] => []
  | k, nd :: r => if f nd then (k : Int) :: sel f (k + 1) r else sel f (k + 1) r
theorem sel_append (f : Nd → Bool) : ∀ (k : Nat) (T : List Nd) (nd : Nd), sel f k (T ++ [nd]) = sel f k T ++ (if f nd then [((k + T.length : Nat) : Int)] else [])
  | k, [], nd => by simp [sel]
  | k, x :: r, nd => by
    have ih := sel_append f (k + 1) r nd
    rw [show k + 1 + r.length = k + (x :: r).length by simp only [List.length_cons]; omega] at ih
    simp only [List.cons_append, sel]
    split
    · rw [ih, List.cons_append]
    · exact ih
theorem sel_ge (f : Nd → Bool) : ∀ (k : Nat) (T : List Nd) (x : Int), x ∈ sel f k T → (k : Int) ≤ x ∧ x < (k + T.length : Nat)
  | k, [], x, h => by cases h
  | k, y :: r, x, h => by
    simp only [List.length_cons]
    unfold sel at h
    split at h
    · rcases List.mem_cons.mp h with rfl | h
      · omega
      · have := sel_ge f (k + 1) r x h; omega
    · have := sel_ge f (k + 1) r x h; omega
theorem sel_length (f : Nd → Bool) : ∀ (k : Nat) (T : List Nd), (sel f k T).length ≤ T.length
  | k, [] => Nat.le_refl _
  | k, y :: r => by
    have := sel_length f (k + 1) r
    unfold sel
    split <;> simp only [List.length_cons] <;> omega
theorem sel_mem (f : Nd → Bool) : ∀ (k : Nat) (T : List Nd) (i : Nat), ((k + i : Nat) : Int) ∈ sel f k T ↔ ∃ nd, T[i]? = some nd ∧ f nd = true
  | k, [], i => by simp [sel]
  | k, y :: r, 0 => by
    simp only [List.getElem?_cons_zero, Option.some.injEq, Nat.add_zero]
    constructor
    · intro h
      unfold sel at h
      split at h
      · exact ⟨y, rfl, by assumption⟩
      · have := sel_ge f (k + 1) r _ h; omega
    · rintro ⟨_, rfl, h⟩
      unfold sel
      rw [if_pos h]; exact .head _
  | k, y :: r, i + 1 => by
    have ih := sel_mem f (k + 1) r i
    rw [show k + 1 + i = k + (i + 1) by omega] at ih
    simp only [List.getElem?_cons_succ]
    rw [← ih]
    constructor
    · intro h
      unfold sel at h
      split at h
      · rcases List.mem_cons.mp h with e | h
        · omega
        · exact h
      · exact h
    · intro h
      unfold sel
      split
      · exact .tail _ h
      · exact h
theorem sel_mem0 (f : Nd → Bool) (T : List Nd) (i : Nat) : (i : Int) ∈ sel f 0 T ↔ ∃ nd, T[i]? = some nd ∧ f nd = true := by
  have := sel_mem f 0 T i
  rwa [Nat.zero_add] at this
theorem sel_mem1 {f : Nd → Bool} {T : List Nd} {x : Int} (h : x ∈ sel f 0 T) : ∃ (i : Nat) (nd : Nd), x = (i : Int) ∧ T[i]? = some nd ∧ f nd = true := by
  have h1 := sel_ge f 0 T x h
  have e : x = ((x.toNat : Nat) : Int) := by omega
  rw [e] at h
  obtain ⟨nd, h2, h3⟩ := (sel_mem0 f T _).mp h
  exact ⟨x.toNat, nd, e, h2, h3⟩
theorem sel_congr {f g : Nd → Bool} : ∀ (k : Nat) (T : List Nd), (∀ nd ∈ T, f nd = g nd) → sel f k T = sel g k T
  | _, [], _ => rfl
  | k, y :: r, h => by
    unfold sel
    rw [h y (.head _), sel_congr (k + 1) r fun nd hn => h nd (.tail _ hn)]
/-- a node that is struck out -/
theorem sel_set (f : Nd → Bool) : ∀ (k : Nat) (T : List Nd) (g : Nat) (nd nd' : Nd), T[g]? = some nd → f nd' = false →
    sel f k (T.set g nd') = if f nd then (sel f k T).eraseIdx ((sel f k T).idxOf ((k + g : Nat) : Int)) else sel f k T
  | k, [], _, _, _, h, _ => by simp at h
  | k, y :: r, 0, nd, nd', h, hf => by
    simp only [List.getElem?_cons_zero, Option.some.injEq] at h
    subst h
    simp only [List.set_cons_zero, sel, hf, Bool.false_eq_true, if_false, Nat.add_zero]
    split
    · simp
    · rfl
  | k, y :: r, g + 1, nd, nd', h, hf => by
    have h' : r[g]? = some nd := by simpa using h
    have ih := sel_set f (k + 1) r g nd nd' h' hf
    rw [show k + 1 + g = k + (g + 1) by omega] at ih
    simp only [List.set_cons_succ, sel]
    split
    · rw [ih]
      split
      · have hne : ((k : Nat) : Int) ≠ ((k + (g + 1) : Nat) : Int) := by omega
        have : ((k : Int) :: sel f (k + 1) r).idxOf ((k + (g + 1) : Nat) : Int) = (sel f (k + 1) r).idxOf ((k + (g + 1) : Nat) : Int) + 1 := by
          rw [List.idxOf_cons, beq_false_of_ne hne]; rfl
        rw [this, List.eraseIdx_cons_succ]
      · rfl
    · exact ih
def kids (T : List Nd) (p : Nat) : List Int := sel (fun nd => nd.par == some p && nd.kind.child) 0 T
def atts (T : List Nd) (p : Nat) : List Int := sel (fun nd => nd.par == some p && nd.kind == .attribute) 0 T
def nsps (T : List Nd) (p : Nat) : List Int := sel (fun nd => nd.par == some p && nd.kind == .nspace) 0 T
def kname (k : Nat) : Str := Str.ofString "k" ++ Str.ofString (toString (k : Int))
def pname (k : Nat) : Str := Str.ofString "p" ++ Str.ofString (toString (k : Int))
def ParIs : Option Nat → Value → Prop
  | none, v => v = .none
  | some p, v => ∃ t, v = .int (p : Nat) t
/-- what the row i of the tree holds -/
structure RowIs (T : List Nd) (i : Nat) (nd : Nd) (r : RowD) : Prop where
  kind : r.kind = nd.kind.str
  par : ParIs nd.par r.par
  ch : IntsAre r.ch (kids T i)
  at_ : IntsAre r.at_ (atts T i)
  ns : IntsAre r.ns (nsps T i)
  attr : nd.kind = .attribute → 2 ≤ i ∧ r.uri = "" ∧ r.loc = kname (i - 2)
  nsp : nd.kind = .nspace → 2 ≤ i ∧ r.name = pname (i - 2)
/-- the tree's objects tell the nodes -/
structure RepD (T : List Nd) (D : TreeD) : Prop where
  len : D.rows.length = T.length
  row : ∀ i nd r, T[i]? = some nd → D.rows[i]? = some r → RowIs T i nd r
/-- the nodes are a forest: who stands where -/
structure WF (T : List Nd) : Prop where
  up : ∀ (i : Nat) (nd : Nd) (p : Nat), T[i]? = some nd → nd.par = some p → p < i
  inner : ∀ (i : Nat) (nd : Nd) (p : Nat), T[i]? = some nd → nd.par = some p → ∃ q : Nd, T[p]? = some q ∧ q.kind.inner = true
theorem sel_nil {f : Nd → Bool} : ∀ (k : Nat) (T : List Nd), (∀ nd ∈ T, f nd = false) → sel f k T = []
  | _, [], _ => rfl
  | k, y :: r, h => by
    unfold sel
    rw [h y (.head _)]
    simp only [Bool.false_eq_true, if_false]
    exact sel_nil (k + 1) r fun nd hn => h nd (.tail _ hn)
theorem WF.no_par {T : List Nd} (W : WF T) {n : Nat} (hn : T.length ≤ n) : ∀ nd ∈ T, nd.par ≠ some n := fun nd hm e => by
  obtain ⟨i, hi⟩ := List.getElem?_of_mem hm
  have := W.up i nd n hi e
  have := getElem?_lt hi
  omega
theorem kids_append (T : List Nd) (nd : Nd) (i : Nat) : kids (T ++ [nd]) i = kids T i ++ (if (nd.par == some i && nd.kind.child) = true then [(T.length : Int)] else []) := by
  unfold kids; rw [sel_append, Nat.zero_add]
theorem atts_append (T : List Nd) (nd : Nd) (i : Nat) : atts (T ++ [nd]) i = atts T i ++ (if (nd.par == some i && nd.kind == .attribute) = true then [(T.length : Int)] else []) := by
  unfold atts; rw [sel_append, Nat.zero_add]
theorem nsps_append (T : List Nd) (nd : Nd) (i : Nat) : nsps (T ++ [nd]) i = nsps T i ++ (if (nd.par == some i && nd.kind == .nspace) = true then [(T.length : Int)] else []) := by
  unfold nsps; rw [sel_append, Nat.zero_add]
theorem kids_new {T : List Nd} (W : WF T) {n : Nat} (hn : T.length ≤ n) : kids T n = [] := sel_nil 0 T fun nd hm => by
  have := W.no_par hn nd hm
  simp [beq_false_of_ne this]
theorem atts_new {T : List Nd} (W : WF T) {n : Nat} (hn : T.length ≤ n) : atts T n = [] := sel_nil 0 T fun nd hm => by
  have := W.no_par hn nd hm
  simp [beq_false_of_ne this]
theorem nsps_new {T : List Nd} (W : WF T) {n : Nat} (hn : T.length ≤ n) : nsps T n = [] := sel_nil 0 T fun nd hm => by
  have := W.no_par hn nd hm
  simp [beq_false_of_ne this]
theorem RowIs.old {T : List Nd} {nd ndi : Nd} {i : Nat} {r : RowD} (h : RowIs T i ndi r) (hne : nd.par ≠ some i) : RowIs (T ++ [nd]) i ndi r := by
  have e := beq_false_of_ne hne
  exact ⟨h.kind, h.par, by rw [kids_append, e]; simpa using h.ch, by rw [atts_append, e]; simpa using h.at_, by rw [nsps_append, e]; simpa using h.ns, h.attr, h.nsp⟩
theorem WF.snoc {T : List Nd} (W : WF T) {nd : Nd} (h : ∀ p, nd.par = some p → ∃ q : Nd, T[p]? = some q ∧ q.kind.inner = true) : WF (T ++ [nd]) := by
  have old : ∀ {i : Nat} {x : Nd}, T[i]? = some x → (T ++ [nd])[i]? = some x := fun {i x} hx => by rw [List.getElem?_append_left (getElem?_lt hx)]; exact hx
  have cases_ : ∀ {i : Nat} {x : Nd}, (T ++ [nd])[i]? = some x → T[i]? = some x ∨ (i = T.length ∧ x = nd) := fun {i x} hx => by
    rcases Nat.lt_or_ge i T.length with h1 | h1
    · rw [List.getElem?_append_left h1] at hx; exact .inl hx
    · rw [List.getElem?_append_right h1] at hx
      have h2 := getElem?_lt hx
      simp only [List.length_singleton] at h2
      have h3 : i - T.length = 0 := by omega
      rw [h3] at hx
      simp only [List.getElem?_cons_zero, Option.some.injEq] at hx
      exact .inr ⟨by omega, hx.symm⟩
  refine ⟨fun i x p hx hp => ?_, fun i x p hx hp => ?_⟩
  · rcases cases_ hx with hx | ⟨rfl, rfl⟩
    · exact W.up i x p hx hp
    · obtain ⟨q, hq, _⟩ := h p hp
      exact getElem?_lt hq
  · rcases cases_ hx with hx | ⟨rfl, rfl⟩
    · obtain ⟨q, hq, hk⟩ := W.inner i x p hx hp
      exact ⟨q, old hq, hk⟩
    · obtain ⟨q, hq, hk⟩ := h p hp
      exact ⟨q, old hq, hk⟩
theorem snoc_cases {α : Type} {T : List α} {nd : α} {i : Nat} {x : α} (hx : (T ++ [nd])[i]? = some x) : T[i]? = some x ∨ (i = T.length ∧ x = nd) := by
  rcases Nat.lt_or_ge i T.length with h1 | h1
  · rw [List.getElem?_append_left h1] at hx; exact .inl hx
  · rw [List.getElem?_append_right h1] at hx
    have h2 := getElem?_lt hx
    simp only [List.length_singleton] at h2
    have h3 : i - T.length = 0 := by omega
    rw [h3] at hx
    simp only [List.getElem?_cons_zero, Option.some.injEq] at hx
    exact .inr ⟨by omega, hx.symm⟩
theorem snoc_old {α : Type} {T : List α} {nd : α} {i : Nat} {x : α} (hx : T[i]? = some x) : (T ++ [nd])[i]? = some x := by
  rw [List.getElem?_append_left (getElem?_lt hx)]; exact hx
theorem snoc_new {α : Type} {T : List α} {nd : α} : (T ++ [nd])[T.length]? = some nd := by simp
/-- a new row that nothing points to -/
theorem RepD.add0 {T : List Nd} {D : TreeD} {nd : Nd} {r : RowD} (h : RepD T D) (hp : nd.par = none) (hr : RowIs (T ++ [nd]) T.length nd r) : RepD (T ++ [nd]) (D.add r) := by
  refine ⟨by show (D.rows ++ [r]).length = _; simp [h.len], fun i ndi ri hi hri => ?_⟩
  rcases snoc_cases hi with hi | ⟨rfl, rfl⟩
  · have hri' : D.rows[i]? = some ri := by
      have hl : i < D.rows.length := by rw [h.len]; exact getElem?_lt hi
      have : (D.rows ++ [r])[i]? = some ri := hri
      rwa [List.getElem?_append_left hl] at this
    exact (h.row i ndi ri hi hri').old (by rw [hp]; simp)
  · have : (D.rows ++ [r])[T.length]? = some ri := hri
    rw [← h.len, snoc_new] at this
    cases this
    exact hr
/-- a new row that its parent points to -/
theorem RepD.add1 {T : List Nd} {D : TreeD} {nd ndp : Nd} {r rp' : RowD} {p : Nat} (h : RepD T D) (hp : nd.par = some p) (hpT : T[p]? = some ndp) (hr : RowIs (T ++ [nd]) T.length nd r) (hrp : RowIs (T ++ [nd]) p ndp rp') : RepD (T ++ [nd]) ((D.add r).set p rp') := by
  have hpl := getElem?_lt hpT
  refine ⟨by show ((D.rows ++ [r]).set p rp').length = _; simp [h.len], fun i ndi ri hi hri => ?_⟩
  have hri2 : ((D.rows ++ [r]).set p rp')[i]? = some ri := hri
  by_cases hip : i = p
  · subst hip
    rw [List.getElem?_set_self (by rw [List.length_append, h.len]; omega)] at hri2
    cases hri2
    rcases snoc_cases hi with hi | ⟨e, _⟩
    · rw [hpT] at hi; cases hi; exact hrp
    · omega
  · rw [List.getElem?_set_ne (Ne.symm hip)] at hri2
    rcases snoc_cases hi with hi | ⟨rfl, rfl⟩
    · have hl : i < D.rows.length := by rw [h.len]; exact getElem?_lt hi
      rw [List.getElem?_append_left hl] at hri2
      exact (h.row i ndi ri hi hri2).old (by rw [hp]; simp; exact Ne.symm hip)
    · rw [← h.len, snoc_new] at hri2
      cases hri2
      exact hr
end
/-! Abs2 -/
section
open PySem PySem.W PyProof.Rows
theorem new_is {T : List Nd} {nd : Nd} {r : RowD} {name uri loc value : Str} {pv : Value} (W : WF T) (hs : ∀ p, nd.par = some p → p < T.length) (h : NewRow r nd.kind.str name uri loc value pv) (hp : ParIs nd.par pv)
    (ha : nd.kind = .attribute → 2 ≤ T.length ∧ uri = "" ∧ loc = kname (T.length - 2)) (hn : nd.kind = .nspace → 2 ≤ T.length ∧ name = pname (T.length - 2)) : RowIs (T ++ [nd]) T.length nd r := by
  obtain ⟨h1, h2, h3, h4, h5, h6, h7, h8, h9⟩ := h
  have hne : nd.par ≠ some T.length := fun e => Nat.lt_irrefl _ (hs _ e)
  have e := beq_false_of_ne hne
  refine ⟨h1, h6 ▸ hp, ?_, ?_, ?_, fun hk => ?_, fun hk => ?_⟩
  · rw [h7, kids_append, e, kids_new W (Nat.le_refl _)]; exact .nil
  · rw [h8, atts_append, e, atts_new W (Nat.le_refl _)]; exact .nil
  · rw [h9, nsps_append, e, nsps_new W (Nat.le_refl _)]; exact .nil
  · obtain ⟨a, b, c⟩ := ha hk
    exact ⟨a, h3 ▸ b, h4 ▸ c⟩
  · obtain ⟨a, b⟩ := hn hk
    exact ⟨a, h2 ▸ b⟩
theorem one_int (n : Nat) (tk : Tok) : IntsAre [Value.int (n : Nat) tk] [(n : Int)] := .cons _ _ .nil
theorem par_child {T : List Nd} {nd ndp : Nd} {p : Nat} {rp : RowD} {tk : Tok} {c : Nat} (h : RowIs T p ndp rp) (hp : nd.par = some p) (hk : nd.kind.child = true) :
    RowIs (T ++ [nd]) p ndp { rp with ch := rp.ch ++ [.int (T.length : Nat) tk], cn := c } := by
  refine ⟨h.kind, h.par, ?_, ?_, ?_, h.attr, h.nsp⟩
  · rw [kids_append, hp, hk]
    simpa using h.ch.append (one_int T.length tk)
  · rw [atts_append]
    have : (nd.kind == Kd.attribute) = false := by cases hq : nd.kind <;> simp_all [Kd.child] <;> rfl
    rw [this]; simpa using h.at_
  · rw [nsps_append]
    have : (nd.kind == Kd.nspace) = false := by cases hq : nd.kind <;> simp_all [Kd.child] <;> rfl
    rw [this]; simpa using h.ns
theorem par_att {T : List Nd} {nd ndp : Nd} {p : Nat} {rp : RowD} {tk : Tok} {c : Nat} (h : RowIs T p ndp rp) (hp : nd.par = some p) (hk : nd.kind = .attribute) :
    RowIs (T ++ [nd]) p ndp { rp with at_ := rp.at_ ++ [.int (T.length : Nat) tk], an := c } := by
  refine ⟨h.kind, h.par, ?_, ?_, ?_, h.attr, h.nsp⟩
  · rw [kids_append, hk]; simpa [Kd.child] using h.ch
  · rw [atts_append, hp, hk]
    simpa using h.at_.append (one_int T.length tk)
  · rw [nsps_append, hk]; simpa using h.ns
theorem par_ns {T : List Nd} {nd ndp : Nd} {p : Nat} {rp : RowD} {tk : Tok} {c : Nat} (h : RowIs T p ndp rp) (hp : nd.par = some p) (hk : nd.kind = .nspace) :
    RowIs (T ++ [nd]) p ndp { rp with ns := rp.ns ++ [.int (T.length : Nat) tk], nn := c } := by
  refine ⟨h.kind, h.par, ?_, ?_, ?_, h.attr, h.nsp⟩
  · rw [kids_append, hk]; simpa [Kd.child] using h.ch
  · rw [atts_append, hk]; simpa using h.at_
  · rw [nsps_append, hp, hk]
    simpa using h.ns.append (one_int T.length tk)
theorem RepD.get {T : List Nd} {D : TreeD} (h : RepD T D) {i : Nat} {nd : Nd} (hi : T[i]? = some nd) : ∃ r, D.rows[i]? = some r ∧ RowIs T i nd r := by
  have hl : i < D.rows.length := by rw [h.len]; exact getElem?_lt hi
  exact ⟨D.rows[i], by simp [hl], h.row i nd _ hi (by simp [hl])⟩
theorem kids_len {T : List Nd} {p : Nat} {r : RowD} {nd : Nd} (h : RowIs T p nd r) : r.ch.length ≤ T.length ∧ r.at_.length ≤ T.length ∧ r.ns.length ≤ T.length :=
  ⟨h.ch.length ▸ sel_length _ _ _, h.at_.length ▸ sel_length _ _ _, h.ns.length ▸ sel_length _ _ _⟩
theorem inner_parent {k : Kd} (h : k.inner = true) : parentStr k.str = true := by
  cases k <;> first | (cases h; done) | decide
end
/-! Grown -/
section
open PySem PySem.W PyProof.Rows
def inners (T : List Nd) : List Int := sel (fun nd => nd.kind.inner) 0 T
theorem inners_append (T : List Nd) (nd : Nd) : inners (T ++ [nd]) = inners T ++ (if nd.kind.inner = true then [(T.length : Int)] else []) := by
  unfold inners; rw [sel_append, Nat.zero_add]
structure RepR (T : List Nd) (P : List (List Int)) (R : RowsD) : Prop where
  len : R.es.length = T.length
  ent : ∀ (i : Nat) (nd : Nd) (x : EntD) (pth : List Int), T[i]? = some nd → R.es[i]? = some x → P[i]? = some pth → x.kind = nd.kind.str ∧ IntsAre x.path pth
structure PathsOk (T : List Nd) (P : List (List Int)) : Prop where
  len : P.length = T.length
  at_ : ∀ (i : Nat) (nd : Nd), T[i]? = some nd → P[i]? = some (match nd.par with | none => [(i : Int)] | some p => P.getD p [] ++ [(i : Int)])
/-- all that the tree's and the dict's objects tell -/
structure GW (w : World) (tr rd : Addr) (T : List Nd) (D : TreeD) (R : RowsD) (P : List (List Int)) : Prop where
  wf : WF T
  repD : RepD T D
  repR : RepR T P R
  paths : PathsOk T P
  dict : R.od.IsDictOf (intKind PySem.Challenge.rw_xm0664_01.row.prog w) R.kvs
  htr : D.tr = tr
  hrd : R.rd = rd
  root : T[0]? = some ⟨.root, none⟩
  first : T[1]? = some ⟨.element, some 0⟩
  only : ∀ (i : Nat) (nd : Nd), T[i]? = some nd → nd.kind = .root → i = 0
theorem RepR.get {T : List Nd} {P : List (List Int)} {R : RowsD} (h : RepR T P R) (hP : P.length = T.length) {i : Nat} {nd : Nd} (hi : T[i]? = some nd) :
    ∃ x pth, R.es[i]? = some x ∧ P[i]? = some pth ∧ x.kind = nd.kind.str ∧ IntsAre x.path pth := by
  have hl := getElem?_lt hi
  have h1 : i < R.es.length := by rw [h.len]; exact hl
  have h2 : i < P.length := by rw [hP]; exact hl
  obtain ⟨a, b⟩ := h.ent i nd R.es[i] P[i] hi (by simp [h1]) (by simp [h2])
  exact ⟨_, _, by simp [h1], by simp [h2], a, b⟩
theorem kvs_absent (R : RowsD) : valueAt R.kvs (R.es.length : Int) = none := by
  refine valueAt_none_of_not_mem fun hm => ?_
  obtain ⟨p, hp, e⟩ := List.mem_map.mp hm
  have := kvsFrom_key_ge hp
  have e' : p.1 = (R.es.length : Int) := e
  omega
theorem kvs_snoc (R : RowsD) (o' : Obj) (x : EntD) : ({ R with od := o', es := R.es ++ [x] } : RowsD).kvs = stored R.kvs (R.es.length : Int) (.ref x.e) := by
  rw [stored_absent (kvs_absent R)]
  show kvsFrom 0 (R.es ++ [x]) = kvsFrom 0 R.es ++ _
  rw [kvsFrom_append, Nat.zero_add]
theorem RepR.snoc {T : List Nd} {P : List (List Int)} {R : RowsD} {nd : Nd} {x : EntD} {pth : List Int} {o' : Obj} (h : RepR T P R) (hP : P.length = T.length) (hk : x.kind = nd.kind.str) (hp : IntsAre x.path pth) :
    RepR (T ++ [nd]) (P ++ [pth]) { R with od := o', es := R.es ++ [x] } := by
  refine ⟨by show (R.es ++ [x]).length = _; simp [h.len], fun i ndi y q hi hy hq => ?_⟩
  have hy' : (R.es ++ [x])[i]? = some y := hy
  rcases snoc_cases hi with hi | ⟨rfl, rfl⟩
  · have hl := getElem?_lt hi
    rw [List.getElem?_append_left (by rw [h.len]; exact hl)] at hy'
    rw [List.getElem?_append_left (by rw [hP]; exact hl)] at hq
    exact h.ent i ndi y q hi hy' hq
  · rw [← h.len, snoc_new] at hy'
    rw [← hP, snoc_new] at hq
    cases hy'; cases hq
    exact ⟨hk, hp⟩
theorem getD_snoc {α : Type} {P : List α} {x d : α} {p : Nat} (h : p < P.length) : (P ++ [x]).getD p d = P.getD p d := by
  simp [List.getD_eq_getElem?_getD, List.getElem?_append_left h]
theorem PathsOk.snoc {T : List Nd} {P : List (List Int)} {nd : Nd} {pth : List Int} (h : PathsOk T P) (W : WF T) (hs : ∀ p, nd.par = some p → p < T.length)
    (hp : pth = match nd.par with | none => [(T.length : Int)] | some p => P.getD p [] ++ [(T.length : Int)]) : PathsOk (T ++ [nd]) (P ++ [pth]) := by
  refine ⟨by simp [h.len], fun i ndi hi => ?_⟩
  rcases snoc_cases hi with hi | ⟨rfl, rfl⟩
  · have hl := getElem?_lt hi
    rw [List.getElem?_append_left (by rw [h.len]; exact hl), h.at_ i ndi hi]
    cases e : ndi.par with
    | none => rfl
    | some p =>
      have := W.up i ndi p hi e
      dsimp only
      rw [getD_snoc (by rw [h.len]; omega)]
  · rw [← h.len, snoc_new, hp, h.len]
    cases e : ndi.par with
    | none => rfl
    | some p =>
      dsimp only
      rw [getD_snoc (by rw [h.len]; exact hs p e)]
theorem GW.next {w : World} {tr rd : Addr} {T : List Nd} {D D' : TreeD} {R : RowsD} {P : List (List Int)} {nd : Nd} {x : EntD} {pth : List Int} {o' : Obj} (h : GW w tr rd T D R P)
    (hD : RepD (T ++ [nd]) D') (ht : D'.tr = tr) (hin : ∀ p, nd.par = some p → ∃ q : Nd, T[p]? = some q ∧ q.kind.inner = true) (hnr : nd.kind ≠ .root)
    (hk : x.kind = nd.kind.str) (hI : IntsAre x.path pth) (hp : pth = match nd.par with | none => [(T.length : Int)] | some p => P.getD p [] ++ [(T.length : Int)])
    (hdo : o'.IsDictOf (intKind PySem.Challenge.rw_xm0664_01.row.prog w) (stored R.kvs (R.es.length : Int) (.ref x.e))) :
    GW w tr rd (T ++ [nd]) D' { R with od := o', es := R.es ++ [x] } (P ++ [pth]) where
  wf := h.wf.snoc hin
  repD := hD
  repR := h.repR.snoc h.paths.len hk hI
  paths := h.paths.snoc h.wf (fun p e => by obtain ⟨q, hq, _⟩ := hin p e; exact getElem?_lt hq) hp
  dict := by rw [kvs_snoc]; exact hdo
  htr := ht
  hrd := h.hrd
  root := snoc_old h.root
  first := snoc_old h.first
  only := fun i ndi hi hr => by
    rcases snoc_cases hi with hi | ⟨_, rfl⟩
    · exact h.only i ndi hi hr
    · exact absurd hr hnr
theorem Apart.permK {l l' : Led} (h : (l.map (·.1)).Perm (l'.map (·.1))) (A : Apart l) : Apart l' := h.nodup_iff.mp A
theorem keys_perm {l l' : Led} (h : ∀ z : Nat, (l.map (·.1)).count z = (l'.map (·.1)).count z) : (l.map (·.1)).Perm (l'.map (·.1)) := List.perm_iff_count.mpr h
theorem perm_count {l l' : Led} (h : l.Perm l') (z : Nat) : (l.map (·.1)).count z = (l'.map (·.1)).count z := (h.map _).count_eq z
abbrev T2 : List Nd := [⟨.root, none⟩, ⟨.element, some 0⟩]
abbrev srcO (z0 z1 : Int) (ta tb : Tok) (nv : Nat) : Obj := listOf [.int z0 ta, .int z1 tb].toArray nv
theorem grown_start {w : World} {h₀ h : Heap} {L tp l0 l1 l2 l3 l4 d1 : Addr} {to o' : Obj} {k0 k1 tq0 tq1 : Tok} {D2 : TreeD} {n3 news rest : Led} {src : Addr} {so : Obj}
    (N : News h₀ L h ((tp, to) :: (l0, listOf [.int (0 : Nat) tq0, .int (1 : Nat) tq1].toArray 0) :: (l1, listOf [.str "element" k1, .ref l2].toArray 0) :: (l2, listOf [.int (0 : Nat) tq0, .int (1 : Nat) tq1].toArray 0) ::
      (l3, listOf [.str "root" k0, .ref l4].toArray 0) :: (l4, listOf [.int (0 : Nat) tq0].toArray 0) :: (d1, o') :: n3))
    (Ap : Apart ((l0, listOf [.int (0 : Nat) tq0, .int (1 : Nat) tq1].toArray 0) :: (l1, listOf [.str "element" k1, .ref l2].toArray 0) :: (l2, listOf [.int (0 : Nat) tq0, .int (1 : Nat) tq1].toArray 0) ::
      (l3, listOf [.str "root" k0, .ref l4].toArray 0) :: (l4, listOf [.int (0 : Nat) tq0].toArray 0) :: (d1, o') :: n3))
    (e3 : n3 = D2.led w ++ news) (P : news.Perm ((src, so) :: rest)) (hdo : o'.IsDictOf (intKind PySem.Challenge.rw_xm0664_01.row.prog w) (intKeyPairs [(.int (0 : Nat) tq0, .ref l3), (.int (1 : Nat) tq1, .ref l1)]))
    (W : WF T2) (R2 : RepD T2 D2) :
    ∃ (inn : Addr) (R : RowsD), inn = l0 ∧ GW w D2.tr d1 T2 D2 R [[0], [0, 1]] ∧ News h₀ L h ((src, so) :: (l0, listOf [.int (0 : Nat) tq0, .int (1 : Nat) tq1].toArray 0) :: (D2.led w ++ (R.led ++ rest))) ∧
      Apart ((src, so) :: (l0, listOf [.int (0 : Nat) tq0, .int (1 : Nat) tq1].toArray 0) :: (D2.led w ++ (R.led ++ rest))) := by
  let R : RowsD := { rd := d1, od := o', es := [⟨l3, l4, k0, "root", 0, [.int (0 : Nat) tq0], 0⟩, ⟨l1, l2, k1, "element", 0, [.int (0 : Nat) tq0, .int (1 : Nat) tq1], 0⟩] }
  have eR : R.led = [(d1, o'), (l3, listOf [.str "root" k0, .ref l4].toArray 0), (l4, listOf [.int (0 : Nat) tq0].toArray 0), (l1, listOf [.str "element" k1, .ref l2].toArray 0), (l2, listOf [.int (0 : Nat) tq0, .int (1 : Nat) tq1].toArray 0)] := rfl
  refine ⟨l0, R, rfl, ⟨W, R2, ⟨rfl, ?_⟩, ⟨rfl, ?_⟩, hdo, rfl, rfl, rfl, rfl, ?_⟩, ?_, ?_⟩
  · intro i nd x pth hi hx hp
    rcases i with _ | _ | i
    · cases hi; cases hx; cases hp
      exact ⟨rfl, .cons _ _ .nil⟩
    · cases hi; cases hx; cases hp
      exact ⟨rfl, .cons _ _ (.cons _ _ .nil)⟩
    · simp [T2] at hi
  · intro i nd hi
    rcases i with _ | _ | i
    · cases hi; rfl
    · cases hi; rfl
    · simp [T2] at hi
  · intro i nd hi hr
    rcases i with _ | _ | i
    · rfl
    · cases hi; cases hr
    · simp [T2] at hi
  · subst e3
    refine News_subN N fun q hq => ?_
    rw [eR] at hq
    simp only [List.mem_cons, List.mem_append, List.not_mem_nil, or_false] at hq ⊢
    have hm := P.mem_iff (a := q)
    simp only [List.mem_cons] at hm
    rcases hq with hq | hq | hq | (hq | hq | hq | hq | hq) | hq
    · have := hm.mpr (.inl hq); simp [this]
    · simp [hq]
    · simp [hq]
    · simp [hq]
    · simp [hq]
    · simp [hq]
    · simp [hq]
    · simp [hq]
    · have := hm.mpr (.inr hq); simp [this]
  · subst e3
    refine Ap.permK (keys_perm fun z => ?_)
    rw [eR]
    have hc := perm_count P z
    simp only [List.map_cons, List.map_append, List.count_cons, List.count_append, List.map_nil, List.count_nil] at hc ⊢
    omega
theorem path_len {T : List Nd} {P : List (List Int)} (h : PathsOk T P) (W : WF T) : ∀ (n i : Nat) (pth : List Int), i < n → P[i]? = some pth → pth.length ≤ i + 1
  | 0, _, _, h0, _ => absurd h0 (Nat.not_lt_zero _)
  | n + 1, i, pth, hi, hp => by
    have hl : i < T.length := by rw [← h.len]; exact getElem?_lt hp
    have h1 := h.at_ i T[i] (by simp [hl])
    rw [hp] at h1
    cases e : T[i].par with
    | none => rw [e] at h1; cases h1; simp
    | some p =>
      rw [e] at h1
      cases h1
      have hlt := W.up i T[i] p (by simp [hl]) e
      have hpl : p < P.length := by rw [h.len]; omega
      have h2 : P[p]? = some P[p] := by simp [hpl]
      have := path_len h W n p P[p] (by omega) h2
      dsimp only
      rw [List.getD_eq_getElem?_getD, h2, Option.getD_some, List.length_append, List.length_singleton]
      omega
theorem GW.ent {w : World} {tr rd : Addr} {T : List Nd} {D : TreeD} {R : RowsD} {P : List (List Int)} (G : GW w tr rd T D R P) {i : Nat} {nd : Nd} (hi : T[i]? = some nd) :
    ∃ x pth, R.es[i]? = some x ∧ P[i]? = some pth ∧ x.kind = nd.kind.str ∧ IntsAre x.path pth ∧ x.path.length ≤ i + 1 ∧ i < T.length := by
  obtain ⟨x, pth, h1, h2, h3, h4⟩ := G.repR.get G.paths.len hi
  exact ⟨x, pth, h1, h2, h3, h4, by rw [h4.length]; exact path_len G.paths G.wf _ i pth (Nat.lt_succ_self _) h2, getElem?_lt hi⟩
theorem GW.shape {w : World} {tr rd : Addr} {T : List Nd} {D : TreeD} {R : RowsD} {P : List (List Int)} (G : GW w tr rd T D R P) : ∃ r, T = ⟨.root, none⟩ :: ⟨.element, some 0⟩ :: r := by
  have h0 := G.root
  have h1 := G.first
  match T, h0, h1 with
  | [], h0, _ => simp at h0
  | [_], _, h1 => simp at h1
  | a :: b :: r, h0, h1 =>
    simp only [List.getElem?_cons_zero, List.getElem?_cons_succ, Option.some.injEq] at h0 h1
    exact ⟨r, by rw [h0, h1]⟩
theorem GW.inners {w : World} {tr rd : Addr} {T : List Nd} {D : TreeD} {R : RowsD} {P : List (List Int)} (G : GW w tr rd T D R P) : ∃ r, inners T = 0 :: 1 :: r := by
  obtain ⟨r, e⟩ := G.shape
  exact ⟨sel (fun nd => nd.kind.inner) 2 r, by rw [e]; rfl⟩
/-- whom a draw of inner + [None] tells -/
theorem draw_parent {T : List Nd} {ivs : List Value} {f : Nat} {v : Value} (hI : IntsAre ivs (inners T)) (h : (ivs ++ [Value.none])[f]? = some v) :
    v = .none ∨ ∃ (p : Nat) (tp : Tok) (nd : Nd), v = .int (p : Nat) tp ∧ T[p]? = some nd ∧ nd.kind.inner = true := by
  rcases snoc_cases h with h | ⟨_, rfl⟩
  · obtain ⟨x, tx, rfl, hx⟩ := hI.at f v h
    obtain ⟨p, nd, rfl, hp, hk⟩ := sel_mem1 (List.mem_of_getElem? hx)
    exact .inr ⟨p, tx, nd, rfl, hp, hk⟩
  · exact .inl rfl
/-- whom a draw of inner[1:] tells -/
theorem draw_owner {w : World} {tr rd : Addr} {T : List Nd} {D : TreeD} {R : RowsD} {P : List (List Int)} (G : GW w tr rd T D R P) {ws : List Value} {f : Nat} {v : Value} (hI : IntsAre ws ((inners T).drop 1)) (h : ws[f]? = some v) :
    ∃ (p : Nat) (tp : Tok) (nd : Nd), v = .int (p : Nat) tp ∧ T[p]? = some nd ∧ nd.kind = .element := by
  obtain ⟨x, tx, rfl, hx⟩ := hI.at f v h
  obtain ⟨r, e⟩ := G.shape
  have hd : (inners T).drop 1 = 1 :: sel (fun nd => nd.kind.inner) 2 r := by rw [e]; rfl
  have hm : x ∈ (inners T).drop 1 := List.mem_of_getElem? hx
  have hm1 : x ∈ inners T := List.mem_of_mem_drop hm
  obtain ⟨p, nd, rfl, hp, hk⟩ := sel_mem1 hm1
  refine ⟨p, tx, nd, rfl, hp, ?_⟩
  have hp0 : p ≠ 0 := by
    intro e0
    subst e0
    rw [hd] at hm
    rcases List.mem_cons.mp hm with h1 | h1
    · cases h1
    · have := sel_ge _ _ _ _ h1; omega
  cases hq : nd.kind <;> rw [hq] at hk <;> first | (cases hk; done) | rfl | exact absurd (G.only p nd hp hq) hp0
/-- the ledger while the tree grows -/
def St (w : World) (src inn tr rd : Addr) (nv : Nat) (rest : Led) (T : List Nd) (n : Led) : Prop :=
  ∃ (D : TreeD) (R : RowsD) (P : List (List Int)) (ivs : List Value) (ni : Nat) (z0 z1 : Int) (ta tb : Tok), n = (src, srcO z0 z1 ta tb nv) :: (inn, listOf ivs.toArray ni) :: (D.led w ++ (R.led ++ rest)) ∧ Apart n ∧ 0 ≤ z1 ∧ z1 < 2147483647 ∧
    GW w tr rd T D R P ∧ IntsAre ivs (inners T)
/-- .. behind i turns -/
def StN (w : World) (src inn tr rd : Addr) (nv : Nat) (rest : Led) (i : Nat) (n : Led) : Prop := ∃ T : List Nd, T.length = 2 + i ∧ St w src inn tr rd nv rest T n
theorem toC {w : World} {h₀ h : Heap} {L I src inn d1 : Addr} {o so io : Obj} {D' : TreeD} {R : RowsD} {n6 rest : Led} (junk : Led) (N : News h₀ L h n6) (A : Apart n6) (e : n6 = D'.led w ++ (junk ++ ((I, o) :: (src, so) :: (inn, io) :: (R.led ++ rest)))) (hrd : R.rd = d1) :
    News h₀ L h (junk ++ ((d1, R.od) :: (inn, io) :: (I, o) :: (src, so) :: (D'.led w ++ (R.ents ++ rest)))) ∧ Apart (junk ++ ((d1, R.od) :: (inn, io) :: (I, o) :: (src, so) :: (D'.led w ++ (R.ents ++ rest)))) := by
  subst e
  subst hrd
  have eR : R.led = (R.rd, R.od) :: R.ents := rfl
  refine ⟨News_subN N fun q hq => ?_, A.permK (keys_perm fun z => ?_)⟩
  · rw [eR]
    simp only [List.mem_cons, List.mem_append] at hq ⊢
    rcases hq with hq | hq | hq | hq | hq | hq | hq | hq <;> simp [hq]
  · rw [eR]
    simp only [List.map_cons, List.map_append, List.count_cons, List.count_append]
    omega
theorem apC_facts {d1 inn I src : Addr} {a b o so : Obj} {Y : Led} {junk : Led} (A : Apart (junk ++ ((d1, a) :: (inn, b) :: (I, o) :: (src, so) :: Y))) :
    (∀ p ∈ Y, p.1 ≠ inn) ∧ (∀ p ∈ Y, p.1 ≠ d1) ∧ @Ne Nat inn d1 ∧ @Ne Nat d1 inn ∧ @Ne Nat I inn ∧ @Ne Nat src inn ∧ @Ne Nat I d1 ∧ @Ne Nat src d1 ∧ (∀ p ∈ junk, @Ne Nat p.1 inn ∧ @Ne Nat p.1 d1) := by
  have A2 : Apart ((d1, a) :: (inn, b) :: (I, o) :: (src, so) :: Y) := A.sub (List.sublist_append_right _ _)
  have n1 := A2.ne
  have n2 := A2.tl.ne
  have hj : ∀ p ∈ junk, ∀ q ∈ (d1, a) :: (inn, b) :: (I, o) :: (src, so) :: Y, p.1 ≠ q.1 := by
    intro p hp q hq
    unfold Apart at A
    rw [List.map_append] at A
    exact (List.nodup_append.mp A).2.2 p.1 (List.mem_map.mpr ⟨p, hp, rfl⟩) q.1 (List.mem_map.mpr ⟨q, hq, rfl⟩)
  exact ⟨fun p hp => n2 p (.tail _ (.tail _ hp)), fun p hp => n1 p (.tail _ (.tail _ (.tail _ hp))), n1 _ (.head _), (n1 _ (.head _)).symm, n2 _ (.head _), n2 _ (.tail _ (.head _)), n1 _ (.tail _ (.head _)), n1 _ (.tail _ (.tail _ (.head _))),
    fun p hp => ⟨hj p hp _ (.tail _ (.head _)), hj p hp _ (.head _)⟩⟩
theorem turn_close {w : World} {h₀ h' : Heap} {L I src inn d1 tr l8 l7 : Addr} {o o' : Obj} {w0 w1 : Int} {wa wb kt : Tok} {nv ni : Nat} {D D' : TreeD} {R : RowsD} {P : List (List Int)} {T : List Nd} {nd : Nd} {iv pv : List Value} {pth : List Int} {ks : Str} {rest Y : Led} {i : Nat} {x : Str} {sto : List Str}
    {m₀ m' : Str → Option Value} {s : Shared} {tk' : Nat} (junk : Led)
    (N : News h₀ L h' ((l8, listOf [.str ks kt, .ref l7].toArray 0) :: (l7, listOf pv.toArray 0) :: (junk ++ ((d1, o') :: (inn, listOf iv.toArray ni) :: (I, o) :: (src, srcO w0 w1 wa wb nv) :: Y))))
    (A : Apart ((l8, listOf [.str ks kt, .ref l7].toArray 0) :: (l7, listOf pv.toArray 0) :: (junk ++ ((d1, o') :: (inn, listOf iv.toArray ni) :: (I, o) :: (src, srcO w0 w1 wa wb nv) :: Y))))
    (F : Fr h₀ L h' m') (hY : Y = D'.led w ++ (R.ents ++ rest)) (hT : T.length = 2 + i) (hw1 : 0 ≤ w1) (hw2 : w1 < 2147483647) (G : GW w tr d1 T D R P)
    (hD : RepD (T ++ [nd]) D') (ht : D'.tr = tr) (hin : ∀ p, nd.par = some p → ∃ q : Nd, T[p]? = some q ∧ q.kind.inner = true) (hnr : nd.kind ≠ .root) (hk : ks = nd.kind.str) (hI : IntsAre pv pth)
    (hp : pth = match nd.par with | none => [(T.length : Int)] | some p => P.getD p [] ++ [(T.length : Int)])
    (hdo : o'.IsDictOf (intKind PySem.Challenge.rw_xm0664_01.row.prog w) (stored R.kvs (T.length : Int) (.ref l8))) (hiv : IntsAre iv (inners (T ++ [nd])))
    (hkk : ∀ y, y ≠ x → sto.contains y = false → m' y = m₀ y) : TEnd h₀ L (KeptS x sto m₀ (StN w src inn tr d1 nv rest (i + 1))) I o s { s with heap := h', toks := tk' } := by
  let e8 : EntD := ⟨l8, l7, kt, ks, 0, pv, 0⟩
  let R' : RowsD := { R with od := o', es := R.es ++ [e8] }
  have eR : R'.led = (d1, o') :: (R.ents ++ [(l8, listOf [.str ks kt, .ref l7].toArray 0), (l7, listOf pv.toArray 0)]) := by
    show (R.rd, o') :: (R.es ++ [e8]).flatMap EntD.led = _
    rw [List.flatMap_append, G.hrd]
    rfl
  have G' := G.next (x := e8) (pth := pth) (o' := o') hD ht hin hnr hk hI hp (by rw [G.repR.len]; exact hdo)
  subst hY
  have sub : ∀ q ∈ (I, o) :: (src, srcO w0 w1 wa wb nv) :: (inn, listOf iv.toArray ni) :: (D'.led w ++ (R'.led ++ rest)), q ∈ (l8, listOf [.str ks kt, .ref l7].toArray 0) :: (l7, listOf pv.toArray 0) :: (junk ++ ((d1, o') :: (inn, listOf iv.toArray ni) :: (I, o) :: (src, srcO w0 w1 wa wb nv) :: (D'.led w ++ (R.ents ++ rest)))) := by
    intro q hq
    rw [eR] at hq
    simp only [List.mem_cons, List.mem_append, List.not_mem_nil, or_false] at hq ⊢
    rcases hq with hq | hq | hq | hq | (hq | hq | hq | hq) | hq <;> simp [hq]
  have A1 : Apart (junk ++ ((I, o) :: (src, srcO w0 w1 wa wb nv) :: (inn, listOf iv.toArray ni) :: (D'.led w ++ (R'.led ++ rest)))) := by
    refine A.permK (keys_perm fun z => ?_)
    rw [eR]
    simp only [List.map_cons, List.map_append, List.count_cons, List.count_append, List.map_nil, List.count_nil]
    omega
  have A2 : Apart ((I, o) :: (src, srcO w0 w1 wa wb nv) :: (inn, listOf iv.toArray ni) :: (D'.led w ++ (R'.led ++ rest))) := A1.sub (List.sublist_append_right _ _)
  exact TEnd.keptS F (News_subN N sub) A2.ne ⟨T ++ [nd], by rw [List.length_append, hT, List.length_singleton]; omega, D', R', P ++ [pth], iv, ni, w0, w1, wa, wb, rfl, A2.tl, hw1, hw2, G', hiv⟩ hkk
end
/-! C10 -/
section
variable {w : World} {t : Tok} {rest : Led}
theorem permMidX {A B X : Led} (l : Led) (e : A ++ B = X) : (l ++ X).Perm (A ++ (l ++ B)) := by rw [← e]; exact permMid l A B
theorem ents_e {R : RowsD} {i : Nat} {x : EntD} (h : R.es[i]? = some x) : (x.e, listOf [.str x.kind x.kt, .ref x.p].toArray x.en) ∈ R.ents := List.mem_flatMap.mpr ⟨x, List.mem_of_getElem? h, .head _⟩
theorem ents_p {R : RowsD} {i : Nat} {x : EntD} (h : R.es[i]? = some x) : (x.p, listOf x.path.toArray x.pn) ∈ R.ents := List.mem_flatMap.mpr ⟨x, List.mem_of_getElem? h, .tail _ (.head _)⟩
theorem kname_inj : ∀ a < 12, ∀ b < 12, kname a = kname b → a = b := by decide
theorem pname_inj : ∀ a < 12, ∀ b < 12, pname a = pname b → a = b := by decide
theorem att_new {T : List Nd} {D : TreeD} {p i : Nat} (G : RepD T D) (hT : T.length = 2 + i) (hi : i < 12) : ∀ x ∈ atts T p, ∃ (j : Nat) (rj : RowD), x = (j : Int) ∧ D.rows[j]? = some rj ∧ ¬ (rj.uri = "" ∧ rj.loc = kname i) := by
  intro x hx
  obtain ⟨j, nd, rfl, hj, hk⟩ := sel_mem1 hx
  obtain ⟨rj, hrj, his⟩ := G.get hj
  refine ⟨j, rj, rfl, hrj, fun h => ?_⟩
  have hk2 : nd.kind = .attribute := by simp only [Bool.and_eq_true, beq_iff_eq] at hk; exact hk.2
  obtain ⟨a, b, c⟩ := his.attr hk2
  have hl := getElem?_lt hj
  have := kname_inj (j - 2) (by omega) i hi (c.symm.trans h.2)
  omega
theorem nsp_new {T : List Nd} {D : TreeD} {p i : Nat} (G : RepD T D) (hT : T.length = 2 + i) (hi : i < 12) : ∀ x ∈ nsps T p, ∃ (j : Nat) (rj : RowD), x = (j : Int) ∧ D.rows[j]? = some rj ∧ ¬ (rj.name = pname i) := by
  intro x hx
  obtain ⟨j, nd, rfl, hj, hk⟩ := sel_mem1 hx
  obtain ⟨rj, hrj, his⟩ := G.get hj
  refine ⟨j, rj, rfl, hrj, fun h => ?_⟩
  have hk2 : nd.kind = .nspace := by simp only [Bool.and_eq_true, beq_iff_eq] at hk; exact hk.2
  obtain ⟨a, c⟩ := his.nsp hk2
  have hl := getElem?_lt hj
  have := pname_inj (j - 2) (by omega) i hi (c.symm.trans h)
  omega
theorem tree0 {h₀ h : Heap} {L : Addr} {rl tr dt : Addr} {tk : Tok} {news : Led} (N : News h₀ L h ((rl, listOf #[] 0) :: (tr, instObj 295 dt) :: (dt, dictOf [⟨PyData.keyHash w.params "rows", .str "rows" tk, .ref rl⟩] 1) :: news)) (Ap : Apart news)
    (l3 : ∀ p ∈ news, p.1 < dt) (l2 : @LT.lt Nat _ dt tr) (l1 : @LT.lt Nat _ tr rl) :
    ∃ D : TreeD, D.tr = tr ∧ D.rows = [] ∧ News h₀ L h (D.led w ++ news) ∧ Apart (D.led w ++ news) := by
  refine ⟨{ tr := tr, dt := dt, rl := rl, tk := tk, nv := 0, rows := [] }, rfl, rfl, News_subN N ?_, ?_⟩
  · intro q hq
    have e : TreeD.led w { tr := tr, dt := dt, rl := rl, tk := tk, nv := 0, rows := [] } ++ news = (tr, instObj 295 dt) :: (dt, dictOf [⟨PyData.keyHash w.params "rows", .str "rows" tk, .ref rl⟩] 1) :: (rl, listOf #[] 0) :: news := rfl
    rw [e] at hq
    simp only [List.mem_cons] at hq ⊢
    rcases hq with hq | hq | hq | hq
    · exact .inr (.inl hq)
    · exact .inr (.inr (.inl hq))
    · exact .inl hq
    · exact .inr (.inr (.inr hq))
  · have A : Apart ((rl, listOf #[] 0) :: (tr, instObj 295 dt) :: (dt, dictOf [⟨PyData.keyHash w.params "rows", .str "rows" tk, .ref rl⟩] 1) :: news) := by
      refine Apart.cons (fun p hp => ?_) (Apart.cons (fun p hp => ?_) (Apart.cons l3 Ap))
      · simp only [List.mem_cons] at hp
        rcases hp with rfl | rfl | hp
        · exact l1
        · exact Nat.lt_trans l2 l1
        · exact Nat.lt_trans (l3 p hp) (Nat.lt_trans l2 l1)
      · simp only [List.mem_cons] at hp
        rcases hp with rfl | hp
        · exact l2
        · exact Nat.lt_trans (l3 p hp) l2
    exact A.perm (((List.Perm.swap _ _ _).trans ((List.Perm.swap _ _ _).cons _)))
set_option maxRecDepth 100000 in
set_option maxHeartbeats 8000000 in
theorem c_grown {src : Addr} {z0 z1 : Int} {ta tb : Tok} {nv : Nat} (hz1 : 0 ≤ z1) (hz2 : z1 < 2147483647) :
    Con w 327 700 7000 [.ref src, .int 10 t] (fun n => n.Perm ((src, listOf [.int z0 ta, .int z1 tb].toArray nv) :: rest))
      (fun _ v n' => ∃ (tup tr rd : Addr) (T : List Nd) (D : TreeD) (R : RowsD) (P : List (List Int)) (y0 y1 : Int) (ya yb : Tok), v = .ref tup ∧ n' = (tup, { cls := .type "tuple", data := .seq #[.ref tr, .ref rd] }) :: (src, srcO y0 y1 ya yb nv) :: (D.led w ++ (R.led ++ rest)) ∧
        0 ≤ y1 ∧ y1 < 2147483647 ∧ 2 ≤ T.length ∧ T.length ≤ 11 ∧ GW w tr rd T D R P ∧ (rd == sysModules) = false) := by
  refine Con.of fun tpv lov mean mg mb gd cn cs a ccd cl outer A₀ base h₀ L m news s Q E hkk B F X N Ap T P ret => ?_
  refine wpAny_call ?_
  k_dflt ktr_enter
  repeat' (first | (k_unfold; (try dsimp only)) | ((fail_if_success (with_reducible show wpAny _ _ (call (Value.ref _) _ _) _ _ _)); walk1) | (dsimp only; ((fail_if_success (with_reducible show wpAny _ _ (call (Value.ref _) _ _) _ _ _)); walk1)))
  walk1
  repeat' (first | (k_unfold; (try dsimp only)) | ((fail_if_success (with_reducible show wpAny _ _ (call (Value.ref _) _ _) _ _ _)); walk1) | (dsimp only; ((fail_if_success (with_reducible show wpAny _ _ (call (Value.ref _) _ _) _ _ _)); walk1)))
  obtain ⟨D, htr, hrows, N1, Ap1⟩ := tree0 (by k_asm : News _ _ _ ((_, listOf #[] 0) :: _)) Ap (by first | assumption | exact tb_ltOf (by assumption) | exact tb_ltOf (by tbn_find)) (by omega) (by omega)
  subst htr
  have P1 : (D.led w ++ news).Perm (D.led w ++ news) := .refl _
  generalize hn1 : D.led w ++ news = n1 at N1 Ap1 P1
  rw [← hn1] at P1
  have P1' : n1.Perm (D.led w ++ news) := by rw [hn1]
  clear P1
  have hl0 : D.rows.length = 0 := by rw [hrows]; rfl
  (refine' Con.use (c_new_root (D := D) (rest := news) (by omega)) ?uhh53 ?uhf53 ?uhdp53 ?uhu53 ?uhk53 ?uB53 ?uF53 ?uX53 ?uN53 ?uT53 ?uAp53 ?uP53 ?_; (case uhh53 => exact rfl); (case uhf53 => exact rfl); (case uhdp53 => exact Nat.le_of_ble_eq_true rfl); (case uhu53 => exact Nat.le_of_ble_eq_true rfl); (case uhk53 => first | assumption | exact rfl); (case uB53 => k_asm); (case uF53 => k_asm); (case uX53 => k_asm); (case uN53 => k_asm); (case uT53 => k_asm); (case uAp53 => first | assumption | (repeat' (first | assumption | refine Apart.cons (by first | assumption | exact tb_ltOf (by assumption)) ?_))))
  · exact P1'
  rintro v n2 h2' tk2 F2 N2 Ap2 ⟨r0, tq0, hr0, rfl, e2⟩
  rw [hl0]
  have P2 : n2.Perm ((D.add r0).led w ++ news) := by rw [e2]
  have m2 : (D.tr, instObj 295 D.dt) ∈ n2 := perm_mem P2 _ (mem_top1 w _)
  have m2' : (D.dt, D.dobj w) ∈ n2 := perm_mem P2 _ (mem_top2 w _)
  have W0 : WF [] := ⟨fun i nd p h => by simp at h, fun i nd p h => by simp at h⟩
  have R0 : RepD [] D := ⟨by rw [hrows]; rfl, fun i nd r h => by simp at h⟩
  have W1 : WF ([] ++ [(⟨.root, none⟩ : Nd)]) := W0.snoc (by simp)
  have R1 : RepD ([] ++ [(⟨.root, none⟩ : Nd)]) (D.add r0) := R0.add0 rfl (new_is W0 (by simp) hr0 rfl (by simp) (by simp))
  have hg0 : (D.add r0).rows[0]? = some r0 := by show (D.rows ++ [r0])[0]? = _; rw [hrows]; rfl
  have hlz1 : (D.add r0).rows.length = 1 := by show (D.rows ++ [r0]).length = _; rw [hrows]; rfl
  repeat' (first | (k_unfold; (try dsimp only)) | ((fail_if_success (with_reducible show wpAny _ _ (call (Value.ref _) _ _) _ _ _)); walk1) | (dsimp only; ((fail_if_success (with_reducible show wpAny _ _ (call (Value.ref _) _ _) _ _ _)); walk1)))
  (refine' Con.use (c_add_element1 (D := D.add r0) (p := 0) (rp := r0) (rest := news) (by omega) hg0 (by rw [hr0.1]; decide) (by rw [hr0.2.2.2.2.2.2.1]; simp)) ?uhh54 ?uhf54 ?uhdp54 ?uhu54 ?uhk54 ?uB54 ?uF54 ?uX54 ?uN54 ?uT54 ?uAp54 ?uP54 ?_; (case uhh54 => exact rfl); (case uhf54 => exact rfl); (case uhdp54 => exact Nat.le_of_ble_eq_true rfl); (case uhu54 => exact Nat.le_of_ble_eq_true rfl); (case uhk54 => first | assumption | exact rfl); (case uB54 => k_asm); (case uF54 => k_asm); (case uX54 => k_asm); (case uN54 => k_asm); (case uT54 => k_asm); (case uAp54 => first | assumption | (repeat' (first | assumption | refine Apart.cons (by first | assumption | exact tb_ltOf (by assumption)) ?_))))
  · exact P2
  rintro v n3 h3' tk3 F3 N3 Ap3 ⟨r1, tq1, hr1, rfl, e3⟩
  rw [hlz1]
  clear m2 m2'
  generalize hD2 : ((D.add r0).add r1).set 0 { r0 with ch := r0.ch ++ [.int ((D.add r0).rows.length : Nat) tq1], cn := r0.cn + 1 } = D2 at e3
  have W2 : WF (([] ++ [(⟨.root, none⟩ : Nd)]) ++ [⟨.element, some 0⟩]) := W1.snoc (by intro p hp; cases hp; exact ⟨_, rfl, rfl⟩)
  have R2 : RepD (([] ++ [(⟨.root, none⟩ : Nd)]) ++ [⟨.element, some 0⟩]) D2 := by
    rw [← hD2, hlz1]
    exact R1.add1 (p := 0) rfl rfl (new_is W1 (by intro p hp; cases hp; exact Nat.zero_lt_succ _) hr1 ⟨_, rfl⟩ (by simp) (by simp)) (par_child (R1.row 0 _ _ rfl hg0) rfl rfl)
  have htr2 : D2.tr = D.tr := by rw [← hD2]; rfl
  clear hD2
  repeat' (first | (k_unfold; (try dsimp only)) | ((fail_if_success (with_reducible show wpAny _ _ (call (Value.ref _) _ _) _ _ _)); walk1) | (dsimp only; ((fail_if_success (with_reducible show wpAny _ _ (call (Value.ref _) _ _) _ _ _)); walk1)))
  refine' kdn_eval (knd := PySem.intKind _ _) ?k1 ?k2 ?k3 ?k4 ?k5 ?k6 ?k7 ?_
  case k1 => k_asm
  case k2 => k_asm
  case k3 => exact Top.nolimit (by k_asm)
  case k4 => rfl
  case k5 => rfl
  case k6 => exact List.cons_ne_nil _ _
  case k7 => exact Nat.le_of_ble_eq_true rfl
  intro d1 h5 o5 F5 N5 l5 lo5 hd5
  repeat' (first | (k_unfold; (try dsimp only)) | ((fail_if_success (with_reducible show wpAny _ _ (call (Value.ref _) _ _) _ _ _)); walk1) | (dsimp only; ((fail_if_success (with_reducible show wpAny _ _ (call (Value.ref _) _ _) _ _ _)); walk1)))
  obtain ⟨inn, R, rfl, G2, N6, Ap6⟩ := grown_start (w := w) (D2 := D2) (by k_asm) (by repeat' (first | assumption | refine Apart.cons (by first | assumption | exact tb_ltOf (by assumption)) ?_)) e3 P (by assumption) W2 R2
  rw [htr2] at G2
  (refine' Con.use (c_take (nv := nv) (k := 10) (by omega) (by omega) hz1 hz2) ?uhh49 ?uhf49 ?uhdp49 ?uhu49 ?uhk49 ?uB49 ?uF49 ?uX49 ?uN49 ?uT49 ?uAp49 (List.Perm.refl _) ?_; (case uhh49 => exact rfl); (case uhf49 => exact rfl); (case uhdp49 => exact Nat.le_of_ble_eq_true rfl); (case uhu49 => exact Nat.le_of_ble_eq_true rfl); (case uhk49 => first | assumption | exact rfl); (case uB49 => k_asm); (case uF49 => k_asm); (case uX49 => k_asm); (case uN49 => k_asm); (case uT49 => k_asm); (case uAp49 => first | assumption | (repeat' (first | assumption | refine Apart.cons (by first | assumption | exact tb_ltOf (by assumption)) ?_))))
  rintro v n4 h4 tk4 F4 N4 Ap4 ⟨f, tq, a', b', ta', tb', hf, rfl, hb1, hb2, e4⟩
  clear N6 Ap6
  repeat' (first | (k_unfold; (try dsimp only)) | ((fail_if_success (with_reducible show wpAny _ _ (call (Value.ref _) _ _) _ _ _)); walk1) | (dsimp only; ((fail_if_success (with_reducible show wpAny _ _ (call (Value.ref _) _ _) _ _ _)); walk1)))
  refine' iter_range_st ["parent", "way", "owner", "path", "node", "kind"] (StN w src inn D.tr d1 nv rest) rfl (Nat.lt_trans hf (by omega)) ?kr ?kF ?kN ⟨_, rfl, _, _, _, _, _, _, _, _, _, e4, Ap4, hb1, hb2, G2, .cons _ _ (.cons _ _ .nil)⟩ ?_ ?_
  case kr => k_asm
  case kF => k_asm
  case kN => k_asm
  · intro i ti u n5 h5 tk5 I o hi hS hoff F7 N7
    obtain ⟨T, hT, DD, RR, PP, ivs, ni, y0, y1, ya, yb, e5, Ap5, hy1, hy2, G, hI⟩ := hS
    have Ap6 := Apart.consNe (o := o) hoff Ap5
    subst e5
    have hX1 : (D.tr, instObj 295 DD.dt) ∈ DD.led w ++ (RR.led ++ rest) := by rw [← G.htr]; exact List.mem_append_left _ (mem_top1 w DD)
    have hX2 : (DD.dt, DD.dobj w) ∈ DD.led w ++ (RR.led ++ rest) := List.mem_append_left _ (mem_top2 w DD)
    have hX3 : (d1, RR.od) ∈ DD.led w ++ (RR.led ++ rest) := by rw [← G.hrd]; exact List.mem_append_right _ (List.mem_append_left _ RR.mem_d)
    have hX4 : ∀ q ∈ RR.led, q ∈ DD.led w ++ (RR.led ++ rest) := fun q hq => List.mem_append_right _ (List.mem_append_left _ hq)
    generalize hX : DD.led w ++ (RR.led ++ rest) = X at N7 Ap6 Ap5 hoff hX1 hX2 hX3 hX4
    obtain ⟨ir, hir⟩ := G.inners
    have hil : (inners T).length ≤ 11 := Nat.le_trans (sel_length _ _ _) (by omega)
    have hil2 : 2 ≤ (inners T).length := by rw [hir]; simp
    have hvl : ivs.length = (inners T).length := hI.length
    have hdict := G.dict
    repeat' (first | (k_unfold; (try dsimp only)) | ((fail_if_success (with_reducible show wpAny _ _ (call (Value.ref _) _ _) _ _ _)); walk1) | (dsimp only; ((fail_if_success (with_reducible show wpAny _ _ (call (Value.ref _) _ _) _ _ _)); walk1)))
    (refine' Con.use (c_one (nv := nv) (vs := ivs ++ [.none]) (nl := 0) (by simp) (by rw [List.length_append, List.length_singleton]; omega) hy1 hy2) ?uhh50 ?uhf50 ?uhdp50 ?uhu50 ?uhk50 ?uB50 ?uF50 ?uX50 ?uN50 ?uT50 ?uAp50 (⟨List.perm_middle (l₁ := [_, _, _]), .head _⟩) ?_; (case uhh50 => exact rfl); (case uhf50 => exact rfl); (case uhdp50 => exact Nat.le_of_ble_eq_true rfl); (case uhu50 => exact Nat.le_of_ble_eq_true rfl); (case uhk50 => first | assumption | exact rfl); (case uB50 => k_asm); (case uF50 => k_asm); (case uX50 => k_asm); (case uN50 => k_asm); (case uT50 => k_asm); (case uAp50 => first | assumption | (repeat' (first | assumption | refine Apart.cons (by first | assumption | exact tb_ltOf (by assumption)) ?_))))
    rintro v1 n6 h6 tk6 F6 N6 Ap8 ⟨f1, w0, w1, wa, wb, hv1, hw1, hw2, rfl⟩
    repeat' (first | (k_unfold; (try dsimp only)) | ((fail_if_success (with_reducible show wpAny _ _ (call (Value.ref _) _ _) _ _ _)); walk1) | (dsimp only; ((fail_if_success (with_reducible show wpAny _ _ (call (Value.ref _) _ _) _ _ _)); walk1)))
    (refine' Con.use (c_take (nv := nv) (k := 8) (by omega) (by omega) hw1 hw2) ?uhh51 ?uhf51 ?uhdp51 ?uhu51 ?uhk51 ?uB51 ?uF51 ?uX51 ?uN51 ?uT51 ?uAp51 (List.Perm.refl _) ?_; (case uhh51 => exact rfl); (case uhf51 => exact rfl); (case uhdp51 => exact Nat.le_of_ble_eq_true rfl); (case uhu51 => exact Nat.le_of_ble_eq_true rfl); (case uhk51 => first | assumption | exact rfl); (case uB51 => k_asm); (case uF51 => k_asm); (case uX51 => k_asm); (case uN51 => k_asm); (case uT51 => k_asm); (case uAp51 => first | assumption | (repeat' (first | assumption | refine Apart.cons (by first | assumption | exact tb_ltOf (by assumption)) ?_))))
    rintro v2 n6 h6 tk6 F6 N6 Ap8 ⟨f2, tf2, w0, w1, wa, wb, hf2, rfl, hw1, hw2, rfl⟩
    repeat' (first | (k_unfold; (try dsimp only)) | ((fail_if_success (with_reducible show wpAny _ _ (call (Value.ref _) _ _) _ _ _)); walk1) | (dsimp only; ((fail_if_success (with_reducible show wpAny _ _ (call (Value.ref _) _ _) _ _ _)); walk1)))
    (refine' Con.use (c_one (nv := nv) (nl := 0) (by rw [(by assumption : IntsAre _ (List.drop _ _)).length, List.length_drop]; show 0 < (inners T).length - 1; omega) (by rw [(by assumption : IntsAre _ (List.drop _ _)).length, List.length_drop]; omega) hw1 hw2) ?uhh52 ?uhf52 ?uhdp52 ?uhu52 ?uhk52 ?uB52 ?uF52 ?uX52 ?uN52 ?uT52 ?uAp52 (⟨List.perm_middle (l₁ := [_]), .head _⟩) ?_; (case uhh52 => exact rfl); (case uhf52 => exact rfl); (case uhdp52 => exact Nat.le_of_ble_eq_true rfl); (case uhu52 => exact Nat.le_of_ble_eq_true rfl); (case uhk52 => first | assumption | exact rfl); (case uB52 => k_asm); (case uF52 => k_asm); (case uX52 => k_asm); (case uN52 => k_asm); (case uT52 => k_asm); (case uAp52 => first | assumption | (repeat' (first | assumption | refine Apart.cons (by first | assumption | exact tb_ltOf (by assumption)) ?_))))
    rintro v3 n6 h6 tk6 F6 N6 Ap8 ⟨f3, w0, w1, wa, wb, hv3, hw1, hw2, rfl⟩
    repeat' (first | (k_unfold; (try dsimp only)) | ((fail_if_success (with_reducible show wpAny _ _ (call (Value.ref _) _ _) _ _ _)); walk1) | (dsimp only; ((fail_if_success (with_reducible show wpAny _ _ (call (Value.ref _) _ _) _ _ _)); walk1)))
    obtain ⟨po, tpo, ndo, rfl, hpo, hko⟩ := draw_owner G (by assumption) hv3
    obtain ⟨xo, pao, hxo, hPo, hxko, hxpo, hplo, hlo⟩ := G.ent hpo
    have ho1 := hX4 _ (RowsD.mem_e hxo)
    have ho2 := hX4 _ (RowsD.mem_p hxo)
    have ho3 := RowsD.at hxo
    have hplo' : xo.path.length ≤ 12 := by omega
    obtain ⟨rpo, hrpo, hiso⟩ := G.repD.get hpo
    rcases draw_parent hI hv1 with rfl | ⟨pp, tpp, ndp, rfl, hpp, hkp⟩
    · have N9 : News _ _ _ ((I, o) :: (src, srcO w0 w1 wa wb nv) :: (inn, listOf ivs.toArray ni) :: X) := News_subN (by k_asm) (by intro q hq; simp only [List.mem_cons, List.mem_append, List.not_mem_nil, or_false] at hq ⊢; rcases hq with hq | hq | hq | hq <;> simp [hq])
      have Ap9 : Apart ((I, o) :: (src, srcO w0 w1 wa wb nv) :: (inn, listOf ivs.toArray ni) :: X) := Apart.keys (by rfl) Ap6
      have hlen : DD.rows.length = T.length := G.repD.len
      have hz9 : DD.rows.length < 1000 := by omega
      have hkz : RR.kvs.length ≤ 1000 := by show (kvsFrom 0 RR.es).length ≤ 1000; rw [kvsFrom_length, G.repR.len]; omega
      have hiz : ivs.length ≤ 1000 := by omega
      repeat' (first | (k_unfold; (try dsimp only)) | ((fail_if_success (with_reducible show wpAny _ _ (call (Value.ref _) _ _) _ _ _)); walk1) | (dsimp only; ((fail_if_success (with_reducible show wpAny _ _ (call (Value.ref _) _ _) _ _ _)); walk1)))
      · (refine' Con.use (Con.tr G.htr (c_add_element0 (D := DD) hz9)) ?uhh37 ?uhf37 ?uhdp37 ?uhu37 ?uhk37 ?uB37 ?uF37 ?uX37 ?uN37 ?uT37 ?uAp37 ?uP37 ?_; (case uhh37 => exact rfl); (case uhf37 => exact rfl); (case uhdp37 => exact Nat.le_of_ble_eq_true rfl); (case uhu37 => exact Nat.le_of_ble_eq_true rfl); (case uhk37 => first | assumption | exact rfl); (case uB37 => k_asm); (case uF37 => k_asm); (case uX37 => k_asm); (case uN37 => k_asm); (case uT37 => k_asm); (case uAp37 => first | assumption | (repeat' (first | assumption | refine Apart.cons (by first | assumption | exact tb_ltOf (by assumption)) ?_))); (case uP37 => (exact permMidX [_, _, _, _] hX)))
        rintro v6 n6 h6 tk6 F6 N6 Ap8 ⟨r6, tq6, hr6, rfl, e6⟩
        rw [hlen]
        obtain ⟨NC, ApC⟩ := toC [_] N6 Ap8 e6 G.hrd
        have hD6 : RepD (T ++ [⟨.element, none⟩]) (DD.add r6) := G.repD.add0 rfl (new_is G.wf (by simp) hr6 rfl (by simp) (by simp))
        generalize hY : TreeD.led w (DD.add r6) ++ (RR.ents ++ rest) = Y at NC ApC
        obtain ⟨q1, q2, q3, q4, q5, q6, q7, q8, q9⟩ := apC_facts ApC
        have q10 := (q9 _ (.head _)).1
        have q11 := (q9 _ (.head _)).2
        try dsimp only at q10 q11
        simp only [List.cons_append, List.nil_append] at NC ApC
        clear N6 Ap8 q9
        repeat' (first | (k_unfold; (try dsimp only)) | ((fail_if_success (with_reducible show wpAny _ _ (call (Value.ref _) _ _) _ _ _)); walk1) | (dsimp only; ((fail_if_success (with_reducible show wpAny _ _ (call (Value.ref _) _ _) _ _ _)); walk1)))
        exact turn_close [_, _, _] (by k_asm) (by repeat' (first | exact Apart.keys (by rfl) ApC | refine Apart.cons (by first | assumption | exact tb_ltOf (by assumption)) ?_)) (by k_asm) hY.symm hT hw1 hw2 G hD6 G.htr (by intro p hp; cases hp) (by simp) rfl (.cons _ _ .nil) rfl (by assumption) (by rw [inners_append]; exact hI.append (one_int _ _)) (by intro y e1 e2; have g0 : y ≠ "parent" := by { rintro rfl; exact absurd e2 (by decide) }; have g1 : y ≠ "way" := by { rintro rfl; exact absurd e2 (by decide) }; have g2 : y ≠ "owner" := by { rintro rfl; exact absurd e2 (by decide) }; have g3 : y ≠ "path" := by { rintro rfl; exact absurd e2 (by decide) }; have g4 : y ≠ "node" := by { rintro rfl; exact absurd e2 (by decide) }; have g5 : y ≠ "kind" := by { rintro rfl; exact absurd e2 (by decide) }; simp only [if_neg e1, if_neg g0, if_neg g1, if_neg g2, if_neg g3, if_neg g4, if_neg g5, e2, Bool.false_eq_true, if_false])
      · (refine' Con.use (Con.tr G.htr (c_add_text0 (D := DD) hz9)) ?uhh38 ?uhf38 ?uhdp38 ?uhu38 ?uhk38 ?uB38 ?uF38 ?uX38 ?uN38 ?uT38 ?uAp38 ?uP38 ?_; (case uhh38 => exact rfl); (case uhf38 => exact rfl); (case uhdp38 => exact Nat.le_of_ble_eq_true rfl); (case uhu38 => exact Nat.le_of_ble_eq_true rfl); (case uhk38 => first | assumption | exact rfl); (case uB38 => k_asm); (case uF38 => k_asm); (case uX38 => k_asm); (case uN38 => k_asm); (case uT38 => k_asm); (case uAp38 => first | assumption | (repeat' (first | assumption | refine Apart.cons (by first | assumption | exact tb_ltOf (by assumption)) ?_))); (case uP38 => (exact permMidX [_, _, _, _] hX)))
        rintro v6 n6 h6 tk6 F6 N6 Ap8 ⟨r6, tq6, hr6, rfl, e6⟩
        rw [hlen]
        obtain ⟨NC, ApC⟩ := toC [_] N6 Ap8 e6 G.hrd
        have hD6 : RepD (T ++ [⟨.text, none⟩]) (DD.add r6) := G.repD.add0 rfl (new_is G.wf (by simp) hr6 rfl (by simp) (by simp))
        generalize hY : TreeD.led w (DD.add r6) ++ (RR.ents ++ rest) = Y at NC ApC
        obtain ⟨q1, q2, q3, q4, q5, q6, q7, q8, q9⟩ := apC_facts ApC
        have q10 := (q9 _ (.head _)).1
        have q11 := (q9 _ (.head _)).2
        try dsimp only at q10 q11
        simp only [List.cons_append, List.nil_append] at NC ApC
        clear N6 Ap8 q9
        repeat' (first | (k_unfold; (try dsimp only)) | ((fail_if_success (with_reducible show wpAny _ _ (call (Value.ref _) _ _) _ _ _)); walk1) | (dsimp only; ((fail_if_success (with_reducible show wpAny _ _ (call (Value.ref _) _ _) _ _ _)); walk1)))
        exact turn_close [_, _, _] (by k_asm) (by repeat' (first | exact Apart.keys (by rfl) ApC | refine Apart.cons (by first | assumption | exact tb_ltOf (by assumption)) ?_)) (by k_asm) hY.symm hT hw1 hw2 G hD6 G.htr (by intro p hp; cases hp) (by simp) rfl (.cons _ _ .nil) rfl (by assumption) (by rw [inners_append]; simpa [Kd.inner] using hI) (by intro y e1 e2; have g0 : y ≠ "parent" := by { rintro rfl; exact absurd e2 (by decide) }; have g1 : y ≠ "way" := by { rintro rfl; exact absurd e2 (by decide) }; have g2 : y ≠ "owner" := by { rintro rfl; exact absurd e2 (by decide) }; have g3 : y ≠ "path" := by { rintro rfl; exact absurd e2 (by decide) }; have g4 : y ≠ "node" := by { rintro rfl; exact absurd e2 (by decide) }; have g5 : y ≠ "kind" := by { rintro rfl; exact absurd e2 (by decide) }; simp only [if_neg e1, if_neg g0, if_neg g1, if_neg g2, if_neg g3, if_neg g4, if_neg g5, e2, Bool.false_eq_true, if_false])
      · (refine' Con.use (Con.tr G.htr (c_add_comment0 (D := DD) hz9)) ?uhh39 ?uhf39 ?uhdp39 ?uhu39 ?uhk39 ?uB39 ?uF39 ?uX39 ?uN39 ?uT39 ?uAp39 ?uP39 ?_; (case uhh39 => exact rfl); (case uhf39 => exact rfl); (case uhdp39 => exact Nat.le_of_ble_eq_true rfl); (case uhu39 => exact Nat.le_of_ble_eq_true rfl); (case uhk39 => first | assumption | exact rfl); (case uB39 => k_asm); (case uF39 => k_asm); (case uX39 => k_asm); (case uN39 => k_asm); (case uT39 => k_asm); (case uAp39 => first | assumption | (repeat' (first | assumption | refine Apart.cons (by first | assumption | exact tb_ltOf (by assumption)) ?_))); (case uP39 => (exact permMidX [_, _, _, _] hX)))
        rintro v6 n6 h6 tk6 F6 N6 Ap8 ⟨r6, tq6, hr6, rfl, e6⟩
        rw [hlen]
        obtain ⟨NC, ApC⟩ := toC [_] N6 Ap8 e6 G.hrd
        have hD6 : RepD (T ++ [⟨.comment, none⟩]) (DD.add r6) := G.repD.add0 rfl (new_is G.wf (by simp) hr6 rfl (by simp) (by simp))
        generalize hY : TreeD.led w (DD.add r6) ++ (RR.ents ++ rest) = Y at NC ApC
        obtain ⟨q1, q2, q3, q4, q5, q6, q7, q8, q9⟩ := apC_facts ApC
        have q10 := (q9 _ (.head _)).1
        have q11 := (q9 _ (.head _)).2
        try dsimp only at q10 q11
        simp only [List.cons_append, List.nil_append] at NC ApC
        clear N6 Ap8 q9
        repeat' (first | (k_unfold; (try dsimp only)) | ((fail_if_success (with_reducible show wpAny _ _ (call (Value.ref _) _ _) _ _ _)); walk1) | (dsimp only; ((fail_if_success (with_reducible show wpAny _ _ (call (Value.ref _) _ _) _ _ _)); walk1)))
        exact turn_close [_, _, _] (by k_asm) (by repeat' (first | exact Apart.keys (by rfl) ApC | refine Apart.cons (by first | assumption | exact tb_ltOf (by assumption)) ?_)) (by k_asm) hY.symm hT hw1 hw2 G hD6 G.htr (by intro p hp; cases hp) (by simp) rfl (.cons _ _ .nil) rfl (by assumption) (by rw [inners_append]; simpa [Kd.inner] using hI) (by intro y e1 e2; have g0 : y ≠ "parent" := by { rintro rfl; exact absurd e2 (by decide) }; have g1 : y ≠ "way" := by { rintro rfl; exact absurd e2 (by decide) }; have g2 : y ≠ "owner" := by { rintro rfl; exact absurd e2 (by decide) }; have g3 : y ≠ "path" := by { rintro rfl; exact absurd e2 (by decide) }; have g4 : y ≠ "node" := by { rintro rfl; exact absurd e2 (by decide) }; have g5 : y ≠ "kind" := by { rintro rfl; exact absurd e2 (by decide) }; simp only [if_neg e1, if_neg g0, if_neg g1, if_neg g2, if_neg g3, if_neg g4, if_neg g5, e2, Bool.false_eq_true, if_false])
      · (refine' Con.use (Con.tr G.htr (c_add_instruction0 (D := DD) hz9)) ?uhh40 ?uhf40 ?uhdp40 ?uhu40 ?uhk40 ?uB40 ?uF40 ?uX40 ?uN40 ?uT40 ?uAp40 ?uP40 ?_; (case uhh40 => exact rfl); (case uhf40 => exact rfl); (case uhdp40 => exact Nat.le_of_ble_eq_true rfl); (case uhu40 => exact Nat.le_of_ble_eq_true rfl); (case uhk40 => first | assumption | exact rfl); (case uB40 => k_asm); (case uF40 => k_asm); (case uX40 => k_asm); (case uN40 => k_asm); (case uT40 => k_asm); (case uAp40 => first | assumption | (repeat' (first | assumption | refine Apart.cons (by first | assumption | exact tb_ltOf (by assumption)) ?_))); (case uP40 => (exact permMidX [_, _, _, _] hX)))
        rintro v6 n6 h6 tk6 F6 N6 Ap8 ⟨r6, tq6, hr6, rfl, e6⟩
        rw [hlen]
        obtain ⟨NC, ApC⟩ := toC [_] N6 Ap8 e6 G.hrd
        have hD6 : RepD (T ++ [⟨.instruction, none⟩]) (DD.add r6) := G.repD.add0 rfl (new_is G.wf (by simp) hr6 rfl (by simp) (by simp))
        generalize hY : TreeD.led w (DD.add r6) ++ (RR.ents ++ rest) = Y at NC ApC
        obtain ⟨q1, q2, q3, q4, q5, q6, q7, q8, q9⟩ := apC_facts ApC
        have q10 := (q9 _ (.head _)).1
        have q11 := (q9 _ (.head _)).2
        try dsimp only at q10 q11
        simp only [List.cons_append, List.nil_append] at NC ApC
        clear N6 Ap8 q9
        repeat' (first | (k_unfold; (try dsimp only)) | ((fail_if_success (with_reducible show wpAny _ _ (call (Value.ref _) _ _) _ _ _)); walk1) | (dsimp only; ((fail_if_success (with_reducible show wpAny _ _ (call (Value.ref _) _ _) _ _ _)); walk1)))
        exact turn_close [_, _, _] (by k_asm) (by repeat' (first | exact Apart.keys (by rfl) ApC | refine Apart.cons (by first | assumption | exact tb_ltOf (by assumption)) ?_)) (by k_asm) hY.symm hT hw1 hw2 G hD6 G.htr (by intro p hp; cases hp) (by simp) rfl (.cons _ _ .nil) rfl (by assumption) (by rw [inners_append]; simpa [Kd.inner] using hI) (by intro y e1 e2; have g0 : y ≠ "parent" := by { rintro rfl; exact absurd e2 (by decide) }; have g1 : y ≠ "way" := by { rintro rfl; exact absurd e2 (by decide) }; have g2 : y ≠ "owner" := by { rintro rfl; exact absurd e2 (by decide) }; have g3 : y ≠ "path" := by { rintro rfl; exact absurd e2 (by decide) }; have g4 : y ≠ "node" := by { rintro rfl; exact absurd e2 (by decide) }; have g5 : y ≠ "kind" := by { rintro rfl; exact absurd e2 (by decide) }; simp only [if_neg e1, if_neg g0, if_neg g1, if_neg g2, if_neg g3, if_neg g4, if_neg g5, e2, Bool.false_eq_true, if_false])
      · (refine' Con.use (Con.tr G.htr (c_set_attribute (D := DD) (p := po) (rp := rpo) hz9 hrpo (by rw [hiso.kind, hko]; rfl) hiso.at_ (Nat.le_trans (kids_len hiso).2.1 (by omega)) (att_new G.repD hT (by omega)))) ?uhh41 ?uhf41 ?uhdp41 ?uhu41 ?uhk41 ?uB41 ?uF41 ?uX41 ?uN41 ?uT41 ?uAp41 ?uP41 ?_; (case uhh41 => exact rfl); (case uhf41 => exact rfl); (case uhdp41 => exact Nat.le_of_ble_eq_true rfl); (case uhu41 => exact Nat.le_of_ble_eq_true rfl); (case uhk41 => first | assumption | exact rfl); (case uB41 => k_asm); (case uF41 => k_asm); (case uX41 => k_asm); (case uN41 => k_asm); (case uT41 => k_asm); (case uAp41 => first | assumption | (repeat' (first | assumption | refine Apart.cons (by first | assumption | exact tb_ltOf (by assumption)) ?_))); (case uP41 => (exact permMidX [_, _, _, _] hX)))
        rintro v6 n6 h6 tk6 F6 N6 Ap8 ⟨r6, tq6, hr6, rfl, e6⟩
        rw [hlen] at e6 ⊢
        obtain ⟨NC, ApC⟩ := toC [_] N6 Ap8 e6 G.hrd
        have hD6 : RepD (T ++ [⟨.attribute, some po⟩]) ((DD.add r6).set po { rpo with at_ := rpo.at_ ++ [.int (T.length : Nat) tq6], an := rpo.an + 1 }) := G.repD.add1 (p := po) rfl hpo (new_is G.wf (by intro p hp; cases hp; exact getElem?_lt hpo) hr6 ⟨_, rfl⟩ (fun _ => by rw [hT]; exact ⟨by omega, rfl, by rw [show 2 + i - 2 = i by omega]; rfl⟩) (by simp)) (par_att hiso rfl rfl)
        have hO1 := List.mem_append_right (TreeD.led w ((DD.add r6).set po { rpo with at_ := rpo.at_ ++ [.int (T.length : Nat) tq6], an := rpo.an + 1 })) (List.mem_append_left rest (ents_e hxo))
        have hO2 := List.mem_append_right (TreeD.led w ((DD.add r6).set po { rpo with at_ := rpo.at_ ++ [.int (T.length : Nat) tq6], an := rpo.an + 1 })) (List.mem_append_left rest (ents_p hxo))
        generalize hY : TreeD.led w ((DD.add r6).set po { rpo with at_ := rpo.at_ ++ [.int (T.length : Nat) tq6], an := rpo.an + 1 }) ++ (RR.ents ++ rest) = Y at NC ApC hO1 hO2
        obtain ⟨q1, q2, q3, q4, q5, q6, q7, q8, q9⟩ := apC_facts ApC
        have q10 := (q9 _ (.head _)).1
        have q11 := (q9 _ (.head _)).2
        try dsimp only at q10 q11
        simp only [List.cons_append, List.nil_append] at NC ApC
        clear N6 Ap8 q9
        repeat' (first | (k_unfold; (try dsimp only)) | ((fail_if_success (with_reducible show wpAny _ _ (call (Value.ref _) _ _) _ _ _)); walk1) | (dsimp only; ((fail_if_success (with_reducible show wpAny _ _ (call (Value.ref _) _ _) _ _ _)); walk1)))
        exact turn_close [_, _, _] (by k_asm) (by repeat' (first | exact Apart.keys (by rfl) ApC | refine Apart.cons (by first | assumption | exact tb_ltOf (by assumption)) ?_)) (by k_asm) hY.symm hT hw1 hw2 G hD6 G.htr (by intro p hp; cases hp; exact ⟨_, hpo, by rw [hko]; rfl⟩) (by simp) rfl (hxpo.append (one_int _ _)) (by dsimp only; rw [List.getD_eq_getElem?_getD, hPo]; rfl) (by assumption) (by rw [inners_append]; simpa [Kd.inner] using hI) (by intro y e1 e2; have g0 : y ≠ "parent" := by { rintro rfl; exact absurd e2 (by decide) }; have g1 : y ≠ "way" := by { rintro rfl; exact absurd e2 (by decide) }; have g2 : y ≠ "owner" := by { rintro rfl; exact absurd e2 (by decide) }; have g3 : y ≠ "path" := by { rintro rfl; exact absurd e2 (by decide) }; have g4 : y ≠ "node" := by { rintro rfl; exact absurd e2 (by decide) }; have g5 : y ≠ "kind" := by { rintro rfl; exact absurd e2 (by decide) }; simp only [if_neg e1, if_neg g0, if_neg g1, if_neg g2, if_neg g3, if_neg g4, if_neg g5, e2, Bool.false_eq_true, if_false])
      · (refine' Con.use (Con.tr G.htr (c_add_namespace (D := DD) (p := po) (rp := rpo) hz9 hrpo (by rw [hiso.kind, hko]; rfl) hiso.ns (Nat.le_trans (kids_len hiso).2.2 (by omega)) (nsp_new G.repD hT (by omega)))) ?uhh42 ?uhf42 ?uhdp42 ?uhu42 ?uhk42 ?uB42 ?uF42 ?uX42 ?uN42 ?uT42 ?uAp42 ?uP42 ?_; (case uhh42 => exact rfl); (case uhf42 => exact rfl); (case uhdp42 => exact Nat.le_of_ble_eq_true rfl); (case uhu42 => exact Nat.le_of_ble_eq_true rfl); (case uhk42 => first | assumption | exact rfl); (case uB42 => k_asm); (case uF42 => k_asm); (case uX42 => k_asm); (case uN42 => k_asm); (case uT42 => k_asm); (case uAp42 => first | assumption | (repeat' (first | assumption | refine Apart.cons (by first | assumption | exact tb_ltOf (by assumption)) ?_))); (case uP42 => (exact permMidX [_, _, _, _] hX)))
        rintro v6 n6 h6 tk6 F6 N6 Ap8 ⟨r6, tq6, hr6, rfl, e6⟩
        rw [hlen] at e6 ⊢
        obtain ⟨NC, ApC⟩ := toC [_] N6 Ap8 e6 G.hrd
        have hD6 : RepD (T ++ [⟨.nspace, some po⟩]) ((DD.add r6).set po { rpo with ns := rpo.ns ++ [.int (T.length : Nat) tq6], nn := rpo.nn + 1 }) := G.repD.add1 (p := po) rfl hpo (new_is G.wf (by intro p hp; cases hp; exact getElem?_lt hpo) hr6 ⟨_, rfl⟩ (by simp) (fun _ => by rw [hT]; exact ⟨by omega, by rw [show 2 + i - 2 = i by omega]; rfl⟩)) (par_ns hiso rfl rfl)
        have hO1 := List.mem_append_right (TreeD.led w ((DD.add r6).set po { rpo with ns := rpo.ns ++ [.int (T.length : Nat) tq6], nn := rpo.nn + 1 })) (List.mem_append_left rest (ents_e hxo))
        have hO2 := List.mem_append_right (TreeD.led w ((DD.add r6).set po { rpo with ns := rpo.ns ++ [.int (T.length : Nat) tq6], nn := rpo.nn + 1 })) (List.mem_append_left rest (ents_p hxo))
        generalize hY : TreeD.led w ((DD.add r6).set po { rpo with ns := rpo.ns ++ [.int (T.length : Nat) tq6], nn := rpo.nn + 1 }) ++ (RR.ents ++ rest) = Y at NC ApC hO1 hO2
        obtain ⟨q1, q2, q3, q4, q5, q6, q7, q8, q9⟩ := apC_facts ApC
        have q10 := (q9 _ (.head _)).1
        have q11 := (q9 _ (.head _)).2
        try dsimp only at q10 q11
        simp only [List.cons_append, List.nil_append] at NC ApC
        clear N6 Ap8 q9
        repeat' (first | (k_unfold; (try dsimp only)) | ((fail_if_success (with_reducible show wpAny _ _ (call (Value.ref _) _ _) _ _ _)); walk1) | (dsimp only; ((fail_if_success (with_reducible show wpAny _ _ (call (Value.ref _) _ _) _ _ _)); walk1)))
        exact turn_close [_, _, _] (by k_asm) (by repeat' (first | exact Apart.keys (by rfl) ApC | refine Apart.cons (by first | assumption | exact tb_ltOf (by assumption)) ?_)) (by k_asm) hY.symm hT hw1 hw2 G hD6 G.htr (by intro p hp; cases hp; exact ⟨_, hpo, by rw [hko]; rfl⟩) (by simp) rfl (hxpo.append (one_int _ _)) (by dsimp only; rw [List.getD_eq_getElem?_getD, hPo]; rfl) (by assumption) (by rw [inners_append]; simpa [Kd.inner] using hI) (by intro y e1 e2; have g0 : y ≠ "parent" := by { rintro rfl; exact absurd e2 (by decide) }; have g1 : y ≠ "way" := by { rintro rfl; exact absurd e2 (by decide) }; have g2 : y ≠ "owner" := by { rintro rfl; exact absurd e2 (by decide) }; have g3 : y ≠ "path" := by { rintro rfl; exact absurd e2 (by decide) }; have g4 : y ≠ "node" := by { rintro rfl; exact absurd e2 (by decide) }; have g5 : y ≠ "kind" := by { rintro rfl; exact absurd e2 (by decide) }; simp only [if_neg e1, if_neg g0, if_neg g1, if_neg g2, if_neg g3, if_neg g4, if_neg g5, e2, Bool.false_eq_true, if_false])
    · obtain ⟨xp, pap, hxp, hPp, hxkp, hxpp, hplp, hlp⟩ := G.ent hpp
      obtain ⟨rpp, hrpp, hisp⟩ := G.repD.get hpp
      have hp1 := hX4 _ (RowsD.mem_e hxp)
      have hp2 := hX4 _ (RowsD.mem_p hxp)
      have hp3 := RowsD.at hxp
      have hplp' : xp.path.length ≤ 12 := by omega
      have N9 : News _ _ _ ((I, o) :: (src, srcO w0 w1 wa wb nv) :: (inn, listOf ivs.toArray ni) :: X) := News_subN (by k_asm) (by intro q hq; simp only [List.mem_cons, List.mem_append, List.not_mem_nil, or_false] at hq ⊢; rcases hq with hq | hq | hq | hq <;> simp [hq])
      have Ap9 : Apart ((I, o) :: (src, srcO w0 w1 wa wb nv) :: (inn, listOf ivs.toArray ni) :: X) := Apart.keys (by rfl) Ap6
      have hlen : DD.rows.length = T.length := G.repD.len
      have hz9 : DD.rows.length < 1000 := by omega
      have hkz : RR.kvs.length ≤ 1000 := by show (kvsFrom 0 RR.es).length ≤ 1000; rw [kvsFrom_length, G.repR.len]; omega
      have hiz : ivs.length ≤ 1000 := by omega
      repeat' (first | (k_unfold; (try dsimp only)) | ((fail_if_success (with_reducible show wpAny _ _ (call (Value.ref _) _ _) _ _ _)); walk1) | (dsimp only; ((fail_if_success (with_reducible show wpAny _ _ (call (Value.ref _) _ _) _ _ _)); walk1)))
      · (refine' Con.use (Con.tr G.htr (c_add_element1 (D := DD) (p := pp) (rp := rpp) hz9 hrpp (by rw [hisp.kind]; exact inner_parent hkp) (Nat.le_trans (kids_len hisp).1 (by omega)))) ?uhh43 ?uhf43 ?uhdp43 ?uhu43 ?uhk43 ?uB43 ?uF43 ?uX43 ?uN43 ?uT43 ?uAp43 ?uP43 ?_; (case uhh43 => exact rfl); (case uhf43 => exact rfl); (case uhdp43 => exact Nat.le_of_ble_eq_true rfl); (case uhu43 => exact Nat.le_of_ble_eq_true rfl); (case uhk43 => first | assumption | exact rfl); (case uB43 => k_asm); (case uF43 => k_asm); (case uX43 => k_asm); (case uN43 => k_asm); (case uT43 => k_asm); (case uAp43 => first | assumption | (repeat' (first | assumption | refine Apart.cons (by first | assumption | exact tb_ltOf (by assumption)) ?_))); (case uP43 => (exact permMidX [_, _, _] hX)))
        rintro v6 n6 h6 tk6 F6 N6 Ap8 ⟨r6, tq6, hr6, rfl, e6⟩
        rw [hlen] at e6 ⊢
        obtain ⟨NC, ApC⟩ := toC [] N6 Ap8 e6 G.hrd
        have hD6 : RepD (T ++ [⟨.element, some pp⟩]) ((DD.add r6).set pp { rpp with ch := rpp.ch ++ [.int (T.length : Nat) tq6], cn := rpp.cn + 1 }) := G.repD.add1 (p := pp) rfl hpp (new_is G.wf (by intro p hp; cases hp; exact getElem?_lt hpp) hr6 ⟨_, rfl⟩ (by simp) (by simp)) (par_child hisp rfl rfl)
        have hO2 := List.mem_append_right (TreeD.led w ((DD.add r6).set pp { rpp with ch := rpp.ch ++ [.int (T.length : Nat) tq6], cn := rpp.cn + 1 })) (List.mem_append_left rest (ents_p hxp))
        generalize hY : TreeD.led w ((DD.add r6).set pp { rpp with ch := rpp.ch ++ [.int (T.length : Nat) tq6], cn := rpp.cn + 1 }) ++ (RR.ents ++ rest) = Y at NC ApC hO2
        obtain ⟨q1, q2, q3, q4, q5, q6, q7, q8, q9⟩ := apC_facts ApC
        simp only [List.cons_append, List.nil_append] at NC ApC
        clear N6 Ap8 q9
        repeat' (first | (k_unfold; (try dsimp only)) | ((fail_if_success (with_reducible show wpAny _ _ (call (Value.ref _) _ _) _ _ _)); walk1) | (dsimp only; ((fail_if_success (with_reducible show wpAny _ _ (call (Value.ref _) _ _) _ _ _)); walk1)))
        exact turn_close [_, _] (by k_asm) (by repeat' (first | exact Apart.keys (by rfl) ApC | refine Apart.cons (by first | assumption | exact tb_ltOf (by assumption)) ?_)) (by k_asm) hY.symm hT hw1 hw2 G hD6 G.htr (by intro p hp; cases hp; exact ⟨_, hpp, hkp⟩) (by simp) rfl (hxpp.append (one_int _ _)) (by dsimp only; rw [List.getD_eq_getElem?_getD, hPp]; rfl) (by assumption) (by rw [inners_append]; exact hI.append (one_int _ _)) (by intro y e1 e2; have g0 : y ≠ "parent" := by { rintro rfl; exact absurd e2 (by decide) }; have g1 : y ≠ "way" := by { rintro rfl; exact absurd e2 (by decide) }; have g2 : y ≠ "owner" := by { rintro rfl; exact absurd e2 (by decide) }; have g3 : y ≠ "path" := by { rintro rfl; exact absurd e2 (by decide) }; have g4 : y ≠ "node" := by { rintro rfl; exact absurd e2 (by decide) }; have g5 : y ≠ "kind" := by { rintro rfl; exact absurd e2 (by decide) }; simp only [if_neg e1, if_neg g0, if_neg g1, if_neg g2, if_neg g3, if_neg g4, if_neg g5, e2, Bool.false_eq_true, if_false])
      · (refine' Con.use (Con.tr G.htr (c_add_text1 (D := DD) (p := pp) (rp := rpp) hz9 hrpp (by rw [hisp.kind]; exact inner_parent hkp) (Nat.le_trans (kids_len hisp).1 (by omega)))) ?uhh44 ?uhf44 ?uhdp44 ?uhu44 ?uhk44 ?uB44 ?uF44 ?uX44 ?uN44 ?uT44 ?uAp44 ?uP44 ?_; (case uhh44 => exact rfl); (case uhf44 => exact rfl); (case uhdp44 => exact Nat.le_of_ble_eq_true rfl); (case uhu44 => exact Nat.le_of_ble_eq_true rfl); (case uhk44 => first | assumption | exact rfl); (case uB44 => k_asm); (case uF44 => k_asm); (case uX44 => k_asm); (case uN44 => k_asm); (case uT44 => k_asm); (case uAp44 => first | assumption | (repeat' (first | assumption | refine Apart.cons (by first | assumption | exact tb_ltOf (by assumption)) ?_))); (case uP44 => (exact permMidX [_, _, _] hX)))
        rintro v6 n6 h6 tk6 F6 N6 Ap8 ⟨r6, tq6, hr6, rfl, e6⟩
        rw [hlen] at e6 ⊢
        obtain ⟨NC, ApC⟩ := toC [] N6 Ap8 e6 G.hrd
        have hD6 : RepD (T ++ [⟨.text, some pp⟩]) ((DD.add r6).set pp { rpp with ch := rpp.ch ++ [.int (T.length : Nat) tq6], cn := rpp.cn + 1 }) := G.repD.add1 (p := pp) rfl hpp (new_is G.wf (by intro p hp; cases hp; exact getElem?_lt hpp) hr6 ⟨_, rfl⟩ (by simp) (by simp)) (par_child hisp rfl rfl)
        have hO2 := List.mem_append_right (TreeD.led w ((DD.add r6).set pp { rpp with ch := rpp.ch ++ [.int (T.length : Nat) tq6], cn := rpp.cn + 1 })) (List.mem_append_left rest (ents_p hxp))
        generalize hY : TreeD.led w ((DD.add r6).set pp { rpp with ch := rpp.ch ++ [.int (T.length : Nat) tq6], cn := rpp.cn + 1 }) ++ (RR.ents ++ rest) = Y at NC ApC hO2
        obtain ⟨q1, q2, q3, q4, q5, q6, q7, q8, q9⟩ := apC_facts ApC
        simp only [List.cons_append, List.nil_append] at NC ApC
        clear N6 Ap8 q9
        repeat' (first | (k_unfold; (try dsimp only)) | ((fail_if_success (with_reducible show wpAny _ _ (call (Value.ref _) _ _) _ _ _)); walk1) | (dsimp only; ((fail_if_success (with_reducible show wpAny _ _ (call (Value.ref _) _ _) _ _ _)); walk1)))
        exact turn_close [_, _] (by k_asm) (by repeat' (first | exact Apart.keys (by rfl) ApC | refine Apart.cons (by first | assumption | exact tb_ltOf (by assumption)) ?_)) (by k_asm) hY.symm hT hw1 hw2 G hD6 G.htr (by intro p hp; cases hp; exact ⟨_, hpp, hkp⟩) (by simp) rfl (hxpp.append (one_int _ _)) (by dsimp only; rw [List.getD_eq_getElem?_getD, hPp]; rfl) (by assumption) (by rw [inners_append]; simpa [Kd.inner] using hI) (by intro y e1 e2; have g0 : y ≠ "parent" := by { rintro rfl; exact absurd e2 (by decide) }; have g1 : y ≠ "way" := by { rintro rfl; exact absurd e2 (by decide) }; have g2 : y ≠ "owner" := by { rintro rfl; exact absurd e2 (by decide) }; have g3 : y ≠ "path" := by { rintro rfl; exact absurd e2 (by decide) }; have g4 : y ≠ "node" := by { rintro rfl; exact absurd e2 (by decide) }; have g5 : y ≠ "kind" := by { rintro rfl; exact absurd e2 (by decide) }; simp only [if_neg e1, if_neg g0, if_neg g1, if_neg g2, if_neg g3, if_neg g4, if_neg g5, e2, Bool.false_eq_true, if_false])
      · (refine' Con.use (Con.tr G.htr (c_add_comment1 (D := DD) (p := pp) (rp := rpp) hz9 hrpp (by rw [hisp.kind]; exact inner_parent hkp) (Nat.le_trans (kids_len hisp).1 (by omega)))) ?uhh45 ?uhf45 ?uhdp45 ?uhu45 ?uhk45 ?uB45 ?uF45 ?uX45 ?uN45 ?uT45 ?uAp45 ?uP45 ?_; (case uhh45 => exact rfl); (case uhf45 => exact rfl); (case uhdp45 => exact Nat.le_of_ble_eq_true rfl); (case uhu45 => exact Nat.le_of_ble_eq_true rfl); (case uhk45 => first | assumption | exact rfl); (case uB45 => k_asm); (case uF45 => k_asm); (case uX45 => k_asm); (case uN45 => k_asm); (case uT45 => k_asm); (case uAp45 => first | assumption | (repeat' (first | assumption | refine Apart.cons (by first | assumption | exact tb_ltOf (by assumption)) ?_))); (case uP45 => (exact permMidX [_, _, _] hX)))
        rintro v6 n6 h6 tk6 F6 N6 Ap8 ⟨r6, tq6, hr6, rfl, e6⟩
        rw [hlen] at e6 ⊢
        obtain ⟨NC, ApC⟩ := toC [] N6 Ap8 e6 G.hrd
        have hD6 : RepD (T ++ [⟨.comment, some pp⟩]) ((DD.add r6).set pp { rpp with ch := rpp.ch ++ [.int (T.length : Nat) tq6], cn := rpp.cn + 1 }) := G.repD.add1 (p := pp) rfl hpp (new_is G.wf (by intro p hp; cases hp; exact getElem?_lt hpp) hr6 ⟨_, rfl⟩ (by simp) (by simp)) (par_child hisp rfl rfl)
        have hO2 := List.mem_append_right (TreeD.led w ((DD.add r6).set pp { rpp with ch := rpp.ch ++ [.int (T.length : Nat) tq6], cn := rpp.cn + 1 })) (List.mem_append_left rest (ents_p hxp))
        generalize hY : TreeD.led w ((DD.add r6).set pp { rpp with ch := rpp.ch ++ [.int (T.length : Nat) tq6], cn := rpp.cn + 1 }) ++ (RR.ents ++ rest) = Y at NC ApC hO2
        obtain ⟨q1, q2, q3, q4, q5, q6, q7, q8, q9⟩ := apC_facts ApC
        simp only [List.cons_append, List.nil_append] at NC ApC
        clear N6 Ap8 q9
        repeat' (first | (k_unfold; (try dsimp only)) | ((fail_if_success (with_reducible show wpAny _ _ (call (Value.ref _) _ _) _ _ _)); walk1) | (dsimp only; ((fail_if_success (with_reducible show wpAny _ _ (call (Value.ref _) _ _) _ _ _)); walk1)))
        exact turn_close [_, _] (by k_asm) (by repeat' (first | exact Apart.keys (by rfl) ApC | refine Apart.cons (by first | assumption | exact tb_ltOf (by assumption)) ?_)) (by k_asm) hY.symm hT hw1 hw2 G hD6 G.htr (by intro p hp; cases hp; exact ⟨_, hpp, hkp⟩) (by simp) rfl (hxpp.append (one_int _ _)) (by dsimp only; rw [List.getD_eq_getElem?_getD, hPp]; rfl) (by assumption) (by rw [inners_append]; simpa [Kd.inner] using hI) (by intro y e1 e2; have g0 : y ≠ "parent" := by { rintro rfl; exact absurd e2 (by decide) }; have g1 : y ≠ "way" := by { rintro rfl; exact absurd e2 (by decide) }; have g2 : y ≠ "owner" := by { rintro rfl; exact absurd e2 (by decide) }; have g3 : y ≠ "path" := by { rintro rfl; exact absurd e2 (by decide) }; have g4 : y ≠ "node" := by { rintro rfl; exact absurd e2 (by decide) }; have g5 : y ≠ "kind" := by { rintro rfl; exact absurd e2 (by decide) }; simp only [if_neg e1, if_neg g0, if_neg g1, if_neg g2, if_neg g3, if_neg g4, if_neg g5, e2, Bool.false_eq_true, if_false])
      · (refine' Con.use (Con.tr G.htr (c_add_instruction1 (D := DD) (p := pp) (rp := rpp) hz9 hrpp (by rw [hisp.kind]; exact inner_parent hkp) (Nat.le_trans (kids_len hisp).1 (by omega)))) ?uhh46 ?uhf46 ?uhdp46 ?uhu46 ?uhk46 ?uB46 ?uF46 ?uX46 ?uN46 ?uT46 ?uAp46 ?uP46 ?_; (case uhh46 => exact rfl); (case uhf46 => exact rfl); (case uhdp46 => exact Nat.le_of_ble_eq_true rfl); (case uhu46 => exact Nat.le_of_ble_eq_true rfl); (case uhk46 => first | assumption | exact rfl); (case uB46 => k_asm); (case uF46 => k_asm); (case uX46 => k_asm); (case uN46 => k_asm); (case uT46 => k_asm); (case uAp46 => first | assumption | (repeat' (first | assumption | refine Apart.cons (by first | assumption | exact tb_ltOf (by assumption)) ?_))); (case uP46 => (exact permMidX [_, _, _] hX)))
        rintro v6 n6 h6 tk6 F6 N6 Ap8 ⟨r6, tq6, hr6, rfl, e6⟩
        rw [hlen] at e6 ⊢
        obtain ⟨NC, ApC⟩ := toC [] N6 Ap8 e6 G.hrd
        have hD6 : RepD (T ++ [⟨.instruction, some pp⟩]) ((DD.add r6).set pp { rpp with ch := rpp.ch ++ [.int (T.length : Nat) tq6], cn := rpp.cn + 1 }) := G.repD.add1 (p := pp) rfl hpp (new_is G.wf (by intro p hp; cases hp; exact getElem?_lt hpp) hr6 ⟨_, rfl⟩ (by simp) (by simp)) (par_child hisp rfl rfl)
        have hO2 := List.mem_append_right (TreeD.led w ((DD.add r6).set pp { rpp with ch := rpp.ch ++ [.int (T.length : Nat) tq6], cn := rpp.cn + 1 })) (List.mem_append_left rest (ents_p hxp))
        generalize hY : TreeD.led w ((DD.add r6).set pp { rpp with ch := rpp.ch ++ [.int (T.length : Nat) tq6], cn := rpp.cn + 1 }) ++ (RR.ents ++ rest) = Y at NC ApC hO2
        obtain ⟨q1, q2, q3, q4, q5, q6, q7, q8, q9⟩ := apC_facts ApC
        simp only [List.cons_append, List.nil_append] at NC ApC
        clear N6 Ap8 q9
        repeat' (first | (k_unfold; (try dsimp only)) | ((fail_if_success (with_reducible show wpAny _ _ (call (Value.ref _) _ _) _ _ _)); walk1) | (dsimp only; ((fail_if_success (with_reducible show wpAny _ _ (call (Value.ref _) _ _) _ _ _)); walk1)))
        exact turn_close [_, _] (by k_asm) (by repeat' (first | exact Apart.keys (by rfl) ApC | refine Apart.cons (by first | assumption | exact tb_ltOf (by assumption)) ?_)) (by k_asm) hY.symm hT hw1 hw2 G hD6 G.htr (by intro p hp; cases hp; exact ⟨_, hpp, hkp⟩) (by simp) rfl (hxpp.append (one_int _ _)) (by dsimp only; rw [List.getD_eq_getElem?_getD, hPp]; rfl) (by assumption) (by rw [inners_append]; simpa [Kd.inner] using hI) (by intro y e1 e2; have g0 : y ≠ "parent" := by { rintro rfl; exact absurd e2 (by decide) }; have g1 : y ≠ "way" := by { rintro rfl; exact absurd e2 (by decide) }; have g2 : y ≠ "owner" := by { rintro rfl; exact absurd e2 (by decide) }; have g3 : y ≠ "path" := by { rintro rfl; exact absurd e2 (by decide) }; have g4 : y ≠ "node" := by { rintro rfl; exact absurd e2 (by decide) }; have g5 : y ≠ "kind" := by { rintro rfl; exact absurd e2 (by decide) }; simp only [if_neg e1, if_neg g0, if_neg g1, if_neg g2, if_neg g3, if_neg g4, if_neg g5, e2, Bool.false_eq_true, if_false])
      · (refine' Con.use (Con.tr G.htr (c_set_attribute (D := DD) (p := po) (rp := rpo) hz9 hrpo (by rw [hiso.kind, hko]; rfl) hiso.at_ (Nat.le_trans (kids_len hiso).2.1 (by omega)) (att_new G.repD hT (by omega)))) ?uhh47 ?uhf47 ?uhdp47 ?uhu47 ?uhk47 ?uB47 ?uF47 ?uX47 ?uN47 ?uT47 ?uAp47 ?uP47 ?_; (case uhh47 => exact rfl); (case uhf47 => exact rfl); (case uhdp47 => exact Nat.le_of_ble_eq_true rfl); (case uhu47 => exact Nat.le_of_ble_eq_true rfl); (case uhk47 => first | assumption | exact rfl); (case uB47 => k_asm); (case uF47 => k_asm); (case uX47 => k_asm); (case uN47 => k_asm); (case uT47 => k_asm); (case uAp47 => first | assumption | (repeat' (first | assumption | refine Apart.cons (by first | assumption | exact tb_ltOf (by assumption)) ?_))); (case uP47 => (exact permMidX [_, _, _] hX)))
        rintro v6 n6 h6 tk6 F6 N6 Ap8 ⟨r6, tq6, hr6, rfl, e6⟩
        rw [hlen] at e6 ⊢
        obtain ⟨NC, ApC⟩ := toC [] N6 Ap8 e6 G.hrd
        have hD6 : RepD (T ++ [⟨.attribute, some po⟩]) ((DD.add r6).set po { rpo with at_ := rpo.at_ ++ [.int (T.length : Nat) tq6], an := rpo.an + 1 }) := G.repD.add1 (p := po) rfl hpo (new_is G.wf (by intro p hp; cases hp; exact getElem?_lt hpo) hr6 ⟨_, rfl⟩ (fun _ => by rw [hT]; exact ⟨by omega, rfl, by rw [show 2 + i - 2 = i by omega]; rfl⟩) (by simp)) (par_att hiso rfl rfl)
        have hO1 := List.mem_append_right (TreeD.led w ((DD.add r6).set po { rpo with at_ := rpo.at_ ++ [.int (T.length : Nat) tq6], an := rpo.an + 1 })) (List.mem_append_left rest (ents_e hxo))
        have hO2 := List.mem_append_right (TreeD.led w ((DD.add r6).set po { rpo with at_ := rpo.at_ ++ [.int (T.length : Nat) tq6], an := rpo.an + 1 })) (List.mem_append_left rest (ents_p hxo))
        generalize hY : TreeD.led w ((DD.add r6).set po { rpo with at_ := rpo.at_ ++ [.int (T.length : Nat) tq6], an := rpo.an + 1 }) ++ (RR.ents ++ rest) = Y at NC ApC hO1 hO2
        obtain ⟨q1, q2, q3, q4, q5, q6, q7, q8, q9⟩ := apC_facts ApC
        simp only [List.cons_append, List.nil_append] at NC ApC
        clear N6 Ap8 q9
        repeat' (first | (k_unfold; (try dsimp only)) | ((fail_if_success (with_reducible show wpAny _ _ (call (Value.ref _) _ _) _ _ _)); walk1) | (dsimp only; ((fail_if_success (with_reducible show wpAny _ _ (call (Value.ref _) _ _) _ _ _)); walk1)))
        exact turn_close [_, _] (by k_asm) (by repeat' (first | exact Apart.keys (by rfl) ApC | refine Apart.cons (by first | assumption | exact tb_ltOf (by assumption)) ?_)) (by k_asm) hY.symm hT hw1 hw2 G hD6 G.htr (by intro p hp; cases hp; exact ⟨_, hpo, by rw [hko]; rfl⟩) (by simp) rfl (hxpo.append (one_int _ _)) (by dsimp only; rw [List.getD_eq_getElem?_getD, hPo]; rfl) (by assumption) (by rw [inners_append]; simpa [Kd.inner] using hI) (by intro y e1 e2; have g0 : y ≠ "parent" := by { rintro rfl; exact absurd e2 (by decide) }; have g1 : y ≠ "way" := by { rintro rfl; exact absurd e2 (by decide) }; have g2 : y ≠ "owner" := by { rintro rfl; exact absurd e2 (by decide) }; have g3 : y ≠ "path" := by { rintro rfl; exact absurd e2 (by decide) }; have g4 : y ≠ "node" := by { rintro rfl; exact absurd e2 (by decide) }; have g5 : y ≠ "kind" := by { rintro rfl; exact absurd e2 (by decide) }; simp only [if_neg e1, if_neg g0, if_neg g1, if_neg g2, if_neg g3, if_neg g4, if_neg g5, e2, Bool.false_eq_true, if_false])
      · (refine' Con.use (Con.tr G.htr (c_add_namespace (D := DD) (p := po) (rp := rpo) hz9 hrpo (by rw [hiso.kind, hko]; rfl) hiso.ns (Nat.le_trans (kids_len hiso).2.2 (by omega)) (nsp_new G.repD hT (by omega)))) ?uhh48 ?uhf48 ?uhdp48 ?uhu48 ?uhk48 ?uB48 ?uF48 ?uX48 ?uN48 ?uT48 ?uAp48 ?uP48 ?_; (case uhh48 => exact rfl); (case uhf48 => exact rfl); (case uhdp48 => exact Nat.le_of_ble_eq_true rfl); (case uhu48 => exact Nat.le_of_ble_eq_true rfl); (case uhk48 => first | assumption | exact rfl); (case uB48 => k_asm); (case uF48 => k_asm); (case uX48 => k_asm); (case uN48 => k_asm); (case uT48 => k_asm); (case uAp48 => first | assumption | (repeat' (first | assumption | refine Apart.cons (by first | assumption | exact tb_ltOf (by assumption)) ?_))); (case uP48 => (exact permMidX [_, _, _] hX)))
        rintro v6 n6 h6 tk6 F6 N6 Ap8 ⟨r6, tq6, hr6, rfl, e6⟩
        rw [hlen] at e6 ⊢
        obtain ⟨NC, ApC⟩ := toC [] N6 Ap8 e6 G.hrd
        have hD6 : RepD (T ++ [⟨.nspace, some po⟩]) ((DD.add r6).set po { rpo with ns := rpo.ns ++ [.int (T.length : Nat) tq6], nn := rpo.nn + 1 }) := G.repD.add1 (p := po) rfl hpo (new_is G.wf (by intro p hp; cases hp; exact getElem?_lt hpo) hr6 ⟨_, rfl⟩ (by simp) (fun _ => by rw [hT]; exact ⟨by omega, by rw [show 2 + i - 2 = i by omega]; rfl⟩)) (par_ns hiso rfl rfl)
        have hO1 := List.mem_append_right (TreeD.led w ((DD.add r6).set po { rpo with ns := rpo.ns ++ [.int (T.length : Nat) tq6], nn := rpo.nn + 1 })) (List.mem_append_left rest (ents_e hxo))
        have hO2 := List.mem_append_right (TreeD.led w ((DD.add r6).set po { rpo with ns := rpo.ns ++ [.int (T.length : Nat) tq6], nn := rpo.nn + 1 })) (List.mem_append_left rest (ents_p hxo))
        generalize hY : TreeD.led w ((DD.add r6).set po { rpo with ns := rpo.ns ++ [.int (T.length : Nat) tq6], nn := rpo.nn + 1 }) ++ (RR.ents ++ rest) = Y at NC ApC hO1 hO2
        obtain ⟨q1, q2, q3, q4, q5, q6, q7, q8, q9⟩ := apC_facts ApC
        simp only [List.cons_append, List.nil_append] at NC ApC
        clear N6 Ap8 q9
        repeat' (first | (k_unfold; (try dsimp only)) | ((fail_if_success (with_reducible show wpAny _ _ (call (Value.ref _) _ _) _ _ _)); walk1) | (dsimp only; ((fail_if_success (with_reducible show wpAny _ _ (call (Value.ref _) _ _) _ _ _)); walk1)))
        exact turn_close [_, _] (by k_asm) (by repeat' (first | exact Apart.keys (by rfl) ApC | refine Apart.cons (by first | assumption | exact tb_ltOf (by assumption)) ?_)) (by k_asm) hY.symm hT hw1 hw2 G hD6 G.htr (by intro p hp; cases hp; exact ⟨_, hpo, by rw [hko]; rfl⟩) (by simp) rfl (hxpo.append (one_int _ _)) (by dsimp only; rw [List.getD_eq_getElem?_getD, hPo]; rfl) (by assumption) (by rw [inners_append]; simpa [Kd.inner] using hI) (by intro y e1 e2; have g0 : y ≠ "parent" := by { rintro rfl; exact absurd e2 (by decide) }; have g1 : y ≠ "way" := by { rintro rfl; exact absurd e2 (by decide) }; have g2 : y ≠ "owner" := by { rintro rfl; exact absurd e2 (by decide) }; have g3 : y ≠ "path" := by { rintro rfl; exact absurd e2 (by decide) }; have g4 : y ≠ "node" := by { rintro rfl; exact absurd e2 (by decide) }; have g5 : y ≠ "kind" := by { rintro rfl; exact absurd e2 (by decide) }; simp only [if_neg e1, if_neg g0, if_neg g1, if_neg g2, if_neg g3, if_neg g4, if_neg g5, e2, Bool.false_eq_true, if_false])
  · intro u n5 h5 tk5 hS F7 N7
    obtain ⟨T, hT, DD, RR, PP, ivs, ni, y0, y1, ya, yb, e5, Ap5, hy1, hy2, G, hI⟩ := hS
    repeat' (first | (k_unfold; (try dsimp only)) | ((fail_if_success (with_reducible show wpAny _ _ (call (Value.ref _) _ _) _ _ _)); walk1) | (dsimp only; ((fail_if_success (with_reducible show wpAny _ _ (call (Value.ref _) _ _) _ _ _)); walk1)))
    subst e5
    have Ap6 := fun (l : Addr) (o : Obj) (hl : ∀ p ∈ (src, srcO y0 y1 ya yb nv) :: (inn, listOf ivs.toArray ni) :: (DD.led w ++ (RR.led ++ rest)), @LT.lt Nat _ p.1 l) => Apart.cons (o := o) hl Ap5
    refine ret _ _ _ _ (by k_asm) (News_subN (by k_asm) ?_) ((Ap6 _ { cls := .type "tuple", data := .seq #[.ref D.tr, .ref d1] } (by assumption)).sub ?_) ⟨_, _, _, T, DD, RR, PP, y0, y1, ya, yb, rfl, rfl, hy1, hy2, by omega, by omega, G, lo5⟩
    · intro q hq
      simp only [List.mem_cons] at hq ⊢
      rcases hq with hq | hq | hq <;> simp [hq]
    · exact .cons_cons _ (.cons_cons _ (.cons _ (.refl _)))
end
/-! Comp -/
section
open PySem PySem.W PyProof.Rows PySem.Spec PySem.Calls PyProof.Rows.LCg PyProof.Rows.LCt
section
variable {prog : Program} {w : World} {A : Around} {E : Value → Shared → Prop} {s : Shared} {h₀ : Heap} {L : Addr} {m : Str → Option Value} {env : Env}
/-- a turn of a comprehension leaves the ledger as it is -/
def CEnd (h₀ : Heap) (L : Addr) (m : Str → Option Value) (s₁ : Shared) (l : Led) (R : Value → Prop) (y : Value) (s₂ : Shared) : Prop :=
  ∃ h' tk', s₂ = { s₁ with heap := h', toks := tk' } ∧ Fr h₀ L h' m ∧ News h₀ L h' l ∧ R y
theorem compT_inv {ct elt : Expr} {x : Str} {scope : Scope} {cl : List (Str × Addr)} {S : Led → Prop} {P : Nat → Value → Prop} {Fin : List Value → Led → Prop} {base : Led} (K : Nat → List Value → Prop) (hS : S base)
    (turn : ∀ i v ys I oI C oC D m₂ h tk (E' : Value → Shared → Prop), P i v → K i ys → NsObj oC m₂ → m₂ x = some v → Fr h₀ L h m → News h₀ L h ((I, oI) :: (C, oC) :: (D, lst ys) :: base) → @Ne Nat I C → @Ne Nat I D → @Ne Nat C D → (∀ p ∈ base, p.1 ≠ I ∧ p.1 ≠ C ∧ p.1 ≠ D) →
      wpAny (model prog w) A (isTrue ct (compEnvC scope cl C env) (eval ct (compEnvC scope cl C env))) (fun ok s' => if ok = true then
        wpAny (model prog w) A (eval elt (compEnvC scope cl C env)) (CEnd h₀ L m { s with heap := h, toks := tk } ((I, oI) :: (C, oC) :: (D, lst ys) :: base) (fun y => K (i + 1) (ys ++ [y]))) E' s'
        else CEnd h₀ L m { s with heap := h, toks := tk } ((I, oI) :: (C, oC) :: (D, lst ys) :: base) (fun _ => K (i + 1) ys) Value.none s') E' { s with heap := h, toks := tk }) :
    ∀ (k i : Nat) (ys : List Value), K i ys → (∀ ys, K (i + k) ys → Fin ys base) → CompRestT prog w A h₀ L m env ct elt x scope cl s S P Fin k i ys base
  | 0, i, ys, hk, fin => CompRestT.zero (fin ys hk)
  | k + 1, i, ys, hk, fin => by
    refine CompRestT.succ fun v I oI C oC D m₂ h tk E' hP hC hx F N off ne => ?_
    have go := fun ys hk => compT_inv K hS turn k (i + 1) ys hk (fun ys hy => fin ys (by rw [show i + (k + 1) = i + 1 + k by omega]; exact hy))
    refine wpAny_mono (turn i v ys I oI C oC D m₂ h tk E' hP hk hC hx F N ne.1 ne.2.1 ne.2.2 off.mem) (fun ok s' hok => ?_) fun _ _ e => e
    cases ok with
    | true =>
      simp only [if_true] at hok ⊢
      refine wpAny_mono hok (fun y s₂ hy => ?_) fun _ _ e => e
      obtain ⟨h', tk', rfl, F', N', r⟩ := hy
      exact ⟨h', tk', base, rfl, F', N', off, hS, go _ r⟩
    | false =>
      simp only [Bool.false_eq_true, if_false] at hok ⊢
      obtain ⟨h', tk', rfl, F', N', r⟩ := hok
      exact ⟨h', tk', base, rfl, F', N', off, hS, go _ r⟩
/-- the source of a comprehension: a dict of ints of the ledger -/
def SrcD (prog : Program) (w : World) (A : Around) (h₀ : Heap) (L : Addr) (m : Str → Option Value) (env : Env) (ct elt : Expr) (x : Str) (scope : Scope) (cl : List (Str × Addr)) (Fin : Shared → List Value → Led → Prop) (xv : Value) (s₁ : Shared) : Prop :=
  ∃ (d : Addr) (od : Obj) (kvs : List (Int × Value)) (base : Led), xv = .ref d ∧ A.handled = none ∧ Fr h₀ L s₁.heap m ∧ News h₀ L s₁.heap base ∧ (d, od) ∈ base ∧ od.IsDictOf (intKind prog w) kvs ∧ (d == sysModules) = false ∧ kvs.length ≤ sizeLine ∧
    ∀ s₂ : Shared, (∃ h, s₂ = { s₁ with heap := h }) → CompRestT prog w A h₀ L m env ct elt x scope cl s₂ (fun n => (d, od) ∈ n) (fun i v => ∃ k y, kvs[i]? = some (k, y) ∧ (intKind prog w).is k v = true) (Fin s₂) kvs.length 0 [] base
theorem assign_comp_dict {ct elt iter : Expr} {x y : Str} {px py : Pos} {scope : Scope} {cl : List (Str × Addr)} {pos spos : Pos} {Q : Flow → Shared → Prop} (_F₀ : Fr h₀ L s.heap m) (hLe : env.locals = L)
    (hsw : swapsWith (.ListComp elt [⟨.Name x px, iter, [ct], 0⟩] scope pos) (some (.Name y py)) spos.line env = pure true)
    (hclos : closureFor scope env = pure cl) (hcell : ∀ z ∈ scope.names, z.2 ≠ .cell) (hkind : scope.kind = .function)
    (hnames : ∀ z ∈ scope.names, z.2 = .local → scope.names.lookup z.1 = some .local) (hx : scope.names.lookup x = some .local)
    (hy : env.kindOf y = some .local) (hp : (env.scope.kind == .class || (env.scope.kind == .module && env.locals != env.globals)) = false)
    (h : wpAny (model prog w) A (eval iter env) (SrcD prog w A h₀ L m env ct elt x scope cl (fun s₂ => FinA h₀ L m s₂ y Q)) E s)
    (hs : ∀ x, foldedSetIterable iter env x = pure x := by intro _; rfl) :
    wpAny (model prog w) A (exec (.Assign [.Name y py] (.ListComp elt [⟨.Name x px, iter, [ct], 0⟩] scope pos) spos) env) Q E s := by
  subst hLe
  rw [exec_Assign_Name_used _ _ _ _ hsw]
  refine wpAny_bind (wpAny_standAt (wpAny_bind ?_))
  show wpAny _ A (do let _ ← comprehension (.ListComp elt [⟨.Name x px, iter, [ct], 0⟩] scope pos) scope env _ (newList []) false (eval iter env) (some (assign (.Name y py) env))) _ _ s
  refine wpAny_bind (wpAny_mono (wpAny_comprehension_free (use := some (assign (.Name y py) env)) (Q := fun _ s' => Q .next s') rfl hs hclos hkind hnames
    (wpAny_mono h (fun xv s₁ h₁ => ?_) fun _ _ e => e)) (fun _ s' hq => wpAny_pure (wpAny_pure hq)) fun _ _ e => e)
  obtain ⟨d, od, kvs, base, rfl, hh, F, N, hm, ⟨es, ep, hr⟩, lo, hsz, R⟩ := h₁
  have hda : s₁.heap.DictAt (intKind prog w) d kvs ep := ⟨od, es, (N _ hm).1, hr⟩
  have hdl : d < s₁.heap.objs.size := Heap.lt_size (N _ hm).1
  have hne : d ≠ s₁.heap.objs.size := Nat.ne_of_lt hdl
  refine wpAny_pyIter_dict lo hda ?_
  refine block_T (Walks.dictKeys (knd := intKind prog w) hh s₁.heap.objs.size d hne kvs ep) hsz (fun i h hs => by obtain ⟨o, ho, _⟩ := hs.1; exact ⟨o, ho⟩)
    (fun i h h' o nw hs e e' hk N' hS => ⟨hs.1.at fun o1 e1 => by rw [e] at e1; cases e1; exact e', ⟨od, es, (N' _ hS).1, hr⟩⟩) hcell hkind hx
    ⟨⟨_, Heap.get?_push_size _ rfl, rfl, rfl⟩, hda.at' fun o e => Heap.get?_push_of_some _ e⟩ (fun b hb => ?_)
    (F.push _) (fun p hp => ⟨Heap.get?_push_of_some _ (N p hp).1, (N p hp).2⟩) (Nat.ne_of_lt F.ns.lt) (next_is_new F) (fun p hp => Nat.ne_of_lt (Heap.lt_size (N p hp).1)) hm (R _ ⟨_, rfl⟩) ?_
  · show b < (s₁.heap.push _).objs.size
    rw [Heap.size_push]
    rcases List.mem_cons.mp hb with rfl | hb
    · exact Nat.lt_succ_self _
    · rw [List.mem_singleton.mp hb]; exact Nat.lt_succ_of_lt hdl
  · intro D C h' tk m' ys news' F' N' o1 hn hC₀ hD₀ hCL hDL hCD offC fin
    show wpAny _ A (assign (.Name y py) env (.ref D)) _ _ _
    refine wpAny_assign_Name (wpAny_storeName_local hy F'.ns (fun h₂ hn₂ hs₂ => ?_) hp)
    have hL₀ : h₀.get? env.locals = none := Heap.get?_none_of_le F'.above
    have F₂ : Fr h₀ env.locals h₂ (fun z => if z = y then some (.ref D) else m z) := ⟨hn₂, fun b o e => hs₂.extBut b o (fun q => by rw [q, hL₀] at e; cases e) (F'.keep b o e), F'.above⟩
    refine ⟨m', hn.sameBut hs₂ hCL, fun h'' hs'' => fin D h'' _ (F₂.change hs'' hCL hC₀) (fun p hp => ?_) o1⟩
    have z : h₂.get? p.1 = some p.2 := hs₂.extBut _ _ (N' p hp).2.1 (N' p hp).1
    refine ⟨hs''.extBut _ _ ?_ z, (N' p hp).2⟩
    rcases List.mem_cons.mp hp with rfl | hp
    · exact Ne.symm hCD
    · exact offC p hp
end
end
/-! Loose -/
section
open PySem PySem.W PyProof.Rows
theorem IntsAre.eraseIdx {vs : List Value} {ns : List Int} (h : IntsAre vs ns) : ∀ i, IntsAre (vs.eraseIdx i) (ns.eraseIdx i) := by
  induction h with
  | nil => intro i; exact .nil
  | cons _ _ h ih => intro i; cases i with
    | zero => exact h
    | succ i => exact .cons _ _ (ih i)
def loosen (T : List Nd) (g : Nat) (nd : Nd) : List Nd := T.set g ⟨nd.kind, none⟩
theorem loosen_length {T : List Nd} {g : Nat} {nd : Nd} : (loosen T g nd).length = T.length := List.length_set
theorem loosen_get {T : List Nd} {g : Nat} {nd : Nd} (hg : T[g]? = some nd) {i : Nat} {x : Nd} (h : (loosen T g nd)[i]? = some x) : (i = g ∧ x = ⟨nd.kind, none⟩) ∨ (i ≠ g ∧ T[i]? = some x) := by
  unfold loosen at h
  by_cases e : i = g
  · subst e
    rw [List.getElem?_set_self (getElem?_lt hg)] at h
    cases h
    exact .inl ⟨rfl, rfl⟩
  · rw [List.getElem?_set_ne (fun q => e q.symm)] at h
    exact .inr ⟨e, h⟩
theorem kids_loosen {T : List Nd} {g i : Nat} {nd : Nd} (hg : T[g]? = some nd) :
    kids (loosen T g nd) i = (if (nd.par == some i && nd.kind.child) = true then (kids T i).eraseIdx ((kids T i).idxOf (g : Int)) else kids T i) ∧
    atts (loosen T g nd) i = (if (nd.par == some i && nd.kind == .attribute) = true then (atts T i).eraseIdx ((atts T i).idxOf (g : Int)) else atts T i) ∧
    nsps (loosen T g nd) i = (if (nd.par == some i && nd.kind == .nspace) = true then (nsps T i).eraseIdx ((nsps T i).idxOf (g : Int)) else nsps T i) := by
  refine ⟨?_, ?_, ?_⟩
  · have := sel_set (fun nd => nd.par == some i && nd.kind.child) 0 T g nd ⟨nd.kind, none⟩ hg rfl
    rw [Nat.zero_add] at this
    exact this
  · have := sel_set (fun nd => nd.par == some i && nd.kind == .attribute) 0 T g nd ⟨nd.kind, none⟩ hg rfl
    rw [Nat.zero_add] at this
    exact this
  · have := sel_set (fun nd => nd.par == some i && nd.kind == .nspace) 0 T g nd ⟨nd.kind, none⟩ hg rfl
    rw [Nat.zero_add] at this
    exact this
theorem WF.loose {T : List Nd} {g : Nat} {nd : Nd} (W : WF T) (hg : T[g]? = some nd) : WF (loosen T g nd) where
  up := fun i x p hi hp => by
    rcases loosen_get hg hi with ⟨rfl, rfl⟩ | ⟨_, h⟩
    · cases hp
    · exact W.up i x p h hp
  inner := fun i x p hi hp => by
    rcases loosen_get hg hi with ⟨rfl, rfl⟩ | ⟨_, h⟩
    · cases hp
    · obtain ⟨q, hq, hk⟩ := W.inner i x p h hp
      by_cases e : p = g
      · subst e
        rw [hg] at hq
        cases hq
        exact ⟨⟨nd.kind, none⟩, by unfold loosen; rw [List.getElem?_set_self (getElem?_lt hg)], hk⟩
      · exact ⟨q, by unfold loosen; rw [List.getElem?_set_ne (fun q => e q.symm)]; exact hq, hk⟩
theorem RepD.loose {T : List Nd} {D : TreeD} {g p : Nat} {nd ndp : Nd} {rg rp : RowD} (h : RepD T D) (W : WF T) (hg : T[g]? = some nd) (hpar : nd.par = some p) (hp : T[p]? = some ndp) (hrg : D.rows[g]? = some rg) (hrp : D.rows[p]? = some rp) (hnr : nd.kind ≠ .root) :
    RepD (loosen T g nd) ((D.set p (rp.drop rg.kind g (kids T p) (atts T p) (nsps T p))).set g { rg with par := .none }) := by
  have hlt := W.up g nd p hg hpar
  have ig := h.row g nd rg hg hrg
  have ip := h.row p ndp rp hp hrp
  refine ⟨by show ((D.rows.set p _).set g _).length = _; rw [List.length_set, List.length_set, h.len, loosen_length], fun i x r hx hr => ?_⟩
  have hr2 : ((D.rows.set p (rp.drop rg.kind g (kids T p) (atts T p) (nsps T p))).set g { rg with par := .none })[i]? = some r := hr
  obtain ⟨k1, k2, k3⟩ := kids_loosen (i := i) hg
  rcases loosen_get hg hx with ⟨rfl, rfl⟩ | ⟨hne, hx'⟩
  · rw [List.getElem?_set_self (by rw [List.length_set]; exact getElem?_lt hrg)] at hr2
    cases hr2
    have hb : (nd.par == some i) = false := by rw [hpar]; exact beq_false_of_ne (fun e => by cases e; exact Nat.lt_irrefl _ hlt)
    rw [hb] at k1 k2 k3
    simp only [Bool.false_and, Bool.false_eq_true, if_false] at k1 k2 k3
    exact ⟨ig.kind, rfl, k1 ▸ ig.ch, k2 ▸ ig.at_, k3 ▸ ig.ns, ig.attr, ig.nsp⟩
  · rw [List.getElem?_set_ne (fun q => hne q.symm)] at hr2
    by_cases e : i = p
    · subst e
      rw [List.getElem?_set_self (getElem?_lt hrp)] at hr2
      cases hr2
      rw [hp] at hx'
      cases hx'
      have hb : (nd.par == some i) = true := by rw [hpar]; exact beq_self_eq_true _
      rw [hb] at k1 k2 k3
      simp only [Bool.true_and] at k1 k2 k3
      have hk := ig.kind
      by_cases ha : nd.kind = .attribute
      · rw [ha] at hk k1 k2 k3
        have e1 : rp.drop rg.kind g (kids T i) (atts T i) (nsps T i) = { rp with at_ := rp.at_.eraseIdx ((atts T i).idxOf (g : Int)), an := rp.an + 1 } := by rw [hk]; exact if_pos (by decide)
        rw [e1]
        exact ⟨ip.kind, ip.par, k1 ▸ ip.ch, k2 ▸ IntsAre.eraseIdx ip.at_ _, k3 ▸ ip.ns, ip.attr, ip.nsp⟩
      · by_cases hn : nd.kind = .nspace
        · rw [hn] at hk k1 k2 k3
          have e1 : rp.drop rg.kind g (kids T i) (atts T i) (nsps T i) = { rp with ns := rp.ns.eraseIdx ((nsps T i).idxOf (g : Int)), nn := rp.nn + 1 } := by rw [hk]; rfl
          rw [e1]
          exact ⟨ip.kind, ip.par, k1 ▸ ip.ch, k2 ▸ ip.at_, k3 ▸ IntsAre.eraseIdx ip.ns _, ip.attr, ip.nsp⟩
        · have hroot : nd.kind ≠ .root := hnr
          have hc : nd.kind.child = true := by cases hq : nd.kind <;> simp_all [Kd.child]
          have ha2 : (nd.kind == Kd.attribute) = false := beq_false_of_ne ha
          have hn2 : (nd.kind == Kd.nspace) = false := beq_false_of_ne hn
          rw [hc] at k1
          rw [ha2] at k2
          rw [hn2] at k3
          have e1 : rp.drop rg.kind g (kids T i) (atts T i) (nsps T i) = { rp with ch := rp.ch.eraseIdx ((kids T i).idxOf (g : Int)), cn := rp.cn + 1 } := by
            rw [hk]
            cases hq : nd.kind <;> rw [hq] at ha hn hroot <;> first | exact absurd rfl ha | exact absurd rfl hn | exact absurd rfl hroot | rfl
          rw [e1]
          exact ⟨ip.kind, ip.par, k1 ▸ IntsAre.eraseIdx ip.ch _, k2 ▸ ip.at_, k3 ▸ ip.ns, ip.attr, ip.nsp⟩
    · rw [List.getElem?_set_ne (fun q => e q.symm)] at hr2
      have hi := h.row i x r hx' hr2
      have hb : (nd.par == some i) = false := by rw [hpar]; exact beq_false_of_ne (fun q => by cases q; exact e rfl)
      rw [hb] at k1 k2 k3
      simp only [Bool.false_and, Bool.false_eq_true, if_false] at k1 k2 k3
      exact ⟨hi.kind, hi.par, k1 ▸ hi.ch, k2 ▸ hi.at_, k3 ▸ hi.ns, hi.attr, hi.nsp⟩
theorem path_prefix {T : List Nd} {P : List (List Int)} (h : PathsOk T P) (W : WF T) {g : Nat} {vg : List Int} (hg : P[g]? = some vg) : ∀ (n q : Nat) (v : List Int), q < n → P[q]? = some v → (g : Int) ∈ v → ∃ r, v = vg ++ r
  | 0, _, _, h0, _, _ => absurd h0 (Nat.not_lt_zero _)
  | n + 1, q, v, hq, hv, hm => by
    by_cases e : q = g
    · subst e
      rw [hg] at hv
      cases hv
      exact ⟨[], (List.append_nil _).symm⟩
    · have hl : q < T.length := by rw [← h.len]; exact getElem?_lt hv
      have hT : T[q]? = some T[q] := by simp [hl]
      have h1 := h.at_ q T[q] hT
      rw [hv] at h1
      cases hp : T[q].par with
      | none =>
        rw [hp] at h1
        cases h1
        have := List.mem_singleton.mp hm
        omega
      | some p =>
        rw [hp] at h1
        have hlt := W.up q T[q] p hT hp
        have hpl : p < P.length := by rw [h.len]; omega
        have h2 : P[p]? = some P[p] := by simp [hpl]
        have h3 : v = P[p] ++ [(q : Int)] := by
          have h4 : P.getD p [] = P[p] := by rw [List.getD_eq_getElem?_getD, h2, Option.getD_some]
          simp only [Option.some.injEq, h4] at h1
          exact h1
        subst h3
        rcases List.mem_append.mp hm with hm | hm
        · obtain ⟨r, hr⟩ := path_prefix h W hg n p P[p] (by omega) h2 hm
          exact ⟨r ++ [(q : Int)], by rw [← List.append_assoc, ← hr]⟩
        · have := List.mem_singleton.mp hm
          omega
/-- a path behind the removal of g -/
def lv (g d : Nat) (v : List Int) : List Int := if (g : Int) ∈ v then v.drop d else v
theorem getD_at {P : List (List Int)} {p : Nat} {v : List Int} (h : P[p]? = some v) : P.getD p [] = v := by rw [List.getD_eq_getElem?_getD, h, Option.getD_some]
theorem PathsOk.loose {T : List Nd} {P : List (List Int)} {g p : Nat} {nd : Nd} {vg : List Int} (h : PathsOk T P) (W : WF T) (hg : T[g]? = some nd) (hpar : nd.par = some p) (hv : P[g]? = some vg) :
    PathsOk (loosen T g nd) (P.map (lv g (vg.length - 1))) := by
  have hvg := h.at_ g nd hg
  rw [hv, hpar] at hvg
  simp only [Option.some.injEq] at hvg
  refine ⟨by rw [List.length_map, h.len, loosen_length], fun i x hx => ?_⟩
  rw [List.getElem?_map]
  rcases loosen_get hg hx with ⟨rfl, rfl⟩ | ⟨hne, hx'⟩
  · rw [hv]
    show some (lv i (vg.length - 1) vg) = some [(i : Int)]
    have hm : (i : Int) ∈ vg := by rw [hvg]; simp
    have hd : vg.drop (vg.length - 1) = [(i : Int)] := by
      rw [hvg, List.length_append, List.length_singleton, Nat.add_sub_cancel, List.drop_left]
    unfold lv
    rw [if_pos hm, hd]
  · have h1 := h.at_ i x hx'
    rw [h1]
    cases e : x.par with
    | none =>
      show some (lv g (vg.length - 1) [(i : Int)]) = some [(i : Int)]
      unfold lv
      rw [if_neg (by intro hm; have := List.mem_singleton.mp hm; omega)]
    | some q =>
      have hlt := W.up i x q hx' e
      have hql : q < P.length := by rw [h.len]; have := getElem?_lt hx'; omega
      have h2 : P[q]? = some P[q] := by simp [hql]
      have h3 : (P.map (lv g (vg.length - 1)))[q]? = some (lv g (vg.length - 1) P[q]) := by rw [List.getElem?_map, h2]; rfl
      dsimp only
      rw [getD_at h2, getD_at h3]
      show some (lv g (vg.length - 1) (P[q] ++ [(i : Int)])) = _
      unfold lv
      by_cases hm : (g : Int) ∈ P[q]
      · obtain ⟨r, hr⟩ := path_prefix h W hv (q + 1) q P[q] (Nat.lt_succ_self _) h2 hm
        have hle : vg.length - 1 ≤ P[q].length := by rw [hr, List.length_append]; omega
        rw [if_pos hm, if_pos (List.mem_append_left _ hm), List.drop_append_of_le_length hle]
      · rw [if_neg hm, if_neg (by
          intro hq
          rcases List.mem_append.mp hq with hq | hq
          · exact hm hq
          · have := List.mem_singleton.mp hq; omega)]
end
/-! Loose2 -/
section
open PySem PySem.W PyProof.Rows
theorem kvsFrom_set : ∀ {k : Nat} {l : List EntD} {i : Nat} {x x' : EntD}, l[i]? = some x → x'.e = x.e → kvsFrom k (l.set i x') = kvsFrom k l
  | _, [], _, _, _, h, _ => by simp at h
  | k, y :: r, 0, x, x', h, e => by
    simp only [List.getElem?_cons_zero, Option.some.injEq] at h
    subst h
    simp only [List.set_cons_zero, kvsFrom, e]
  | k, y :: r, i + 1, x, x', h, e => by
    have h' : r[i]? = some x := by simpa using h
    simp only [List.set_cons_succ, kvsFrom, kvsFrom_set (k := k + 1) h' e]
/-- an entry with a new path -/
def EntD.put (x : EntD) (p : Addr) (ws : List Value) (c : Nat) : EntD := { x with p := p, path := ws, pn := c }
def RowsD.put (R : RowsD) (i : Nat) (x : EntD) : RowsD := { R with es := R.es.set i x }
theorem put_kvs {R : RowsD} {i : Nat} {x : EntD} {p : Addr} {ws : List Value} {c : Nat} (hx : R.es[i]? = some x) : (R.put i (x.put p ws c)).kvs = R.kvs := kvsFrom_set hx rfl
theorem loose_turn {h₀ h' : Heap} {L K I Dn : Addr} {oK o : Obj} {A rest Y : Led} {R : RowsD} {i : Nat} {x : EntD} {ws : List Value} {c : Nat}
    (Ap : Apart ((K, oK) :: (A ++ (R.led ++ rest)))) (hx : R.es[i]? = some x) (hoff : ∀ p ∈ (K, oK) :: (A ++ (R.led ++ rest)), p.1 ≠ I)
    (hZ : ∀ q ∈ (I, o) :: (K, oK) :: (A ++ (R.led ++ rest)), q ∈ Y) (hD : (Dn, listOf ws.toArray c) ∈ Y) (hlt : ∀ p ∈ (I, o) :: (K, oK) :: (A ++ (R.led ++ rest)), p.1 < Dn)
    (N : News h₀ L h' (upd x.e (listOf [Value.str x.kind x.kt, .ref Dn].toArray x.en) Y)) :
    News h₀ L h' ((I, o) :: (K, oK) :: (A ++ ((R.put i (x.put Dn ws c)).led ++ rest))) ∧ Apart ((K, oK) :: (A ++ ((R.put i (x.put Dn ws c)).led ++ rest))) ∧
      (∀ p ∈ (K, oK) :: (A ++ ((R.put i (x.put Dn ws c)).led ++ rest)), p.1 ≠ I) := by
  have h1 : R.ents.Perm (x.led ++ (R.es.eraseIdx i).flatMap EntD.led) := by
    have := List.Perm.flatMap_right EntD.led (self_perm hx)
    rwa [List.flatMap_cons] at this
  have h2 : (R.put i (x.put Dn ws c)).ents.Perm ((x.put Dn ws c).led ++ (R.es.eraseIdx i).flatMap EntD.led) := by
    have := List.Perm.flatMap_right EntD.led (set_perm (getElem?_lt hx) (x.put Dn ws c))
    rwa [List.flatMap_cons] at this
  have e1 : R.led = (R.rd, R.od) :: R.ents := rfl
  have e2 : (R.put i (x.put Dn ws c)).led = (R.rd, R.od) :: (R.put i (x.put Dn ws c)).ents := rfl
  have e3 : x.led = [(x.e, listOf [.str x.kind x.kt, .ref x.p].toArray x.en), (x.p, listOf x.path.toArray x.pn)] := rfl
  have e4 : (x.put Dn ws c).led = [(x.e, listOf [Value.str x.kind x.kt, .ref Dn].toArray x.en), (Dn, listOf ws.toArray c)] := rfl
  rw [e1] at Ap hoff hZ hlt
  rw [e2]
  generalize R.ents = E1 at *
  generalize (R.put i (x.put Dn ws c)).ents = E2 at *
  generalize (R.es.eraseIdx i).flatMap EntD.led = W at *
  rw [e3] at h1
  rw [e4] at h2
  clear e1 e2 e3 e4
  have m1 : ∀ q, q ∈ E1 ↔ q = (x.e, listOf [.str x.kind x.kt, .ref x.p].toArray x.en) ∨ q = (x.p, listOf x.path.toArray x.pn) ∨ q ∈ W := fun q => by
    rw [h1.mem_iff]; simp
  have m2 : ∀ q, q ∈ E2 ↔ q = (x.e, listOf [Value.str x.kind x.kt, .ref Dn].toArray x.en) ∨ q = (Dn, listOf ws.toArray c) ∨ q ∈ W := fun q => by
    rw [h2.mem_iff]; simp
  have c1 := fun z => perm_count h1 z
  have c2 := fun z => perm_count h2 z
  have A2 : Apart ((x.e, listOf [.str x.kind x.kt, .ref x.p].toArray x.en) :: (x.p, listOf x.path.toArray x.pn) :: (K, oK) :: (A ++ ((R.rd, R.od) :: W ++ rest))) := by
    refine Ap.permK (keys_perm fun z => ?_)
    have := c1 z
    simp only [List.map_cons, List.map_append, List.count_cons, List.count_append, List.map_nil, List.count_nil, List.cons_append] at this ⊢
    omega
  have ne1 := A2.ne
  have hxe : (x.e, listOf [.str x.kind x.kt, .ref x.p].toArray x.en) ∈ (K, oK) :: (A ++ ((R.rd, R.od) :: E1 ++ rest)) := by
    have := (m1 _).mpr (.inl rfl)
    simp [this]
  have hIx : I ≠ x.e := fun e => hoff _ hxe e.symm
  have old : ∀ q ∈ (K, oK) :: (A ++ ((R.rd, R.od) :: W ++ rest)), q ∈ (K, oK) :: (A ++ ((R.rd, R.od) :: E1 ++ rest)) := by
    intro q hq
    have := m1 q
    simp only [List.mem_cons, List.mem_append, List.cons_append] at hq ⊢
    rcases hq with hq | hq | hq | hq | hq
    · simp [hq]
    · simp [hq]
    · simp [hq]
    · simp [this.mpr (.inr (.inr hq))]
    · simp [hq]
  have split2 : ∀ q ∈ (K, oK) :: (A ++ ((R.rd, R.od) :: E2 ++ rest)), q = (x.e, listOf [Value.str x.kind x.kt, .ref Dn].toArray x.en) ∨ q = (Dn, listOf ws.toArray c) ∨ q ∈ (K, oK) :: (A ++ ((R.rd, R.od) :: W ++ rest)) := by
    intro q hq
    have := m2 q
    simp only [List.mem_cons, List.mem_append, List.cons_append] at hq ⊢
    rcases hq with hq | hq | hq | hq | hq
    · simp [hq]
    · simp [hq]
    · simp [hq]
    · rcases this.mp hq with h | h | h
      · exact .inl h
      · exact .inr (.inl h)
      · simp [h]
    · simp [hq]
  have hDx : Dn ≠ x.e := fun e => by
    have := hlt _ (.tail _ hxe)
    rw [e] at this
    exact Nat.lt_irrefl _ this
  have hDI : Dn ≠ I := fun e => by
    have := hlt _ (List.Mem.head _)
    rw [e] at this
    exact Nat.lt_irrefl _ this
  refine ⟨fun q hq => N q ?_, ?_, fun q hq => ?_⟩
  · rcases List.mem_cons.mp hq with rfl | hq
    · exact mem_upd_ne (hZ _ (.head _)) hIx
    · rcases split2 q hq with rfl | rfl | hq
      · exact mem_upd_self (hZ _ (.tail _ hxe))
      · exact mem_upd_ne hD hDx
      · exact mem_upd_ne (hZ _ (.tail _ (old q hq))) (ne1 q (.tail _ hq))
  · have A3 : Apart ((Dn, listOf ws.toArray c) :: (x.e, listOf [.str x.kind x.kt, .ref x.p].toArray x.en) :: (x.p, listOf x.path.toArray x.pn) :: (K, oK) :: (A ++ ((R.rd, R.od) :: W ++ rest))) := by
      refine Apart.cons (fun p hp => ?_) A2
      rcases List.mem_cons.mp hp with rfl | hp
      · exact hlt _ (.tail _ hxe)
      rcases List.mem_cons.mp hp with rfl | hp
      · refine hlt (x.p, listOf x.path.toArray x.pn) (List.mem_cons_of_mem _ ?_)
        have := (m1 (x.p, listOf x.path.toArray x.pn)).mpr (.inr (.inl rfl))
        simp [this]
      · exact hlt _ (.tail _ (old p hp))
    have A4 : Apart ((x.p, listOf x.path.toArray x.pn) :: ((K, oK) :: (A ++ ((R.rd, R.od) :: E2 ++ rest)))) := by
      refine A3.permK (keys_perm fun z => ?_)
      have := c2 z
      simp only [List.map_cons, List.map_append, List.count_cons, List.count_append, List.map_nil, List.count_nil, List.cons_append] at this ⊢
      omega
    exact A4.tl
  · rcases split2 q hq with rfl | rfl | hq
    · exact hIx.symm
    · exact hDI
    · exact hoff q (old q hq)
theorem RepR.put {T : List Nd} {V : List (List Int)} {R : RowsD} {i : Nat} {x : EntD} {p : Addr} {ws : List Value} {c : Nat} {v : List Int} (h : RepR T V R) (hx : R.es[i]? = some x) (hV : V.length = T.length) (hI : IntsAre ws v) :
    RepR T (V.set i v) (R.put i (x.put p ws c)) := by
  refine ⟨by show (R.es.set i _).length = _; rw [List.length_set]; exact h.len, fun j nd y q hj hy hq => ?_⟩
  have hy' : (R.es.set i (x.put p ws c))[j]? = some y := hy
  by_cases e : j = i
  · subst e
    rw [List.getElem?_set_self (getElem?_lt hx)] at hy'
    rw [List.getElem?_set_self (by rw [hV]; exact getElem?_lt hj)] at hq
    cases hy'; cases hq
    obtain ⟨x0, pth, h1, h2, h3, h4⟩ := h.get hV hj
    rw [hx] at h1
    cases h1
    exact ⟨h3, hI⟩
  · rw [List.getElem?_set_ne (fun q => e q.symm)] at hy' hq
    exact h.ent j nd y q hj hy' hq
theorem RepR.loose {T : List Nd} {V : List (List Int)} {R : RowsD} {g : Nat} {nd : Nd} (h : RepR T V R) (hg : T[g]? = some nd) : RepR (loosen T g nd) V R := by
  refine ⟨by rw [loosen_length]; exact h.len, fun j ndj y q hj hy hq => ?_⟩
  rcases loosen_get hg hj with ⟨rfl, rfl⟩ | ⟨_, hj'⟩
  · exact h.ent j nd y q hg hy hq
  · exact h.ent j ndj y q hj' hy hq
/-- the paths while the loop runs -/
def mixV (V : List (List Int)) (g d i : Nat) : List (List Int) := (V.map (lv g d)).take i ++ V.drop i
theorem mixV_length (V : List (List Int)) (g d i : Nat) : (mixV V g d i).length = V.length := by
  unfold mixV
  rw [List.length_append, List.length_take, List.length_drop, List.length_map]; omega
theorem mixV_succ {V : List (List Int)} {g d i : Nat} {v : List Int} (hv : V[i]? = some v) : mixV V g d (i + 1) = (mixV V g d i).set i (lv g d v) := by
  have hl := getElem?_lt hv
  unfold mixV
  apply List.ext_getElem?
  intro j
  rw [List.getElem?_set]
  by_cases e : i = j
  · subst e
    rw [if_pos rfl, if_pos (by rw [List.length_append, List.length_take, List.length_drop, List.length_map]; omega)]
    rw [List.getElem?_append_left (by rw [List.length_take, List.length_map]; omega), List.getElem?_take_of_lt (by omega), List.getElem?_map, hv]
    rfl
  · rw [if_neg e]
    rcases Nat.lt_or_ge j i with h | h
    · rw [List.getElem?_append_left (by rw [List.length_take, List.length_map]; omega), List.getElem?_append_left (by rw [List.length_take, List.length_map]; omega), List.getElem?_take_of_lt (by omega), List.getElem?_take_of_lt h]
    · rw [List.getElem?_append_right (by rw [List.length_take, List.length_map]; omega), List.getElem?_append_right (by rw [List.length_take, List.length_map]; omega), List.getElem?_drop, List.getElem?_drop, List.length_take, List.length_take, List.length_map]
      congr 1
      omega
theorem mixV_same {V : List (List Int)} {g d i : Nat} {v : List Int} (hv : V[i]? = some v) (h : (g : Int) ∉ v) : mixV V g d (i + 1) = mixV V g d i := by
  rw [mixV_succ hv]
  have e : lv g d v = v := by unfold lv; rw [if_neg h]
  rw [e]
  have hl := getElem?_lt hv
  apply List.ext_getElem?
  intro j
  rw [List.getElem?_set]
  by_cases q : i = j
  · rw [if_pos q, if_pos (by rw [mixV_length]; exact hl), ← q]
    unfold mixV
    rw [List.getElem?_append_right (by rw [List.length_take]; omega), List.getElem?_drop, List.length_take, List.length_map, show i + (i - min i V.length) = i by omega, hv]
  · rw [if_neg q]
theorem mixV_all (V : List (List Int)) (g d : Nat) : mixV V g d V.length = V.map (lv g d) := by
  unfold mixV
  rw [List.drop_length, List.append_nil, List.take_of_length_le (by rw [List.length_map]; exact Nat.le_refl _)]
theorem mixV_get {V : List (List Int)} {g d i : Nat} : (mixV V g d i)[i]? = V[i]? := by
  unfold mixV
  rcases Nat.lt_or_ge i V.length with h | h
  · rw [List.getElem?_append_right (by rw [List.length_take]; omega), List.getElem?_drop, List.length_take, List.length_map, show i + (i - min i V.length) = i by omega]
  · rw [List.getElem?_eq_none (by rw [List.length_append, List.length_take, List.length_drop, List.length_map]; omega), List.getElem?_eq_none h]
theorem any_mem {g : Int} {v : List Int} {b : Bool} (h : v.any (· == g) = b) : (g ∈ v) = (b = true) := by
  subst h
  simp
end
/-! C11 -/
section
open PyProof.Rows.LCg PyProof.Rows.LCt
variable {w : World} {t : Tok} {rest : Led}
theorem GW.key {tr rd : Addr} {U : List Nd} {D : TreeD} {R : RowsD} {V : List (List Int)} (G : GW w tr rd U D R V) {i : Nat} {k : Int} {y : Value} (hk : R.kvs[i]? = some (k, y)) :
    ∃ nd x pth, U[i]? = some nd ∧ R.es[i]? = some x ∧ V[i]? = some pth ∧ k = ((i : Nat) : Int) ∧ y = .ref x.e ∧ x.kind = nd.kind.str ∧ IntsAre x.path pth ∧ x.path.length ≤ i + 1 ∧ i < U.length := by
  have hl : i < R.es.length := by
    have := getElem?_lt hk
    have e : R.kvs.length = R.es.length := kvsFrom_length
    omega
  have hu : U[i]? = some (U[i]'(by rw [← G.repR.len]; exact hl)) := by simp
  obtain ⟨x, pth, h1, h2, h3, h4, h5, h6⟩ := G.ent hu
  have h7 := kvsFrom_get (k := 0) h1
  have h8 : R.kvs[i]? = some (((0 + i : Nat) : Int), .ref x.e) := h7
  rw [h8] at hk
  cases hk
  exact ⟨_, x, pth, hu, h1, h2, by rw [Nat.zero_add], rfl, h3, h4, h5, h6⟩
theorem GW.long {tr rd : Addr} {U : List Nd} {D : TreeD} {R : RowsD} {V : List (List Int)} (G : GW w tr rd U D R V) {i : Nat} {nd : Nd} {x : EntD} (hu : U[i]? = some nd) (hx : R.es[i]? = some x) (h : 1 < x.path.length) : ∃ p, nd.par = some p := by
  obtain ⟨x', pth, h1, h2, h3, h4, h5, h6⟩ := G.ent hu
  rw [hx] at h1
  cases h1
  have h7 := G.paths.at_ i nd hu
  rw [h2] at h7
  cases e : nd.par with
  | some p => exact ⟨p, rfl⟩
  | none =>
    rw [e] at h7
    cases h7
    have := h4.length
    simp only [List.length_singleton] at this
    omega
theorem off1_mem {Ld : Addr} {l : Led} (x : Off1 Ld l) : ∀ p ∈ l, p.1 ≠ Ld := by
  induction l with
  | nil => intro p h; cases h
  | cons q r ih =>
    intro p h
    rcases List.mem_cons.mp h with rfl | h
    · exact x.1
    · exact ih x.2 p h
/-- what tree and rows tell the law -/
structure GL (w : World) (tr rd : Addr) (T : List Nd) (D : TreeD) (R : RowsD) (P : List (List Int)) : Prop where
  wf : WF T
  repD : RepD T D
  repR : RepR T P R
  paths : PathsOk T P
  dict : R.od.IsDictOf (intKind PySem.Challenge.rw_xm0664_01.row.prog w) R.kvs
  htr : D.tr = tr
  hrd : R.rd = rd
  root : ∀ (i : Nat) (nd : Nd), T[i]? = some nd → nd.kind = .root → nd.par = none
theorem GW.noroot {tr rd : Addr} {T : List Nd} {D : TreeD} {R : RowsD} {P : List (List Int)} (G : GW w tr rd T D R P) (i : Nat) (nd : Nd) (h : T[i]? = some nd) (hk : nd.kind = .root) : nd.par = none := by
  have := G.only i nd h hk
  cases e : nd.par with
  | none => rfl
  | some p =>
    have := G.wf.up i nd p h e
    omega
theorem GW.toL {tr rd : Addr} {T : List Nd} {D : TreeD} {R : RowsD} {P : List (List Int)} (G : GW w tr rd T D R P) : GL w tr rd T D R P := ⟨G.wf, G.repD, G.repR, G.paths, G.dict, G.htr, G.hrd, G.noroot⟩
theorem at_mem {T : List Nd} {g : Nat} {nd : Nd} (f : Nd → Bool) (hg : T[g]? = some nd) (hf : f nd = true) : (g : Int) ∈ sel f 0 T := by
  have := (sel_mem f 0 T g).mpr ⟨nd, hg, hf⟩
  rw [Nat.zero_add] at this
  exact this
theorem kind_att {k : Kd} (h : (k.str == "attribute") = true) : k = .attribute := by cases k <;> first | rfl | exact absurd h (by decide)
theorem kind_ns {k : Kd} (h : (k.str == "namespace") = true) : k = .nspace := by cases k <;> first | rfl | exact absurd h (by decide)
theorem kind_child {k : Kd} (h : (k.str == "attribute") = false) (h2 : (k.str == "namespace") = false) (hr : k ≠ .root) : k.child = true := by cases k <;> first | rfl | exact absurd rfl hr | exact absurd h (by decide) | exact absurd h2 (by decide)
theorem toK {h₀ h : Heap} {L : Addr} {A B : Led} {k : Addr × Obj} (junk : Led) (N : News h₀ L h (A ++ (junk ++ (k :: B)))) (Ap : Apart (A ++ (junk ++ (k :: B)))) : News h₀ L h (k :: (A ++ B)) ∧ Apart (k :: (A ++ B)) := by
  have A2 : Apart (junk ++ (k :: (A ++ B))) := Ap.permK (keys_perm fun z => by
    simp only [List.map_cons, List.map_append, List.count_cons, List.count_append]
    omega)
  refine ⟨News_subN N fun q hq => ?_, A2.sub (List.sublist_append_right _ _)⟩
  simp only [List.mem_cons, List.mem_append] at hq ⊢
  rcases hq with hq | hq | hq <;> simp [hq]
def StL (w : World) (K : Addr) (oK : Obj) (U : List Nd) (D' : TreeD) (R : RowsD) (V : List (List Int)) (g d : Nat) (rest : Led) (i : Nat) (n : Led) : Prop :=
  ∃ R' : RowsD, n = (K, oK) :: (D'.led w ++ (R'.led ++ rest)) ∧ Apart n ∧ R'.rd = R.rd ∧ R'.od = R.od ∧ R'.kvs = R.kvs ∧ RepR U (mixV V g d i) R'
end
local macro_rules | `(tactic| walk_at "compareOp In int ref") => `(tactic| (k_here; (with_reducible show wpAny _ _ (compareOp _ (Value.int _ _) (Value.ref _)) _ _ _); k_dflt (refine' in_list_ints ?l ?i ?_; (case l => exact News.isList (by k_asm) (by k_mem)); (case i => assumption); k_whole)))
section
open PyProof.Rows.LCg PyProof.Rows.LCt
variable {w : World} {t : Tok} {rest : Led}
set_option maxRecDepth 100000 in
set_option maxHeartbeats 8000000 in
theorem c_loosened {src tr rd : Addr} {z0 z1 : Int} {ta tb : Tok} {nv : Nat} {U : List Nd} {D : TreeD} {R : RowsD} {V : List (List Int)} (hz1 : 0 ≤ z1) (hz2 : z1 < 2147483647) (G : GW w tr rd U D R V) (hU : U.length ≤ 11) (lo : (rd == sysModules) = false) :
    Con w 332 700 7000 [.ref src, .ref tr, .ref rd] (fun n => n.Perm ((src, srcO z0 z1 ta tb nv) :: (D.led w ++ (R.led ++ rest))))
      (fun _ v n' => v = .none ∧ ∃ (U' : List Nd) (D' : TreeD) (R' : RowsD) (V' : List (List Int)), n' = D'.led w ++ (R'.led ++ rest) ∧ U'.length = U.length ∧ GL w tr rd U' D' R' V') := by
  refine Con.of fun tpv lov mean mg mb gd cn cs a ccd cl outer A₀ base h₀ L m news s Q E hkk B F X N Ap T P ret => ?_
  refine wpAny_call ?_
  k_dflt (refine' code_defC ?k1 ?k2 ?k3 ?k4 ?k5 ?kA ?kF ?kK ?k6 ?k7 ?k8 ?k9 ?kB ?kD ?_ ?c2 ?c3 ?c4; (case kA => exact rfl); (case kF => exact rfl); (case kK => assumption); (case k1 => k_asm); (case k2 => k_asm); (case k3 => k_asm); (case k4 => k_asm); (case k5 => k_asm); (case k6 => k_is); (case k7 => k_is); (case k8 => ktr_room); (case k9 => exact BindsTo.of_eq rfl); (case kB => exact rfl); (case kD => decide +kernel); (case c2 => exact rfl); (case c3 => exact rfl); (case c4 => exact rfl); k_whole; intro gC LC hC tkC cellsC FGC FC NC YC BC XC TC lC)
  obtain ⟨oK, hEK, dK⟩ := CellsAre.one YC
  subst hEK
  clear YC
  have ApK : Apart ((LC + 1, oK) :: news) := Apart.cons (fun p hp => Nat.lt_succ_of_lt (lC p hp)) Ap
  try simp only [List.cons_append, List.nil_append] at NC
  try dsimp only
  try k_fold
  repeat' (first | (k_unfold; (try dsimp only)) | ((fail_if_success (with_reducible show wpAny _ _ (call (Value.ref _) _ _) _ _ _)); (fail_if_success (with_reducible show wpAny _ _ (exec (Stmt.Assign _ (Expr.ListComp _ _ _ _) _) _) _ _ _)); (fail_if_success (with_reducible show wpAny _ _ (eval (Expr.ListComp _ _ _ _) _) _ _ _)); walk1) | (dsimp only; ((fail_if_success (with_reducible show wpAny _ _ (call (Value.ref _) _ _) _ _ _)); (fail_if_success (with_reducible show wpAny _ _ (exec (Stmt.Assign _ (Expr.ListComp _ _ _ _) _) _) _ _ _)); (fail_if_success (with_reducible show wpAny _ _ (eval (Expr.ListComp _ _ _ _) _) _ _ _)); walk1)))
  have hX1 : (D.tr, instObj 295 D.dt) ∈ news := P.mem_iff.mpr (.tail _ (List.mem_append_left _ (mem_top1 w D)))
  have hX2 : (D.dt, D.dobj w) ∈ news := P.mem_iff.mpr (.tail _ (List.mem_append_left _ (mem_top2 w D)))
  have hX4 : ∀ q ∈ R.led, q ∈ news := fun q hq => P.mem_iff.mpr (.tail _ (List.mem_append_right _ (List.mem_append_left _ hq)))
  have hX3 : (rd, R.od) ∈ news := by rw [← G.hrd]; exact hX4 _ R.mem_d
  have hdict := G.dict
  have hkz : R.kvs.length ≤ 1000 := by show (kvsFrom 0 R.es).length ≤ 1000; rw [kvsFrom_length, G.repR.len]; omega
  refine' assign_comp_dict (by k_asm) ?k1 ?k2 ?k3 ?k4 ?k5 ?k6 ?k7 ?k8 ?k9 ?_ ?k10
  case k1 => rfl
  case k2 => with_unfolding_all rfl
  case k3 => with_unfolding_all rfl
  case k4 => decide
  case k5 => rfl
  case k6 => decide
  case k7 => rfl
  case k8 => rfl
  case k9 => rfl
  case k10 => intro _; rfl
  repeat' (first | (k_unfold; (try dsimp only)) | ((fail_if_success (with_reducible show wpAny _ _ (call (Value.ref _) _ _) _ _ _)); walk1) | (dsimp only; ((fail_if_success (with_reducible show wpAny _ _ (call (Value.ref _) _ _) _ _ _)); walk1)))
  refine ⟨rd, R.od, R.kvs, _, rfl, rfl, by k_asm, by k_asm, .tail _ hX3, hdict, lo, Nat.le_trans hkz (Nat.le_of_ble_eq_true rfl), ?_⟩
  rintro s₂ ⟨h2, rfl⟩
  refine compT_inv (fun i ys => i ≤ R.es.length ∧ ys.length ≤ i ∧ ∀ v ∈ ys, ∃ (j : Nat) (tj : Tok) (nd : Nd) (p : Nat), v = .int (j : Nat) tj ∧ U[j]? = some nd ∧ nd.par = some p) (.tail _ hX3) ?_ _ 0 [] ⟨Nat.zero_le _, Nat.le_refl _, by simp⟩ ?_
  · rintro i v ys I oI C oC Ld m₂ hh tk E' ⟨k, y, hk, hv⟩ ⟨hi, hy, hys⟩ hC hx F N ne1 ne2 ne3 off
    obtain ⟨tv, rfl⟩ := Value.isInt_shape hv
    obtain ⟨nd, xi, pth, hui, hxi, hpi, rfl, rfl, hxk, hxp, hpl, hil⟩ := G.key hk
    have hE1 := hX4 _ (RowsD.mem_e hxi)
    have hE2 := hX4 _ (RowsD.mem_p hxi)
    have hE3 := RowsD.at hxi
    have hpl' : xi.path.length ≤ 12 := by omega
    repeat' (first | (k_unfold; (try dsimp only)) | ((fail_if_success (with_reducible show wpAny _ _ (call (Value.ref _) _ _) _ _ _)); walk1) | (dsimp only; ((fail_if_success (with_reducible show wpAny _ _ (call (Value.ref _) _ _) _ _ _)); walk1)))
    · refine ⟨_, _, rfl, by k_asm, by k_asm, getElem?_lt hxi, by rw [List.length_append, List.length_singleton]; omega, fun v hv => ?_⟩
      rcases List.mem_append.mp hv with hv | hv
      · exact hys v hv
      · obtain ⟨p, hp⟩ := G.long hui hxi (by omega)
        exact ⟨i, tv, nd, p, List.mem_singleton.mp hv, hui, hp⟩
    · exact ⟨_, _, rfl, by k_asm, by k_asm, getElem?_lt hxi, Nat.le_succ_of_le hy, hys⟩
  · rintro ys ⟨hi, hy, hys⟩
    intro Ld h2' tk2 F2 N2 O2
    have hyl : ys.length ≤ 11 := by have := G.repR.len; have e : R.kvs.length = R.es.length := kvsFrom_length; omega
    have hyl2 : ys.length ≤ 1000 := by omega
    have ApL := Apart.consNe (o := lst ys) (off1_mem O2) ApK
    repeat' (first | (k_unfold; (try dsimp only)) | ((fail_if_success (with_reducible show wpAny _ _ (call (Value.ref _) _ _) _ _ _)); (fail_if_success (with_reducible show wpAny _ _ (exec (Stmt.Assign _ (Expr.ListComp _ _ _ _) _) _) _ _ _)); (fail_if_success (with_reducible show wpAny _ _ (eval (Expr.ListComp _ _ _ _) _) _ _ _)); walk1) | (dsimp only; ((fail_if_success (with_reducible show wpAny _ _ (call (Value.ref _) _ _) _ _ _)); (fail_if_success (with_reducible show wpAny _ _ (exec (Stmt.Assign _ (Expr.ListComp _ _ _ _) _) _) _ _ _)); (fail_if_success (with_reducible show wpAny _ _ (eval (Expr.ListComp _ _ _ _) _) _ _ _)); walk1)))
    (refine' Con.use (c_one (nv := nv) (vs := ys ++ [.none]) (nl := 0) (by simp) (by rw [List.length_append, List.length_singleton]; omega) hz1 hz2) ?uhh55 ?uhf55 ?uhdp55 ?uhu55 ?uhk55 ?uB55 ?uF55 ?uX55 ?uN55 ?uT55 ?uAp55 ?uP55 ?_; (case uhh55 => exact rfl); (case uhf55 => exact rfl); (case uhdp55 => exact Nat.le_of_ble_eq_true rfl); (case uhu55 => exact Nat.le_of_ble_eq_true rfl); (case uhk55 => first | assumption | exact rfl); (case uB55 => k_asm); (case uF55 => k_asm); (case uX55 => k_asm); (case uN55 => k_asm); (case uT55 => k_asm); (case uAp55 => first | assumption | (repeat' (first | assumption | refine Apart.cons (by first | assumption | exact tb_ltOf (by assumption)) ?_))); (case uP55 => (exact ⟨(List.Perm.append_left [_, _, _, _] P).trans List.perm_middle, .head _⟩)))
    rintro v1 n3 h3 tk3 F3 N3 Ap3 ⟨f1, w0, w1, wa, wb, hv1, hw1, hw2, rfl⟩
    rcases snoc_cases hv1 with hv1 | ⟨_, rfl⟩
    · obtain ⟨g, tg, nd, p, rfl, hg, hpar⟩ := hys _ (List.mem_of_getElem? hv1)
      obtain ⟨rg, hrg, isg⟩ := G.repD.get hg
      obtain ⟨ndp, hp, hpk⟩ := G.wf.inner g nd p hg hpar
      obtain ⟨rp, hrp, isp⟩ := G.repD.get hp
      have hlt := G.wf.up g nd p hg hpar
      have hnr : nd.kind ≠ .root := fun e => by
        have := G.only g nd hg e
        omega
      obtain ⟨tp, hrpar⟩ : ∃ tp, rg.par = .int (p : Nat) tp := by have := isg.par; rw [hpar] at this; exact this
      repeat' (first | (k_unfold; (try dsimp only)) | ((fail_if_success (with_reducible show wpAny _ _ (call (Value.ref _) _ _) _ _ _)); walk1) | (dsimp only; ((fail_if_success (with_reducible show wpAny _ _ (call (Value.ref _) _ _) _ _ _)); walk1)))
      (refine' Con.use (Con.tr G.htr (c_remove (D := D) (nc := kids U p) (na := atts U p) (nn := nsps U p) (by rw [G.repD.len]; omega) hrg hrpar hrp (Nat.ne_of_lt hlt) isp.ch isp.at_ isp.ns (by have := (kids_len isp).1; omega) (by have := (kids_len isp).2.1; omega) (by have := (kids_len isp).2.2; omega) ?_ ?_ ?_)) ?uhh56 ?uhf56 ?uhdp56 ?uhu56 ?uhk56 ?uB56 ?uF56 ?uX56 ?uN56 ?uT56 ?uAp56 ?uP56 ?_; (case uhh56 => exact rfl); (case uhf56 => exact rfl); (case uhdp56 => exact Nat.le_of_ble_eq_true rfl); (case uhu56 => exact Nat.le_of_ble_eq_true rfl); (case uhk56 => first | assumption | exact rfl); (case uB56 => k_asm); (case uF56 => k_asm); (case uX56 => k_asm); (case uN56 => k_asm); (case uT56 => k_asm); (case uAp56 => first | assumption | (repeat' (first | assumption | refine Apart.cons (by first | assumption | exact tb_ltOf (by assumption)) ?_))); (case uP56 => (exact permMid [_, _, _, _, _] _ _)))
      · intro h; rw [isg.kind] at h; exact at_mem _ hg (by rw [hpar, kind_att h]; simp)
      · intro h1 h2; rw [isg.kind] at h2; exact at_mem _ hg (by rw [hpar, kind_ns h2]; simp)
      · intro h1 h2; rw [isg.kind] at h1 h2; exact at_mem _ hg (by rw [hpar, kind_child h1 h2 hnr]; simp)
      rintro v6 n6 h6 tk6 F6 N6 Ap6 ⟨rfl, e6⟩
      have hD6 := G.repD.loose G.wf hg hpar hp hrg hrp hnr
      have htr6 : ((D.set p (rp.drop rg.kind g (kids U p) (atts U p) (nsps U p))).set g { rg with par := .none }).tr = tr := G.htr
      generalize ((D.set p (rp.drop rg.kind g (kids U p) (atts U p) (nsps U p))).set g { rg with par := .none }) = D6 at e6 hD6 htr6
      subst e6
      obtain ⟨N7, Ap7⟩ : News gC LC h6 ((LC + 1, oK) :: (D6.led w ++ (R.led ++ rest))) ∧ Apart ((LC + 1, oK) :: (D6.led w ++ (R.led ++ rest))) := toK [_, _, _, _] N6 Ap6
      clear N6 Ap6
      obtain ⟨xg, vg, hxg, hvg, hxgk, hxgp, hxgl, hgl⟩ := G.ent hg
      have hX : ∀ q ∈ R.led, q ∈ (LC + 1, oK) :: (D6.led w ++ (R.led ++ rest)) := fun q hq => .tail _ (List.mem_append_right _ (List.mem_append_left _ hq))
      generalize hY : (LC + 1, oK) :: (D6.led w ++ (R.led ++ rest)) = Y at N7 Ap7 hX
      have hK1 : (LC + 1, oK) ∈ Y := by rw [← hY]; exact .head _
      have hK2 : (rd, R.od) ∈ Y := by rw [← G.hrd]; exact hX _ R.mem_d
      have hK3 := hX _ (RowsD.mem_e hxg)
      have hK4 := hX _ (RowsD.mem_p hxg)
      have hK5 := RowsD.at hxg
      have hxgl' : xg.path.length ≤ 12 := by omega
      repeat' (first | (k_unfold; (try dsimp only)) | ((fail_if_success (with_reducible show wpAny _ _ (call (Value.ref _) _ _) _ _ _)); (fail_if_success (with_reducible show wpAny _ _ (exec (Stmt.For _ _ _ _ _) _) _ _ _)); (fail_if_success (with_reducible show wpAny _ _ (exec (Stmt.Assign _ (Expr.ListComp _ _ _ _) _) _) _ _ _)); (fail_if_success (with_reducible show wpAny _ _ (eval (Expr.ListComp _ _ _ _) _) _ _ _)); walk1) | (dsimp only; ((fail_if_success (with_reducible show wpAny _ _ (call (Value.ref _) _ _) _ _ _)); (fail_if_success (with_reducible show wpAny _ _ (exec (Stmt.For _ _ _ _ _) _) _ _ _)); (fail_if_success (with_reducible show wpAny _ _ (exec (Stmt.Assign _ (Expr.ListComp _ _ _ _) _) _) _ _ _)); (fail_if_success (with_reducible show wpAny _ _ (eval (Expr.ListComp _ _ _ _) _) _ _ _)); walk1)))
      with_unfolding_all refine' For_invVF (by k_asm) ?f1 ?f2 ?_
      case f1 => exact rfl
      case f2 => exact rfl
      walk1
      have hvl : 1 ≤ xg.path.length := by
        rw [hxgp.length]
        have := G.paths.at_ g nd hg
        rw [hvg, hpar] at this
        rw [Option.some.inj this]
        simp
      have hRep0 : RepR U (mixV V g (vg.length - 1) 0) R := G.repR
      refine' iter_keys_st [] (StL w (LC + 1) oK U D6 R V g (vg.length - 1) rest) rfl hdict lo ?kp ?kF ?kN ⟨R, hY.symm, Ap7, rfl, rfl, rfl, hRep0⟩ ?_ ?_
      case kp => rintro i l ⟨R', rfl, _, e1, e2, _, _⟩; exact .tail _ (List.mem_append_right _ (List.mem_append_left _ (by have := R'.mem_d; rw [e1, e2, G.hrd] at this; exact this)))
      case kF => k_asm
      case kN => k_asm
      · rintro i k y ti u n9 h9 tk9 I o hk ⟨R', rfl, Ap9, e1, e2, e3, hRep⟩ hoff F9 N9
        obtain ⟨ndi, x0, pth, hui, hx0, hpi, rfl, rfl, hx0k, hx0p, hx0l, hil⟩ := G.key hk
        have hVl : (mixV V g (vg.length - 1) i).length = U.length := by rw [mixV_length]; exact G.paths.len
        obtain ⟨x, pth', hx, hp', hxk, hxp⟩ := hRep.get hVl hui
        have hpe : pth' = pth := by
          rw [mixV_get, hpi] at hp'
          exact (Option.some.inj hp').symm
        subst hpe
        have hxe : x.e = x0.e := by
          have h7 : R'.kvs[i]? = _ := kvsFrom_get (k := 0) hx
          have h8 : R.kvs[i]? = _ := kvsFrom_get (k := 0) hx0
          rw [e3, h8] at h7
          have h9' := (Prod.mk.inj (Option.some.inj h7)).2
          injection h9' with h9''
          exact h9''.symm
        have hxl : x.path.length ≤ 12 := by rw [hxp.length, ← hx0p.length]; omega
        have hX9 : ∀ q ∈ R'.led, q ∈ (LC + 1, oK) :: (D6.led w ++ (R'.led ++ rest)) := fun q hq => .tail _ (List.mem_append_right _ (List.mem_append_left _ hq))
        generalize hZ : (LC + 1, oK) :: (D6.led w ++ (R'.led ++ rest)) = Z at N9 Ap9 hX9 hoff
        have hZ1 : (LC + 1, oK) ∈ Z := by rw [← hZ]; exact .head _
        have hZ2 : (rd, R.od) ∈ Z := by rw [← G.hrd, ← e1, ← e2]; exact hX9 _ R'.mem_d
        have hZ3 := hX9 _ (RowsD.mem_e hx)
        have hZ4 := hX9 _ (RowsD.mem_p hx)
        have hZ5 := RowsD.at hx
        rw [e3] at hZ5
        repeat' (first | (k_unfold; (try dsimp only)) | ((fail_if_success (with_reducible show wpAny _ _ (call (Value.ref _) _ _) _ _ _)); (fail_if_success (with_reducible show wpAny _ _ (exec (Stmt.For _ _ _ _ _) _) _ _ _)); (fail_if_success (with_reducible show wpAny _ _ (exec (Stmt.Assign _ (Expr.ListComp _ _ _ _) _) _) _ _ _)); (fail_if_success (with_reducible show wpAny _ _ (eval (Expr.ListComp _ _ _ _) _) _ _ _)); walk1) | (dsimp only; ((fail_if_success (with_reducible show wpAny _ _ (call (Value.ref _) _ _) _ _ _)); (fail_if_success (with_reducible show wpAny _ _ (exec (Stmt.For _ _ _ _ _) _) _ _ _)); (fail_if_success (with_reducible show wpAny _ _ (exec (Stmt.Assign _ (Expr.ListComp _ _ _ _) _) _) _ _ _)); (fail_if_success (with_reducible show wpAny _ _ (eval (Expr.ListComp _ _ _ _) _) _ _ _)); walk1)))
        · rename_i D' ws' h' F' N' hI' _ _ l1
          have hb := (by assumption : List.any _ _ = true)
          dsimp only
          have ApY := Apart.cons (o := listOf ws'.toArray 0) (tb_ltOf (l := (I, o) :: Z) l1) (Apart.consNe hoff Ap9)
          refine' ki_set F' N' (by decide) (by decide) rfl (Upd_of ApY (.tail _ (.tail _ hZ3))) ?_
          intro h10 F10 N10
          repeat' (first | (k_unfold; (try dsimp only)) | ((fail_if_success (with_reducible show wpAny _ _ (call (Value.ref _) _ _) _ _ _)); (fail_if_success (with_reducible show wpAny _ _ (exec (Stmt.For _ _ _ _ _) _) _ _ _)); (fail_if_success (with_reducible show wpAny _ _ (exec (Stmt.Assign _ (Expr.ListComp _ _ _ _) _) _) _ _ _)); (fail_if_success (with_reducible show wpAny _ _ (eval (Expr.ListComp _ _ _ _) _) _ _ _)); walk1) | (dsimp only; ((fail_if_success (with_reducible show wpAny _ _ (call (Value.ref _) _ _) _ _ _)); (fail_if_success (with_reducible show wpAny _ _ (exec (Stmt.For _ _ _ _ _) _) _ _ _)); (fail_if_success (with_reducible show wpAny _ _ (exec (Stmt.Assign _ (Expr.ListComp _ _ _ _) _) _) _ _ _)); (fail_if_success (with_reducible show wpAny _ _ (eval (Expr.ListComp _ _ _ _) _) _ _ _)); walk1)))
          subst hZ
          obtain ⟨N11, Ap11, off11⟩ := loose_turn Ap9 hx hoff (fun q hq => .tail _ hq) (.head _) (tb_ltOf (l := (I, o) :: _) l1) N10
          refine TEnd.keptS (by k_asm) N11 off11 ⟨R'.put i (x.put D' ws' 0), rfl, Ap11, e1, e2, (put_kvs hx).trans e3, ?_⟩ (by intro y q1 q2; simp only [if_neg q1, List.contains_nil, Bool.false_eq_true, if_false])
          have hm := any_mem hb
          rw [mixV_succ hpi]
          refine hRep.put hx hVl ?_
          unfold lv
          rw [if_pos (by rw [hm]), ← hxgp.length]
          rw [show (xg.path.length : Int) - 1 = ((xg.path.length - 1 : Nat) : Int) by omega] at hI'
          exact hI'
        · refine TEnd.keptS (by k_asm) (by k_asm) hoff ⟨R', hZ.symm, Ap9, e1, e2, e3, ?_⟩ (by intro y q1 q2; simp only [if_neg q1, List.contains_nil, Bool.false_eq_true, if_false])
          have hb2 := (by assumption : List.any _ _ = false)
          rw [mixV_same hpi (by rw [any_mem hb2]; exact Bool.false_ne_true)]
          exact hRep
      · rintro u n9 h9 tk9 ⟨R', rfl, Ap9, e1, e2, e3, hRep⟩ F9 N9
        repeat' (first | (k_unfold; (try dsimp only)) | ((fail_if_success (with_reducible show wpAny _ _ (call (Value.ref _) _ _) _ _ _)); (fail_if_success (with_reducible show wpAny _ _ (exec (Stmt.For _ _ _ _ _) _) _ _ _)); (fail_if_success (with_reducible show wpAny _ _ (exec (Stmt.Assign _ (Expr.ListComp _ _ _ _) _) _) _ _ _)); (fail_if_success (with_reducible show wpAny _ _ (eval (Expr.ListComp _ _ _ _) _) _ _ _)); walk1) | (dsimp only; ((fail_if_success (with_reducible show wpAny _ _ (call (Value.ref _) _ _) _ _ _)); (fail_if_success (with_reducible show wpAny _ _ (exec (Stmt.For _ _ _ _ _) _) _ _ _)); (fail_if_success (with_reducible show wpAny _ _ (exec (Stmt.Assign _ (Expr.ListComp _ _ _ _) _) _) _ _ _)); (fail_if_success (with_reducible show wpAny _ _ (eval (Expr.ListComp _ _ _ _) _) _ _ _)); walk1)))
        refine ret _ _ _ _ (by k_asm) (News_subN (by k_asm) (List.subset_cons_self _ _)) (Apart.tl (by assumption)) ⟨rfl, loosen U g nd, D6, R', V.map (lv g (vg.length - 1)), rfl, loosen_length, ?_⟩
        have hl9 : R.kvs.length = V.length := by
          have e : R.kvs.length = R.es.length := kvsFrom_length
          rw [e, G.repR.len, G.paths.len]
        rw [hl9, mixV_all] at hRep
        exact ⟨G.wf.loose hg, hD6, hRep.loose hg, G.paths.loose G.wf hg hpar hvg, by rw [e2, e3]; exact hdict, htr6, by rw [e1]; exact G.hrd, fun j ndj hj hk => by
          rcases loosen_get hg hj with ⟨rfl, rfl⟩ | ⟨_, hj'⟩
          · rfl
          · exact G.noroot j ndj hj' hk⟩
    · repeat' (first | (k_unfold; (try dsimp only)) | ((fail_if_success (with_reducible show wpAny _ _ (call (Value.ref _) _ _) _ _ _)); walk1) | (dsimp only; ((fail_if_success (with_reducible show wpAny _ _ (call (Value.ref _) _ _) _ _ _)); walk1)))
      exact ret _ _ _ _ (by k_asm) (News_subN (by k_asm) (List.subset_append_right [_, _, _, _, _] _)) (Ap3.sub (List.sublist_append_right [_, _, _, _, _] _)) ⟨rfl, U, D, R, V, rfl, rfl, G.toL⟩
end
/-! Exc -/
section
open PySem PySem.W PyProof.Rows PySem.Calls
set_option maxRecDepth 100000
section
variable {prog : Program} {w : World} {A : Around} {E : Value → Shared → Prop} {h : Heap} {g : Array GenState} {d : Drawn} {t : Nat} {os : OsState}
variable {nm q : Str} {C N : Addr} {bs bm bmB : List Value} {hdct : Bool} {sn : List Str} {sub : List Value} {ab : Bool} {col : Option Bool} {dd : Option Addr} {k0 k1 k2 k3 k5 : Option Value} {B newId initId : String}
theorem x_check_init (F : ExcBaseFacts B newId initId bmB) (hcB : (Value.ref C :: bm).contains (.type B) = true) {M : Model} {e : Addr} {oe : Obj} {rest : List Value} {Q : Unit → Shared → Prop}
    (hC : h.get? C = some (excClassObj nm q C N bs bm hdct sn sub ab col dd k0 k1 k2 k3 k5 newId)) (he : h.get? e = some oe) (hcls : oe.cls = .ref C) (hq : Q () ⟨h, g, d, t, os⟩) :
    wpAny M A (checkBuiltinCall initId ⟨.ref e :: rest, []⟩) Q E ⟨h, g, d, t, os⟩ := by
  have hshort := F.noStar
  simp only [checkBuiltinCall, F.initKind, F.initSplit, F.initRow]
  repeat (first | (with_reducible refine wpAny_loadPart_at he ?_; rw [hcls]) | with_reducible refine wpAny_loadPart_at hC ?_ | (with_reducible refine wpAny_isSubtype_exc hC ?_; rw [hcB]) | wp_step)
  refine wpAny_onRaise ?_
  rw [show ∀ (a b : String) (n : Nat), Bind.check ⟨.positional, "*", B, .self, [⟨"args", .varPos, false⟩]⟩ a b n (List.map (fun x => x.fst) ({ pos := Value.ref e :: rest } : Args).kw) = pure () from
    fun a b n => check_star_args _ _ _ _ _ _]
  exact wpAny_pure hq
/-- the built-in base's __init__ lays the arguments anew -/
theorem x_init_call (F : ExcBaseFacts B newId initId bmB) (hcB : (Value.ref C :: bm).contains (.type B) = true) {e t0 : Addr} {rest : List Value} {Q : Value → Shared → Prop}
    (hC : h.get? C = some (excClassObj nm q C N bs bm hdct sn sub ab col dd k0 k1 k2 k3 k5 newId)) (he : h.get? e = some { cls := .ref C, data := .fields #[.ref t0, .none, .none, .none, .bool false, .none] })
    (hq : ∀ h', h'.get? e = some { cls := .ref C, data := .fields #[.ref h.objs.size, .none, .none, .none, .bool false, .none] } → h'.get? h.objs.size = some { cls := .type "tuple", data := .seq rest.toArray } →
      (∀ b o, b ≠ e → h.get? b = some o → h'.get? b = some o) → h.objs.size ≤ h'.objs.size → Q .none ⟨h', g, d, t, os⟩) (hrest : rest.length ≤ sizeLine := by size_fits) :
    wpAny (model prog w) A (call (.builtin initId) (.ref e :: rest)) Q E ⟨h, g, d, t, os⟩ := by
  refine wpAny_call (codeAny_call_builtin F.init.plain F.initEntry (x_check_init F hcB hC he rfl ?_))
  wp_walk
  have he1 := Heap.get?_push_of_some { cls := .type "tuple", data := .seq rest.toArray } he
  have hne : e ≠ h.objs.size := Nat.ne_of_lt (Heap.lt_size he)
  refine hq _ ?_ ?_ ?_ ?_
  · rw [Heap.get?_update_self _ he1 rfl]
    rfl
  · rw [Heap.get?_update_other _ _ hne]
    exact Heap.get?_push_at rfl rfl
  · intro b o hb ho
    rw [Heap.get?_update_other _ _ (Ne.symm hb)]
    exact Heap.get?_push_of_some _ ho
  · rw [Heap.size_after_update, Heap.size_push]
    exact Nat.le_succ _
end
section
open Builtin Builtin.ObjectAttr
variable {prog : Program} {w : World} {A : Around} {E : Value → Shared → Prop} {s : Shared} {K : Frag} {x C L : Addr} {h₀ : Heap} {m : Str → Option Value} {news : List (Addr × Obj)} {name : Str} {v : Value} {R : Result → Shared → Prop}
theorem x_osa_open {ox : Obj} {od : Option Obj} {tk : Tok} {r : Option Value} {cd : ClassData} (X : K.In s.heap) (I : PySem.W.InstAt s.heap x ox C od) (hc : clsIn K C = some cd) (ne : cd.mro.isEmpty = false) (ho : cd.mro.contains (.type "object") = true)
    (hp : refuseLoop (.ref x) "__setattr__" cd.mro = pure ()) (ht : takerIn K C name = some r)
    (h : ∀ b, wpAny (model prog w) A.in1 (match r with | some a => setByDescriptor a (.ref x) v | none => storeInOwnDict (.ref x) (.ref C) (.str name tk) name v b)
      (fun fin s' => match fin with | .done f => R (.ok f) s' | .again c' => c'.quiet = true ∧ codeAny (model prog w) A c' R s') (fun e s' => R (.error e) s') s) :
    codeAny (model prog w) A (.call (.builtin "object.__setattr__") ⟨[.ref x, .str name tk, v], []⟩) R s := by
  have SF := PySem.F.store_object
  have sub : Looks (model prog w) s.heap (isInstance (.ref x) (.type "object")) true := I.type.andThen (looks_mroIn X (by unfold mroIn; rw [hc, Option.bind_some, if_neg (by rw [ne]; decide), ho]))
  refine codeAny_call_builtin SF.slot.plain SF.entry (@check_slot (model prog w) _ _ s "object.__setattr__" "object" "__setattr__" (.ref x) [.str name tk, v] [] _ SF.kind SF.split sub (SF.args (.ref x) (.str name tk) v) ?_)
  obtain ⟨attr, ha, hr⟩ := Option.bind_eq_some_iff.mp ht
  have hm : Looks (model prog w) s.heap (mroOf (.ref C)) cd.mro := (looks_clsIn X hc).andThen .now
  have L3 : Looks (model prog w) s.heap (storeTaker? attr) r := by
    cases attr with
    | none => cases hr; exact .now
    | some a =>
      obtain ⟨b, hb, rfl⟩ := Option.map_eq_some_iff.mp hr
      refine (looks_takesIn X hb).andThen ?_
      cases b <;> exact .now
  rw [osa_eq, refuse_eq]
  refine wpAny_bind (wpAny_bind (I.type.here (wpAny_bind (hm.here ?_))))
  rw [hp]
  refine wpAny_pure (wpAny_bind (I.type.here (wpAny_bind ((looks_findIn X ha).here (wpAny_bind (L3.here ?_))))))
  exact h _
/-- a first field on an exception -/
theorem x_set {dt : Data} {sl : Array (Option Value)} {cd : ClassData} {Q : Unit → Shared → Prop} (F : Fr h₀ L s.heap m) (X₀ : K.In h₀) (N : News h₀ L s.heap ((x, ⟨.ref C, none, dt, sl⟩) :: news)) (hne : ∀ p ∈ news, p.1 ≠ x)
    (hnc : ∀ c, dt ≠ .cls c) (hfr : (⟨.ref C, none, dt, sl⟩ : Obj).isFreed = false)
    (hs : findIn K (.ref C) "__setattr__" = some (some (.builtin "object.__setattr__"))) (hc : clsIn K C = some cd) (hd : cd.hasDict = true) (ne : cd.mro.isEmpty = false) (ho : cd.mro.contains (.type "object") = true)
    (hp : ∀ y, refuseLoop (.ref y) "__setattr__" cd.mro = pure ()) (ht : takerIn K C name = some none)
    (h : ∀ d od h' tk', Fr h₀ L h' m → News h₀ L h' ((x, ⟨.ref C, some d, dt, sl⟩) :: (d, od) :: news) → @LT.lt Nat _ x d → (∀ p ∈ news, p.1 < d) → Q () { s with heap := h', toks := tk' }) :
    wpAny (model prog w) A (setAttr (.ref x) name v) Q E s := by
  obtain ⟨hh, g, dr, tk0, os⟩ := s
  have X : K.In hh := X₀.keeps F.keep
  have hx : hh.get? x = some ⟨.ref C, none, dt, sl⟩ := (N _ (.head _)).1
  have I : PySem.W.InstAt hh x ⟨.ref C, none, dt, sl⟩ C none := ⟨hx, rfl, by unfold notCls; cases dt <;> first | rfl | exact absurd rfl (hnc _), trivial⟩
  refine set_plain X I hs (x_osa_open (s := ⟨hh, g, dr, tk0 + 1, os⟩) X I hc ne ho (hp x) ht fun b => ?_)
  refine wpAny_bind (wpAny_pure (wpAny_bind (wpAny_bind (wpAny_loadPart hx (wpAny_bind (Looks.here (s := ⟨hh, g, dr, tk0 + 1, os⟩) (looks_clsIn X hc) ?_))))))
  rw [hd]
  dsimp only
  rw [if_neg (by decide), if_neg (by simp [typeHasDict])]
  split
  · exact absurd rfl (hnc _)
  have hx₁ : (hh.push { cls := .type "dict", data := .dict #[] }).get? x = some ⟨.ref C, none, dt, sl⟩ := Heap.get?_push_of_some _ hx
  have hxs : x ≠ hh.objs.size := Nat.ne_of_lt (Heap.lt_size hx)
  refine wpAny_bind (wpAny_alloc' ?_)
  refine wpAny_bind (wpAny_update' hx₁ ?_)
  refine wpAny_pure ?_
  have hgd : ((hh.push { cls := .type "dict", data := .dict #[] }).update x fun o => { cls := o.cls, dict := some hh.objs.size, data := o.data, slots := o.slots }).get? hh.objs.size
      = some { cls := .type "dict", data := .dict #[] } :=
    (Heap.get?_update_ne _ _ _ _ hxs.symm).trans (Heap.get?_push_at rfl rfl)
  have hnd : ((hh.push { cls := .type "dict", data := .dict #[] }).update x fun o => { cls := o.cls, dict := some hh.objs.size, data := o.data, slots := o.slots }).Ns hh.objs.size (fun _ => none) :=
    ⟨_, #[], _, hgd, rfl, fun e he => absurd he (by simp), fun _ => rfl⟩
  show wpAny _ _ (storeInDict hh.objs.size (.str name tk0) name v) _ _ _
  unfold storeInDict newKeyGuard
  refine wpAny_bind (wpAny_pure (wpAny_bind (wpAny_nsSet1 (Heap.Ns1.of_empty hnd) fun h' hn' hs' => ?_)))
  obtain ⟨oD, esD, epD, hoD, hdD, hcD⟩ := hn'.count (Within.cons name v Within.nil)
  refine wpAny_bind (wpAny_lookBehind hoD (by rw [hdD]; exact pastItsLine_dict (Nat.le_trans hcD (by rw [List.length_cons, List.length_nil, sizeLine_eq]; omega))) ?_)
  refine wpAny_pure ?_
  have hx' : h'.get? x = some ⟨.ref C, some hh.objs.size, dt, sl⟩ := by
    refine (hs'.2 x hxs).trans (Heap.get?_update_self _ hx₁ ?_)
    cases dt <;> first | rfl | exact hfr
  have old : ∀ b o, b ≠ x → hh.get? b = some o → h'.get? b = some o := fun b o hbx hb =>
    (hs'.2 b (Nat.ne_of_lt (Heap.lt_size hb))).trans ((Heap.get?_update_ne _ _ _ _ hbx).trans (Heap.get?_push_of_some _ hb))
  have xn := (N _ (.head _)).2
  have F' : Fr h₀ L h' m := by
    obtain ⟨oL, a1, a2, hL, a3⟩ := F.ns
    exact ⟨⟨oL, a1, a2, old L oL (Ne.symm xn.1) hL, a3⟩, fun b o e => old b o (fun q => by rw [q, xn.2] at e; cases e) (F.keep b o e), F.above⟩
  have lt0 : ∀ p ∈ news, p.1 < hh.objs.size := fun p hp => Heap.lt_size (N p (.tail _ hp)).1
  refine h hh.objs.size oD h' _ F' (fun p hp => ?_) (Heap.lt_size hx) lt0
  rcases List.mem_cons.mp hp with rfl | hp
  · exact ⟨hx', xn.1, xn.2⟩
  rcases List.mem_cons.mp hp with rfl | hp
  · refine ⟨hoD, Nat.ne_of_gt F.ns.lt, ?_⟩
    exact next_is_new F
  · exact ⟨old _ _ (hne p hp) (N p (.tail _ hp)).1, (N p (.tail _ hp)).2⟩
end
/-- an exception of the program's own, just made -/
abbrev excOf (C : Addr) (t : Addr) (d : Option Addr) : Obj := ⟨.ref C, d, .fields #[.ref t, .none, .none, .none, .bool false, .none], #[]⟩
abbrev tupO (vs : List Value) : Obj := { cls := .type "tuple", data := .seq vs.toArray }
section
variable {prog : Program} {w : World} {A : Around} {E : Value → Shared → Prop} {s : Shared} {K : Frag} {e C L : Addr} {h₀ : Heap} {m : Str → Option Value} {news : List (Addr × Obj)}
variable {nm q : Str} {N : Addr} {bs bm bmB : List Value} {hdct : Bool} {sn : List Str} {sub : List Value} {ab : Bool} {col : Option Bool} {dd : Option Addr} {k0 k1 k2 k3 k5 : Option Value} {B newId initId : String}
theorem x_init_led (Fx : ExcBaseFacts B newId initId bmB) {t0 : Addr} {rest : List Value} {Q : Value → Shared → Prop} (F : Fr h₀ L s.heap m) (X₀ : K.In h₀) (Nw : News h₀ L s.heap ((e, excOf C t0 none) :: news)) (hne : ∀ p ∈ news, p.1 ≠ e)
    (hC : K.lookup C = some (excClassObj nm q C N bs bm hdct sn sub ab col dd k0 k1 k2 k3 k5 newId)) (hcB : (Value.ref C :: bm).contains (.type B) = true)
    (h : ∀ t1 h', Fr h₀ L h' m → News h₀ L h' ((e, excOf C t1 none) :: (t1, tupO rest) :: news) → @LT.lt Nat _ e t1 → (∀ p ∈ news, p.1 < t1) → Q .none { s with heap := h' }) (hrest : rest.length ≤ sizeLine := by size_fits) :
    wpAny (model prog w) A (call (.builtin initId) (.ref e :: rest)) Q E s := by
  obtain ⟨hh, g, dr, tk0, os⟩ := s
  have X : K.In hh := X₀.keeps F.keep
  have he := (Nw _ (.head _)).1
  have en := (Nw _ (.head _)).2
  refine x_init_call Fx hcB (X _ _ hC) he (fun h' h1 h2 h3 h4 => h hh.objs.size h' ?_ (fun p hp => ?_) (Heap.lt_size he) fun p hp => Heap.lt_size (Nw p (.tail _ hp)).1) hrest
  · obtain ⟨oL, a1, a2, hL, a3⟩ := F.ns
    exact ⟨⟨oL, a1, a2, h3 L oL (Ne.symm en.1) hL, a3⟩, fun b o ho => h3 b o (fun q => by rw [q, en.2] at ho; cases ho) (F.keep b o ho), F.above⟩
  · rcases List.mem_cons.mp hp with rfl | hp
    · exact ⟨h1, en⟩
    rcases List.mem_cons.mp hp with rfl | hp
    · exact ⟨h2, Nat.ne_of_gt F.ns.lt, next_is_new F⟩
    · exact ⟨h3 _ _ (hne p hp) (Nw p (.tail _ hp)).1, (Nw p (.tail _ hp)).2⟩
end
section
variable {nm q : Str} {C N : Addr} {bs bm bmB : List Value} {hdct : Bool} {sn : List Str} {sub : List Value} {ab : Bool} {col : Option Bool} {dd : Option Addr} {k0 k1 k2 k3 k5 : Option Value} {B newId initId : String}
section
variable {M : Model} {A : Around} {E : Value → Shared → Prop} {h : Heap} {g : Array GenState} {d : Drawn} {t : Nat} {os : OsState}
theorem x_check_new (F : ExcBaseFacts B newId initId bmB) (hcB : (Value.ref C :: bm).contains (.type B) = true) {rest : List Value} {Q : Unit → Shared → Prop} (hC : h.get? C = some (excClassObj nm q C N bs bm hdct sn sub ab col dd k0 k1 k2 k3 k5 newId))
    (hq : Q () ⟨h, g, d, t, os⟩) : wpAny M A (checkBuiltinCall newId ⟨.ref C :: rest, []⟩) Q E ⟨h, g, d, t, os⟩ := by
  have hstar := F.noStar
  simp only [checkBuiltinCall, F.newKind, F.newSplit, F.newRow]
  repeat (first | refine wpAny_loadPart_at hC ?_ | (refine wpAny_isSubtype_exc hC ?_; rw [hcB]) | refine wpAny_staticBase_exc hC ?_ | refine wpAny_madeBy_exc hC ?_ | simp only [bne_self_eq_false, Bool.false_eq_true, if_false] | wp_step)
  exact hq
end
section
variable {prog : Program} {w : World} {A : Around} {h : Heap} {g : Array GenState} {d : Drawn} {t : Nat} {os : OsState} {E : Value → Shared → Prop} {K : Frag}
theorem x_new (F : ExcBaseFacts B newId initId bmB) {R : Result → Shared → Prop} (hcB : (Value.ref C :: bm).contains (.type B) = true) (hcA : (Value.ref C :: bm).contains (.type "AttributeError") = false) (hcN : (Value.ref C :: bm).contains (.type "NameError") = false)
    {rest : List Value} (hC : h.get? C = some (excClassObj nm q C N bs bm hdct sn sub ab col dd k0 k1 k2 k3 k5 newId))
    (hq : R (.ok (.ret (.ref (h.objs.size + 1)))) ⟨(h.push (tupO rest)).push (excOf C h.objs.size none), g, d, t, os⟩) (hrest : rest.length ≤ sizeLine := by size_fits) :
    codeAny (model prog w) A (.builtin newId ⟨.ref C :: rest, []⟩) R ⟨h, g, d, t, os⟩ := by
  have hends := F.ends
  refine codeAny_builtinAt F.entry ?_
  unfold Builtin.«BaseException.__new__»
  refine PySem.wpAt_bind ?_
  show PySem.wpAt _ _ _ (stack >>= _) _ _ _
  refine PySem.wpAt_bind (PySem.wpAt_stack fun p below => PySem.wpAt_of_wpAny ?_)
  wp_walk
  refine PySem.wpAt_of_wpAny ?_
  rw [F.owner]
  repeat (first | with_reducible refine wpAny_madeHere_exc F.canon hC ?_ | with_reducible refine wpAny_loadPart_at hC ?_ | (with_reducible refine wpAny_isSubtype_exc hC ?_; first | rw [hcB] | rw [hcA] | rw [hcN]) | wp_step)
  show R _ _
  rw [Heap.size_push]
  exact hq
theorem x_type_call (F : ExcBaseFacts B newId initId bmB) (X : K.In h) {rest : List Value} {fI : Addr} {Q : Fin → Shared → Prop}
    (hcB : (Value.ref C :: bm).contains (.type B) = true) (hcA : (Value.ref C :: bm).contains (.type "AttributeError") = false) (hcN : (Value.ref C :: bm).contains (.type "NameError") = false)
    (hC : K.lookup C = some (excClassObj nm q C N bs bm hdct sn sub ab col dd k0 k1 k2 k3 k5 newId)) (hi : findIn K (.ref C) "__init__" = some (some (.ref fI))) (hfn : typeIn K (.ref fI) = some (.type "function"))
    (hq : wpAny (model prog w) A (call (.ref fI) (.ref (h.objs.size + 1) :: rest)) (fun r s' => r = .none ∧ Q (.done (.ret (.ref (h.objs.size + 1)))) s') E ⟨(h.push (tupO rest)).push (excOf C h.objs.size none), g, d, t, os⟩) (hrest : rest.length ≤ sizeLine := by size_fits) :
    wpAny (model prog w) A (Builtin.«type.__call__» ⟨.ref C :: rest, []⟩) Q E ⟨h, g, d, t, os⟩ := by
  have hC0 := X _ _ hC
  repeat (first | with_reducible refine wpAny_loadPart_at hC0 ?_ | with_reducible refine wpAny_madeBy_exc hC0 ?_ | wp_step)
  refine codeAny_call_builtin_code (Code.quiet_builtin _ F.quiet) (x_check_new F hcB hC0 ?_)
  refine x_new F hcB hcA hcN hC0 ?_ hrest
  show wpAny _ _ _ _ _ _
  have kp : ∀ b o, h.get? b = some o → ((h.push (tupO rest)).push (excOf C h.objs.size none)).get? b = some o := fun b o e => Heap.get?_push_of_some _ (Heap.get?_push_of_some _ e)
  have hC₁ := kp _ _ hC0
  have X₁ := X.keeps kp
  have hget : ((h.push (tupO rest)).push (excOf C h.objs.size none)).get? (h.objs.size + 1) = some (excOf C h.objs.size none) := by heap_get
  have hcC : (Value.ref C :: bm).contains (.ref C) = true := by simp
  unfold isInstance
  repeat (first | with_reducible refine wpAny_loadPart_at hget ?_ | (with_reducible refine wpAny_isSubtype_exc hC₁ ?_; rw [hcC]) | wp_step)
  show wpAny _ _ (typeLookup (.ref C) _) _ _ _
  refine Looks.here (s := ⟨_, g, d, t, os⟩) (looks_findIn X₁ hi) ?_
  refine wpAny_holding (wpAny_bind ?_)
  refine Looks.here (s := ⟨_, g, d, t, os⟩) (bind_fn X₁ _ hfn) ?_
  dsimp only
  refine wpAny_bind (wpAny_mono hq (fun r s' hr => ?_) fun _ _ x => x)
  obtain ⟨rfl, hQ⟩ := hr
  wp_walk
  exact hQ
theorem x_call (F : ExcBaseFacts B newId initId bmB) (X : K.In h) {rest : List Value} {fI : Addr} {Q : Value → Shared → Prop}
    (hcB : (Value.ref C :: bm).contains (.type B) = true) (hcA : (Value.ref C :: bm).contains (.type "AttributeError") = false) (hcN : (Value.ref C :: bm).contains (.type "NameError") = false)
    (hC : K.lookup C = some (excClassObj nm q C N bs bm hdct sn sub ab col dd k0 k1 k2 k3 k5 newId)) (hi : findIn K (.ref C) "__init__" = some (some (.ref fI))) (hfn : typeIn K (.ref fI) = some (.type "function"))
    (hq : wpAny (model prog w) (A.under (.builtin "type.__call__" ⟨.ref C :: rest, []⟩)) (call (.ref fI) (.ref (h.objs.size + 1) :: rest)) (fun r s' => r = .none ∧ Q (.ref (h.objs.size + 1)) s') E ⟨(h.push (tupO rest)).push (excOf C h.objs.size none), g, d, t, os⟩)
    (hrest : rest.length ≤ sizeLine := by size_fits) : wpAny (model prog w) A (call (.ref C) rest) Q E ⟨h, g, d, t, os⟩ := by
  have hC0 := X _ _ hC
  have f1 := tc_lookup
  have f2 := tc_bind (.ref C)
  have hT : (⟨h, g, d, t, os⟩ : Shared).TypeIs (.ref C) "type" := ⟨_, hC0, rfl⟩
  refine wpAny_call (codeAny_of_tree ?_)
  show wpAny _ _ (callAny (.ref C) _) _ _ _
  repeat (any_goals (first | assumption | with_reducible refine wpAny_loadPart_at hC0 ?_ | wp_step))
  refine ⟨rfl, ?_⟩
  exact codeAny_call_builtin_at (Code.quiet_builtin _ (by decide +kernel)) entry_typeCall (wpAny_check_type_call_sub hC0 (x_type_call (hrest := hrest) F X hcB hcA hcN hC hi hfn hq))
end
section
variable {M : Model} {A : Around} {E : Value → Shared → Prop} {env : Env}
theorem x_raiseStmt {s : Shared} {x : Sem Value} {Q : Flow → Shared → Prop} (hcB : (Value.ref C :: bm).contains (.type "BaseException") = true) (hh : A.handled = none)
    (h : wpAny M A x (fun v s₁ => ∃ e t dx, v = .ref e ∧ s₁.heap.get? C = some (excClassObj nm q C N bs bm hdct sn sub ab col dd k0 k1 k2 k3 k5 newId) ∧ s₁.heap.get? e = some (excOf C t dx) ∧ E (.ref e) s₁) E s) :
    wpAny M A (raiseStmt env (some x) none) Q E s := by
  unfold raiseStmt
  refine wpAny_bind (wpAny_mono h (fun v s₁ h₁ => ?_) fun _ _ x => x)
  obtain ⟨e, t, dx, rfl, hC, he, hE⟩ := h₁
  obtain ⟨hp, g, d, tk, os⟩ := s₁
  repeat (first | with_reducible refine wpAny_loadPart_at he ?_ | with_reducible refine wpAny_loadPart_at hC ?_ | (with_reducible refine wpAny_isSubtype_exc hC ?_; rw [hcB]) | wp_step)
  exact wpAny_raiseNew_none hh hE
end
section
variable {prog : Program} {w : World} {A : Around} {E : Value → Shared → Prop} {s : Shared} {env : Env} {K : Frag}
theorem x_Raise (F : ExcBaseFacts B newId initId bmB) {x : Str} {np cpos pos : Pos} {e₀ : Expr} {rest : List Expr} {Q : Flow → Shared → Prop} {fI : Addr}
    (hcE : (Value.ref C :: bm).contains (.type "BaseException") = true) (hcB : (Value.ref C :: bm).contains (.type B) = true) (hcA : (Value.ref C :: bm).contains (.type "AttributeError") = false) (hcN : (Value.ref C :: bm).contains (.type "NameError") = false)
    (hC : K.lookup C = some (excClassObj nm q C N bs bm hdct sn sub ab col dd k0 k1 k2 k3 k5 newId)) (hi : findIn K (.ref C) "__init__" = some (some (.ref fI))) (hfn : typeIn K (.ref fI) = some (.type "function"))
    (hh : A.handled = none) (hplain : (backTo cpos (starEach (e₀ :: rest) env)).any (·.1) = false)
    (h : wpAny (model prog w) A (eval (.Name x np) env) (fun f s₁ => f = .ref C ∧ wpAny (model prog w) A (spliced (backTo cpos (starEach (e₀ :: rest) env)))
      (fun vs s₂ => vs.length ≤ sizeLine ∧ K.In s₂.heap ∧
        wpAny (model prog w) (A.under (.builtin "type.__call__" ⟨.ref C :: vs, []⟩)) (call (.ref fI) (.ref (s₂.heap.objs.size + 1) :: vs))
          (fun r s' => r = .none ∧ K.In s'.heap ∧ (∃ t dx, s'.heap.get? (s₂.heap.objs.size + 1) = some (excOf C t dx)) ∧ E (.ref (s₂.heap.objs.size + 1)) s') E
          { s₂ with heap := (s₂.heap.push (tupO vs)).push (excOf C s₂.heap.objs.size none) }) E s₁) E s)
    (he : starEach (e₀ :: rest) env = (false, eval e₀ env) :: starEach rest env := by rfl) :
    wpAny (model prog w) A (exec (.Raise (some (.Call (.Name x np) (e₀ :: rest) [] cpos)) none pos) env) Q E s := by
  rw [arm_exec_Raise]
  refine wpAny_bind (wpAny_standAt (x_raiseStmt (C := C) (nm := nm) (q := q) (N := N) (bs := bs) (bm := bm) (hdct := hdct) (sn := sn) (sub := sub) (ab := ab) (col := col) (dd := dd) (k0 := k0) (k1 := k1) (k2 := k2) (k3 := k3) (k5 := k5) (newId := newId) hcE hh (wpAny_bind (wpAny_mono (wpAny_Call_ofName (wpAny_mono h (fun f s₁ h₁ => ?_) fun _ _ x => x)) (fun v s₃ h₃ => wpAny_bind (wpAny_standAt (wpAny_pure h₃))) fun _ _ x => x))))
  obtain ⟨rfl, h₁⟩ := h₁
  have h₃ : wpAny (model prog w) A (evalArgs (.ref C) true (backTo cpos (starEach (e₀ :: rest) env)) [])
      (fun a s₂ => a.kw = [] ∧ a.pos.length ≤ sizeLine ∧ K.In s₂.heap ∧
        wpAny (model prog w) (A.under (.builtin "type.__call__" ⟨.ref C :: a.pos, []⟩)) (call (.ref fI) (.ref (s₂.heap.objs.size + 1) :: a.pos))
          (fun r s' => r = .none ∧ K.In s'.heap ∧ (∃ t dx, s'.heap.get? (s₂.heap.objs.size + 1) = some (excOf C t dx)) ∧ E (.ref (s₂.heap.objs.size + 1)) s') E
          { s₂ with heap := (s₂.heap.push (tupO a.pos)).push (excOf C s₂.heap.objs.size none) }) E s₁ := by
    rw [he] at h₁ ⊢
    exact evalArgs_plain (wpAny_mono h₁ (fun vs s₂ h => ⟨rfl, h⟩) fun _ _ x => x)
  unfold callWith
  refine wpAny_bind (wpAny_holding (wpAny_mono h₃ (fun a s₂ h₂ => wpAny_bind (wpAny_standAt ?_)) fun _ _ x => x))
  obtain ⟨apos, akw⟩ := a
  obtain ⟨hkw, hlen, X, h₂⟩ := h₂
  obtain rfl : akw = [] := hkw
  obtain ⟨hp, g, d, tk, os⟩ := s₂
  simp only [hplain]
  refine wpAny_bind (wpAny_keeperOf_exc (X _ _ hC) ?_)
  refine wpAny_bind (x_call (hrest := hlen) F X hcB hcA hcN hC hi hfn (wpAny_mono h₂ (fun r s' hr => ⟨hr.1, ?_⟩) fun _ _ x => x))
  obtain ⟨-, X', ⟨t, dx, he⟩, hE⟩ := hr
  refine wpAny_bind (wpAny_holding (wpAny_point (wpAny_pure ?_)))
  exact ⟨_, t, dx, rfl, X' _ _ hC, he, hE⟩
end
end
end
/-! Exc2 -/
section
open PySem PySem.W PyProof.Rows PySem.Calls
set_option maxRecDepth 100000
section
variable {M : Model} {A : Around} {E : Value → Shared → Prop} {s s' : Shared} {base g g₂ h : Heap} {outer : List Env} {env : Env} {L a e t C : Addr} {m : Str → Option Value} {name : Str} {scope : Scope} {cd : Value} {Q : Unit → Shared → Prop} {news : List (Addr × Obj)}
theorem x_leaves_made {args : List Value} {dx : Option Addr} (hfr : A.frames = some (env :: outer)) (hf : env.frame = some L) (hkb : base.StaysIn h) (hl : h.FunFrames base (env :: outer)) (keeps : ∀ b o, h.get? b = some o → s.heap.get? b = some o)
    (hne : h.get? e = none) (he : s.heap.get? e = some (excOf C t dx)) (htn : h.get? t = none) (ht : s.heap.get? t = some (tupO args))
    (hQ : ∀ h', Heap.FlyingW base outer e (.ref C) (.ref t) h' → h'.TupAt t args → base.get? t = none → s.heap.UpToSlots h' → Q () { s with heap := h' }) : wpAny M A (leaving env (.ref e)) Q E s := by
  have fresh : ∀ b, h.get? b = none → base.get? b = none := fun b hb => by
    cases hq : base.get? b with
    | none => rfl
    | some o' => have := hkb b o' hq; rw [hb] at this; cases this
  refine wpAny_leaving_firstW (a0 := .ref t) hfr (hl.of_keeps fun b o hb _ => ⟨o, keeps b o hb, rfl⟩) hf he (fun b o hb => keeps b o (hkb b o hb)) (fresh e hne) rfl rfl rfl fun h' hL => ?_
  obtain ⟨k1, ⟨_, _, k2⟩, k3, k4⟩ := hL
  exact hQ h' ⟨k1, fresh e hne, k2, k3⟩ (Heap.TupAt.of_slots ⟨_, _, ht, rfl, rfl⟩ k4) (fresh t htn) k4
theorem hide2 {h : Heap} {x y : Addr} {b : Addr} {o : Obj} (hb : h.get? b = some o) (h1 : b ≠ x) (h2 : b ≠ y) : (hideAll h [x, y]).get? b = some o :=
  hideAll_get _ hb fun hm => by
    rcases List.mem_cons.mp hm with q | hm
    · exact h1 q
    · exact h2 (List.mem_singleton.mp hm)
theorem x_leave_raise {args : List Value} {dx : Option Addr} (K : Below A base outer g) (F : Fr g L s'.heap m) (N : News g L s'.heap ((e, excOf C t dx) :: (t, tupO args) :: news)) (h1 : ∀ p ∈ news, p.1 ≠ e) (h2 : ∀ p ∈ news, p.1 ≠ t)
    (hQ : ∀ h', RaisedS base g outer e (.ref C) t args news h' → g.UpToSlots h' → Q () { s' with heap := h' }) (hk : scope.kind = .function := by rfl) :
    wpAny M (A.deeper (envOf name scope L a cd)) (leaving (envOf name scope L a cd) (.ref e)) Q E s' := by
  have he := N _ (.head _)
  have ht := N _ (.tail _ (.head _))
  have kp : ∀ b o, g.get? b = some o → (hideAll s'.heap [e, t]).get? b = some o := fun b o hb => hide2 (F.keep b o hb) (fun q => by rw [q, he.2.2] at hb; cases hb) (fun q => by rw [q, ht.2.2] at hb; cases hb)
  have F' : Fr g L (hideAll s'.heap [e, t]) m := by
    obtain ⟨oL, a1, a2, hL, a3⟩ := F.ns
    exact ⟨⟨oL, a1, a2, hide2 hL (Ne.symm he.2.1) (Ne.symm ht.2.1), a3⟩, kp, F.above⟩
  have N' : News g L (hideAll s'.heap [e, t]) news := fun p hp => ⟨hide2 (N p (.tail _ (.tail _ hp))).1 (h1 p hp) (h2 p hp), (N p (.tail _ (.tail _ hp))).2⟩
  have keeps : ∀ b o, (hideAll s'.heap [e, t]).get? b = some o → s'.heap.get? b = some o := fun b o q => of_hideAll _ q
  have en : (hideAll s'.heap [e, t]).get? e = none := hideAll_none _ (.head _)
  have tn : (hideAll s'.heap [e, t]).get? t = none := hideAll_none _ (.tail _ (.head _))
  generalize hideAll s'.heap [e, t] = h at F' N' keeps en tn
  have K' := K.push (name := name) (a := a) (cd := cd) F' hk
  have hin : ∀ env ∈ (envOf name scope L a cd :: outer), ∀ b, env.frame = some b → b ∈ (envOf name scope L a cd :: outer).filterMap (·.frame) := fun env he b hb => List.mem_filterMap.mpr ⟨env, he, hb⟩
  have st : base.StaysIn (hideAll h ((envOf name scope L a cd :: outer).filterMap (·.frame))) := fun b o q => hideAll_get _ (K'.stays b o q) fun hm => by
    rw [(K'.frames.mem hm).1] at q; cases q
  have sg : ∀ b o, g.get? b = some o → b ∉ outer.filterMap (·.frame) → (hideAll h ((envOf name scope L a cd :: outer).filterMap (·.frame))).get? b = some o := fun b o q nm => hideAll_get _ (F'.keep b o q) fun hm => by
    rcases kts_mem hm with z | z
    · rw [z, kts_self F'] at q
      cases q
    · exact nm z
  have hl : ∀ q ∈ news, (hideAll h ((envOf name scope L a cd :: outer).filterMap (·.frame))).get? q.1 = some q.2 ∧ g.get? q.1 = none ∧ base.get? q.1 = none := fun q hq => by
    refine ⟨hideAll_get _ (N' q hq).1 fun hm => ?_, (N' q hq).2.2, fresh_of_stays K.stays (N' q hq).2.2⟩
    obtain ⟨env, he, hf⟩ := List.mem_filterMap.mp hm
    rcases List.mem_cons.mp he with rfl | he
    · exact (N' q hq).2.1 (Option.some.inj hf).symm
    · obtain ⟨o, ho, _⟩ := (K.frames.mem (List.mem_filterMap.mpr ⟨env, he, hf⟩)).2
      rw [(N' q hq).2.2] at ho; cases ho
  exact x_leaves_made K'.stack rfl (fun b o q => of_hideAll _ q) (funFrames_hide K'.frames hin) keeps en he.1 tn ht.1 fun h' x1 x2 x3 x4 =>
    hQ h' ⟨⟨_, st, sg, hl, x1, x3⟩, x2⟩ (((Heap.UpToSlots.of_keeps F'.keep).trans (Heap.UpToSlots.of_keeps keeps)).trans x4)
end
/-- what a call of `f` that raises does, whoever calls it -/
def RCon (w : World) (f : Addr) (dq uq : Nat) (args : List Value) (Pre : Led → Prop) : Prop :=
  ∀ (tpv : Program) (lov : List Str) (mean : ExcName → Option Value) (mg mb : Str → Option Value) (A : Around) (cn : Str) (cs : Scope) (a : Addr) (ccd : Value) (cl : List (Str × Addr)) (outer : List Env) (A₀ : Around) (base h₀ : Heap) (L : Addr)
    (m : Str → Option Value) (news : Led) (s : Shared) (Q E : Value → Shared → Prop),
    A.handled = none → A.frames = some (envX cn cs L a ccd cl :: outer) → A.depth ≤ dq → A.units ≤ uq → cs.kind = .function →
    Below A₀ base outer h₀ → Fr h₀ L s.heap m → (kz w.params).In h₀ → News h₀ L s.heap news → Apart news → Top tpv lov mean mg mb h₀ → Pre news →
    (∀ e t vs g₂ h' tk', Fr h₀ L g₂ m → RaisedS base g₂ (envX cn cs L a ccd cl :: outer) e (.ref 72) t vs news h' → g₂.UpToSlots h' → E (.ref e) { s with heap := h', toks := tk' }) →
    wpAny (model PySem.Challenge.rw_xm0664_01.row.prog w) A (call (.ref f) args) Q E s
theorem RCon.of {w : World} {f : Addr} {dq uq : Nat} {args : List Value} {Pre : Led → Prop}
    (h : ∀ (tpv : Program) (lov : List Str) (mean : ExcName → Option Value) (mg mb : Str → Option Value) (gd : Option (List Code)) (cn : Str) (cs : Scope) (a : Addr) (ccd : Value) (cl : List (Str × Addr)) (outer : List Env) (A₀ : Around) (base h₀ : Heap) (L : Addr)
      (m : Str → Option Value) (news : Led) (s : Shared) (Q E : Value → Shared → Prop),
      cs.kind = .function → Below A₀ base outer h₀ → Fr h₀ L s.heap m → (kz w.params).In h₀ → News h₀ L s.heap news → Apart news → Top tpv lov mean mg mb h₀ → Pre news →
      (∀ e t vs g₂ h' tk', Fr h₀ L g₂ m → RaisedS base g₂ (envX cn cs L a ccd cl :: outer) e (.ref 72) t vs news h' → g₂.UpToSlots h' → E (.ref e) { s with heap := h', toks := tk' }) →
      wpAny (model PySem.Challenge.rw_xm0664_01.row.prog w) (ktrTop dq uq gd cn cs L a ccd cl outer) (call (.ref f) args) Q E s) : RCon w f dq uq args Pre := by
  intro tpv lov mean mg mb A cn cs a ccd cl outer A₀ base h₀ L m news s Q E hh hf hdp hu hk B F X N D T P ret
  exact wpAny_room (h tpv lov mean mg mb A.guards cn cs a ccd cl outer A₀ base h₀ L m news s Q E hk B F X N D T P ret) hh hf rfl hdp hu
theorem RCon.use {w : World} {f : Addr} {dq uq : Nat} {args : List Value} {Pre : Led → Prop} {tpv : Program} {lov : List Str} {mean : ExcName → Option Value} {mg mb : Str → Option Value} {A : Around} {cn : Str} {cs : Scope} {a : Addr} {ccd : Value} {cl : List (Str × Addr)} {outer : List Env}
    {A₀ : Around} {base h₀ : Heap} {L : Addr} {m : Str → Option Value} {news : Led} {s : Shared} {Q E : Value → Shared → Prop}
    (C : RCon w f dq uq args Pre) (hh : A.handled = none) (hf : A.frames = some (envX cn cs L a ccd cl :: outer)) (hdp : A.depth ≤ dq) (hu : A.units ≤ uq) (hk : cs.kind = .function)
    (B : Below A₀ base outer h₀) (F : Fr h₀ L s.heap m) (X : (kz w.params).In h₀) (N : News h₀ L s.heap news) (T : Top tpv lov mean mg mb h₀) (D : Apart news) (P : Pre news)
    (ret : ∀ e t vs g₂ h' tk', Fr h₀ L g₂ m → RaisedS base g₂ (envX cn cs L a ccd cl :: outer) e (.ref 72) t vs news h' → g₂.UpToSlots h' → E (.ref e) { s with heap := h', toks := tk' }) :
    wpAny (model PySem.Challenge.rw_xm0664_01.row.prog w) A (call (.ref f) args) Q E s :=
  C tpv lov mean mg mb A cn cs a ccd cl outer A₀ base h₀ L m news s Q E hh hf hdp hu hk B F X N D T P ret
end
/-! C12 -/
section
variable {w : World} {t : Tok} {rest : Led}
theorem Apart.permK' {l l' : Led} (h : (l.map (·.1)).Perm (l'.map (·.1))) (A : Apart l) : Apart l' := h.nodup_iff.mp A
theorem keys_permC {l l' : Led} (h : ∀ z : Nat, (l.map (·.1)).count z = (l'.map (·.1)).count z) : (l.map (·.1)).Perm (l'.map (·.1)) := List.perm_iff_count.mpr h
theorem meta_Exception : typeOf (.type "Exception") = pure (.type "type") := by first | rfl | kernel_rfl
end
local macro_rules | `(tactic| walk_at "getMethod type:Exception") => `(tactic| (k_here; refine' method_type ?F ?X ?m (by decide +kernel) ?e ?h ?_; (case F => k_asm); (case X => k_asm); (case m => exact meta_Exception); (case e => k_dflt k_is); (case h => k_handed)))
section
variable {w : World} {t : Tok} {rest : Led}
theorem refuse_exc (y : Value) : refuseLoop y "__setattr__" [.ref 72, .ref 59, .type "Exception", .type "BaseException", .type "object"] = pure () := by
  rw [refuseLoop_ref, refuseLoop_ref]
  exact PySem.F.store_Exception.passes y
set_option maxRecDepth 100000 in
set_option maxHeartbeats 8000000 in
theorem c_init {e t0 : Addr} {msg : Str} {tm : Tok} :
    Con w 56 930 9300 [.ref e, .str msg tm] (fun n => n = (e, excOf 72 t0 none) :: rest)
      (fun _ v n' => v = .none ∧ ∃ t1 d od, n' = (e, excOf 72 t1 (some d)) :: (d, od) :: (t1, tupO [.str msg tm]) :: rest ∧ (∀ p ∈ rest, p.1 < t1) ∧ @LT.lt Nat _ e t1 ∧ @LT.lt Nat _ t1 d) := by
  refine Con.of fun tpv lov mean mg mb gd cn cs a ccd cl outer A₀ base h₀ L m news s Q E hkk B F X N Ap T P ret => ?_
  subst P
  have hne := Ap.ne
  refine wpAny_call ?_
  k_dflt ktr_enter
  repeat' (first | (k_unfold; (try dsimp only)) | ((fail_if_success (with_reducible show wpAny _ _ (call (Value.ref _) _ _) _ _ _)); walk1) | (dsimp only; ((fail_if_success (with_reducible show wpAny _ _ (call (Value.ref _) _ _) _ _ _)); walk1)))
  refine' x_init_led (K := kz w.params) PySem.F.excBase_Exception ?F ?X ?N hne ?C ?B ?_ ?z
  case F => k_asm
  case X => k_asm
  case N => k_asm
  case C => k_is
  case B => rfl
  case z => exact line_le (Nat.le_of_ble_eq_true rfl)
  intro t1 h1 F1 N1 l1 l2
  repeat' (first | (k_unfold; (try dsimp only)) | ((fail_if_success (with_reducible show wpAny _ _ (call (Value.ref _) _ _) _ _ _)); walk1) | (dsimp only; ((fail_if_success (with_reducible show wpAny _ _ (call (Value.ref _) _ _) _ _ _)); walk1)))
  refine' x_set (K := kz w.params) ?F ?X N1 ?n ?c ?f ?s ?cc ?d ?me ?o ?p ?t ?_
  case F => k_asm
  case X => k_asm
  case n => intro p hp; rcases List.mem_cons.mp hp with rfl | hp; exact neN (by omega); exact hne p hp
  case c => intro c q; cases q
  case f => rfl
  case s => k_is
  case cc => k_is
  case d => rfl
  case me => rfl
  case o => rfl
  case p => exact fun y => refuse_exc _
  case t => k_is
  intro d od h2 tk2 F2 N2 l3 l4
  repeat' (first | (k_unfold; (try dsimp only)) | ((fail_if_success (with_reducible show wpAny _ _ (call (Value.ref _) _ _) _ _ _)); walk1) | (dsimp only; ((fail_if_success (with_reducible show wpAny _ _ (call (Value.ref _) _ _) _ _ _)); walk1)))
  refine ret _ _ _ _ (by k_asm) (by k_asm) ?_ ⟨rfl, _, _, _, rfl, l2, l1, l4 _ (.head _)⟩
  have A1 : Apart ((t1, tupO [.str msg tm]) :: (e, excOf 72 t0 none) :: rest) := Apart.cons (by intro p hp; rcases List.mem_cons.mp hp with rfl | hp; exact l1; exact l2 p hp) Ap
  have A2 : Apart ((d, od) :: (t1, tupO [.str msg tm]) :: (e, excOf 72 t0 none) :: rest) := Apart.cons (by
    intro p hp
    rcases List.mem_cons.mp hp with rfl | hp
    · exact l4 _ (.head _)
    rcases List.mem_cons.mp hp with rfl | hp
    · exact l3
    · exact l4 _ (.tail _ hp)) A1
  refine A2.permK' (keys_permC fun z => ?_)
  simp only [List.map_cons, List.count_cons]
  omega
theorem x_made {C : Addr} {h₀ h : Heap} {L : Addr} {m : Str → Option Value} {news : Led} {vs : List Value} (F : Fr h₀ L h m) (N : News h₀ L h news) (Ap : Apart news) :
    Fr h₀ L ((h.push (tupO vs)).push (excOf C h.objs.size none)) m ∧ News h₀ L ((h.push (tupO vs)).push (excOf C h.objs.size none)) ((h.objs.size + 1, excOf C h.objs.size none) :: (h.objs.size, tupO vs) :: news) ∧
      Apart ((h.objs.size + 1, excOf C h.objs.size none) :: (h.objs.size, tupO vs) :: news) := by
  have N1 := N.push F (tupO vs)
  have F1 := F.push (tupO vs)
  have N2 := N1.push F1 (excOf C h.objs.size none)
  rw [Heap.size_push] at N2
  have lt : ∀ p ∈ news, p.1 < h.objs.size := fun p hp => Heap.lt_size (N p hp).1
  refine ⟨F1.push _, N2, Apart.cons (fun p hp => ?_) (Apart.cons lt Ap)⟩
  rcases List.mem_cons.mp hp with rfl | hp
  · exact Nat.lt_succ_self _
  · exact Nat.lt_succ_of_lt (lt p hp)
theorem x_init_use {msg : Str} {tm : Tok} {tpv : Program} {lov : List Str} {mean : ExcName → Option Value} {mg mb : Str → Option Value} {A : Around} {cn : Str} {cs : Scope} {a : Addr} {ccd : Value} {cl : List (Str × Addr)} {outer : List Env} {A₀ : Around} {base h₀ h : Heap} {L : Addr}
    {m : Str → Option Value} {news : Led} {g : Array GenState} {dr : Drawn} {tk : Nat} {os : OsState} {E : Value → Shared → Prop}
    (hh : A.handled = none) (hf : A.frames = some (envX cn cs L a ccd cl :: outer)) (hdp : A.depth ≤ 930) (hu : A.units ≤ 9300) (hk : cs.kind = .function)
    (B : Below A₀ base outer h₀) (F : Fr h₀ L h m) (X : (kz w.params).In h₀) (N : News h₀ L h news) (T : Top tpv lov mean mg mb h₀) (Ap : Apart news)
    (k : ∀ e t1 dx h' tk', Fr h₀ L h' m → News h₀ L h' ((e, excOf 72 t1 dx) :: (t1, tupO [.str msg tm]) :: news) → (∀ p ∈ news, p.1 ≠ e) → (∀ p ∈ news, p.1 ≠ t1) → E (.ref e) ⟨h', g, dr, tk', os⟩) :
    wpAny (model PySem.Challenge.rw_xm0664_01.row.prog w) A (call (.ref 56) [.ref (h.objs.size + 1), .str msg tm])
      (fun r s' => r = .none ∧ (kz w.params).In s'.heap ∧ (∃ t dx, s'.heap.get? (h.objs.size + 1) = some (excOf 72 t dx)) ∧ E (.ref (h.objs.size + 1)) s') E
      ⟨(h.push (tupO [.str msg tm])).push (excOf 72 h.objs.size none), g, dr, tk, os⟩ := by
  obtain ⟨F5, N5, A5⟩ := x_made (C := 72) (vs := [.str msg tm]) F N Ap
  refine Con.use (c_init (rest := (h.objs.size, tupO [.str msg tm]) :: news)) hh hf hdp hu hk B F5 X N5 T A5 rfl ?_
  rintro v n1 h1 tk1 F6 N6 Ap6 ⟨rfl, t1, d, od, rfl, l1, l2, l3⟩
  refine ⟨rfl, X.keeps F6.keep, ⟨t1, some d, (N6 _ (.head _)).1⟩, k _ t1 (some d) h1 tk1 F6 (News_subN N6 ?_) (fun p hp => A5.ne p (.tail _ hp)) (fun p hp => neN (Nat.ne_of_lt (l1 p (.tail _ hp))))⟩
  intro q hq
  rcases List.mem_cons.mp hq with rfl | hq
  · exact .head _
  rcases List.mem_cons.mp hq with rfl | hq
  · exact .tail _ (.tail _ (.head _))
  · exact .tail _ (.tail _ (.tail _ (.tail _ hq)))
variable {D : TreeD} {i : Nat} {r : RowD}
set_option maxRecDepth 100000 in
set_option maxHeartbeats 8000000 in
theorem r_row {k : Int} (hk : k < 0 ∨ (D.rows.length : Int) ≤ k) (hz : D.rows.length < 1000) :
    RCon w 138 900 9000 [.ref D.tr, .int k t] (fun n => ∀ p ∈ D.led w, p ∈ n) := by
  refine RCon.of fun tpv lov mean mg mb gd cn cs a ccd cl outer A₀ base h₀ L m news s Q E hkk B F X N Ap T P ret => ?_
  have h1 := P _ (mem_top1 w D)
  have h2 := P _ (mem_top2 w D)
  have h3 := P _ (mem_top3 w D)
  have hlr : D.refs.length = D.rows.length := by show (D.rows.map _).length = _; rw [List.length_map]
  have hlz : D.refs.length < 1000000 := by omega
  rw [← hlr] at hk hz
  generalize D.refs = rs at *
  refine wpAny_call ?_
  k_dflt ktr_enter
  repeat' (first | (k_unfold; (try dsimp only)) | ((fail_if_success (with_reducible show wpAny _ _ (call (Value.ref _) _ _) _ _ _)); (fail_if_success (with_reducible show wpAny _ _ (exec (Stmt.Raise _ _ _) _) _ _ _)); walk1) | (dsimp only; ((fail_if_success (with_reducible show wpAny _ _ (call (Value.ref _) _ _) _ _ _)); (fail_if_success (with_reducible show wpAny _ _ (exec (Stmt.Raise _ _ _) _) _ _ _)); walk1)))
  all_goals (
    refine' x_Raise (K := kz w.params) (C := 72) PySem.F.excBase_Exception ?r1 ?r2 ?r3 ?r4 ?r5 ?r6 ?r7 ?r8 ?r9 ?_
    case r5 => k_is
    case r1 => rfl
    case r2 => rfl
    case r3 => rfl
    case r4 => rfl
    case r6 => k_is
    case r7 => k_is
    case r8 => rfl
    case r9 => rfl
    repeat' (first | (k_unfold; (try dsimp only)) | ((fail_if_success (with_reducible show wpAny _ _ (call (Value.ref _) _ _) _ _ _)); walk1) | (dsimp only; ((fail_if_success (with_reducible show wpAny _ _ (call (Value.ref _) _ _) _ _ _)); walk1)))
    refine' x_init_use ?i1 ?i2 ?i3 ?i4 ?i5 ?i6 ?i7 ?i8 ?i9 ?i10 Ap ?_
    case i1 => rfl
    case i2 => exact rfl
    case i3 => exact Nat.le_of_ble_eq_true rfl
    case i4 => exact Nat.le_of_ble_eq_true rfl
    case i5 => rfl
    case i6 => k_asm
    case i7 => k_asm
    case i8 => k_asm
    case i9 => k_asm
    case i10 => k_asm
    intro e t1 dx h5 tk5 F5 N5 n1 n2
    repeat' (first | (k_unfold; (try dsimp only)) | ((fail_if_success (with_reducible show wpAny _ _ (call (Value.ref _) _ _) _ _ _)); (fail_if_success (with_reducible show wpAny _ _ (exec (Stmt.Raise _ _ _) _) _ _ _)); walk1) | (dsimp only; ((fail_if_success (with_reducible show wpAny _ _ (call (Value.ref _) _ _) _ _ _)); (fail_if_success (with_reducible show wpAny _ _ (exec (Stmt.Raise _ _ _) _) _ _ _)); walk1)))
    refine' x_leave_raise ?j1 F5 N5 n1 n2 ?_
    case j1 => k_asm
    intro h6 R6 U6
    exact ret _ _ _ _ _ _ (by k_asm) R6 U6)
set_option maxRecDepth 100000 in
set_option maxHeartbeats 8000000 in
theorem r_kind {k : Int} (hk : k < 0 ∨ (D.rows.length : Int) ≤ k) (hz : D.rows.length < 1000) :
    RCon w 215 890 8900 [.ref D.tr, .int k t] (fun n => ∀ p ∈ D.led w, p ∈ n) := by
  refine RCon.of fun tpv lov mean mg mb gd cn cs a ccd cl outer A₀ base h₀ L m news s Q E hkk B F X N Ap T P ret => ?_
  have h1 := P _ (mem_top1 w D)
  have h2 := P _ (mem_top2 w D)
  refine wpAny_call ?_
  k_dflt ktr_enter
  repeat' (first | (k_unfold; (try dsimp only)) | ((fail_if_success (with_reducible show wpAny _ _ (call (Value.ref _) _ _) _ _ _)); walk1) | (dsimp only; ((fail_if_success (with_reducible show wpAny _ _ (call (Value.ref _) _ _) _ _ _)); walk1)))
  (refine' RCon.use (r_row hk hz) ?uhh57 ?uhf57 ?uhdp57 ?uhu57 ?uhk57 ?uB57 ?uF57 ?uX57 ?uN57 ?uT57 ?uAp57 ?uP57 ?_; (case uhh57 => exact rfl); (case uhf57 => exact rfl); (case uhdp57 => exact Nat.le_of_ble_eq_true rfl); (case uhu57 => exact Nat.le_of_ble_eq_true rfl); (case uhk57 => first | assumption | exact rfl); (case uB57 => k_asm); (case uF57 => k_asm); (case uX57 => k_asm); (case uN57 => k_asm); (case uT57 => k_asm); (case uAp57 => first | assumption | (repeat' (first | assumption | refine Apart.cons (by first | assumption | exact tb_ltOf (by assumption)) ?_))))
  · exact P
  intro e t vs g₂ h5 tk5 F5 R5 U5
  repeat' (first | (k_unfold; (try dsimp only)) | ((fail_if_success (with_reducible show wpAny _ _ (call (Value.ref _) _ _) _ _ _)); (fail_if_success (with_reducible show wpAny _ _ (exec (Stmt.Raise _ _ _) _) _ _ _)); walk1) | (dsimp only; ((fail_if_success (with_reducible show wpAny _ _ (call (Value.ref _) _ _) _ _ _)); (fail_if_success (with_reducible show wpAny _ _ (exec (Stmt.Raise _ _ _) _) _ _ _)); walk1)))
  refine' leave_onS ?j1 F5 R5 U5 ?_
  case j1 => k_asm
  intro h6 R6 _ U6
  exact ret _ _ _ _ _ _ (by k_asm) R6 U6
set_option maxRecDepth 100000 in
set_option maxHeartbeats 8000000 in
theorem r_parent {k : Int} (hk : k < 0 ∨ (D.rows.length : Int) ≤ k) (hz : D.rows.length < 1000) :
    RCon w 250 890 8900 [.ref D.tr, .int k t] (fun n => ∀ p ∈ D.led w, p ∈ n) := by
  refine RCon.of fun tpv lov mean mg mb gd cn cs a ccd cl outer A₀ base h₀ L m news s Q E hkk B F X N Ap T P ret => ?_
  have h1 := P _ (mem_top1 w D)
  have h2 := P _ (mem_top2 w D)
  refine wpAny_call ?_
  k_dflt ktr_enter
  repeat' (first | (k_unfold; (try dsimp only)) | ((fail_if_success (with_reducible show wpAny _ _ (call (Value.ref _) _ _) _ _ _)); walk1) | (dsimp only; ((fail_if_success (with_reducible show wpAny _ _ (call (Value.ref _) _ _) _ _ _)); walk1)))
  (refine' RCon.use (r_row hk hz) ?uhh58 ?uhf58 ?uhdp58 ?uhu58 ?uhk58 ?uB58 ?uF58 ?uX58 ?uN58 ?uT58 ?uAp58 ?uP58 ?_; (case uhh58 => exact rfl); (case uhf58 => exact rfl); (case uhdp58 => exact Nat.le_of_ble_eq_true rfl); (case uhu58 => exact Nat.le_of_ble_eq_true rfl); (case uhk58 => first | assumption | exact rfl); (case uB58 => k_asm); (case uF58 => k_asm); (case uX58 => k_asm); (case uN58 => k_asm); (case uT58 => k_asm); (case uAp58 => first | assumption | (repeat' (first | assumption | refine Apart.cons (by first | assumption | exact tb_ltOf (by assumption)) ?_))))
  · exact P
  intro e t vs g₂ h5 tk5 F5 R5 U5
  repeat' (first | (k_unfold; (try dsimp only)) | ((fail_if_success (with_reducible show wpAny _ _ (call (Value.ref _) _ _) _ _ _)); (fail_if_success (with_reducible show wpAny _ _ (exec (Stmt.Raise _ _ _) _) _ _ _)); walk1) | (dsimp only; ((fail_if_success (with_reducible show wpAny _ _ (call (Value.ref _) _ _) _ _ _)); (fail_if_success (with_reducible show wpAny _ _ (exec (Stmt.Raise _ _ _) _) _ _ _)); walk1)))
  refine' leave_onS ?j1 F5 R5 U5 ?_
  case j1 => k_asm
  intro h6 R6 _ U6
  exact ret _ _ _ _ _ _ (by k_asm) R6 U6
set_option maxRecDepth 100000 in
set_option maxHeartbeats 8000000 in
theorem r_is_beside {k : Int} (hk : k < 0 ∨ (D.rows.length : Int) ≤ k) (hz : D.rows.length < 1000) :
    RCon w 28 880 8800 [.ref D.tr, .int k t] (fun n => ∀ p ∈ D.led w, p ∈ n) := by
  refine RCon.of fun tpv lov mean mg mb gd cn cs a ccd cl outer A₀ base h₀ L m news s Q E hkk B F X N Ap T P ret => ?_
  have h1 := P _ (mem_top1 w D)
  have h2 := P _ (mem_top2 w D)
  refine wpAny_call ?_
  k_dflt ktr_enter
  repeat' (first | (k_unfold; (try dsimp only)) | ((fail_if_success (with_reducible show wpAny _ _ (call (Value.ref _) _ _) _ _ _)); walk1) | (dsimp only; ((fail_if_success (with_reducible show wpAny _ _ (call (Value.ref _) _ _) _ _ _)); walk1)))
  (refine' RCon.use (r_kind hk hz) ?uhh59 ?uhf59 ?uhdp59 ?uhu59 ?uhk59 ?uB59 ?uF59 ?uX59 ?uN59 ?uT59 ?uAp59 ?uP59 ?_; (case uhh59 => exact rfl); (case uhf59 => exact rfl); (case uhdp59 => exact Nat.le_of_ble_eq_true rfl); (case uhu59 => exact Nat.le_of_ble_eq_true rfl); (case uhk59 => first | assumption | exact rfl); (case uB59 => k_asm); (case uF59 => k_asm); (case uX59 => k_asm); (case uN59 => k_asm); (case uT59 => k_asm); (case uAp59 => first | assumption | (repeat' (first | assumption | refine Apart.cons (by first | assumption | exact tb_ltOf (by assumption)) ?_))))
  · exact P
  intro e t vs g₂ h5 tk5 F5 R5 U5
  repeat' (first | (k_unfold; (try dsimp only)) | ((fail_if_success (with_reducible show wpAny _ _ (call (Value.ref _) _ _) _ _ _)); (fail_if_success (with_reducible show wpAny _ _ (exec (Stmt.Raise _ _ _) _) _ _ _)); walk1) | (dsimp only; ((fail_if_success (with_reducible show wpAny _ _ (call (Value.ref _) _ _) _ _ _)); (fail_if_success (with_reducible show wpAny _ _ (exec (Stmt.Raise _ _ _) _) _ _ _)); walk1)))
  refine' leave_onS ?j1 F5 R5 U5 ?_
  case j1 => k_asm
  intro h6 R6 _ U6
  exact ret _ _ _ _ _ _ (by k_asm) R6 U6
set_option maxRecDepth 100000 in
set_option maxHeartbeats 8000000 in
theorem r_ahead {k : Int} (hk : k < 0 ∨ (D.rows.length : Int) ≤ k) (hz : D.rows.length < 1000) :
    RCon w 35 870 8700 [.ref D.tr, .int k t] (fun n => ∀ p ∈ D.led w, p ∈ n) := by
  refine RCon.of fun tpv lov mean mg mb gd cn cs a ccd cl outer A₀ base h₀ L m news s Q E hkk B F X N Ap T P ret => ?_
  have h1 := P _ (mem_top1 w D)
  have h2 := P _ (mem_top2 w D)
  refine wpAny_call ?_
  k_dflt ktr_enter
  repeat' (first | (k_unfold; (try dsimp only)) | ((fail_if_success (with_reducible show wpAny _ _ (call (Value.ref _) _ _) _ _ _)); walk1) | (dsimp only; ((fail_if_success (with_reducible show wpAny _ _ (call (Value.ref _) _ _) _ _ _)); walk1)))
  (refine' RCon.use (r_parent hk hz) ?uhh60 ?uhf60 ?uhdp60 ?uhu60 ?uhk60 ?uB60 ?uF60 ?uX60 ?uN60 ?uT60 ?uAp60 ?uP60 ?_; (case uhh60 => exact rfl); (case uhf60 => exact rfl); (case uhdp60 => exact Nat.le_of_ble_eq_true rfl); (case uhu60 => exact Nat.le_of_ble_eq_true rfl); (case uhk60 => first | assumption | exact rfl); (case uB60 => k_asm); (case uF60 => k_asm); (case uX60 => k_asm); (case uN60 => k_asm); (case uT60 => k_asm); (case uAp60 => first | assumption | (repeat' (first | assumption | refine Apart.cons (by first | assumption | exact tb_ltOf (by assumption)) ?_))))
  · exact P
  intro e t vs g₂ h5 tk5 F5 R5 U5
  repeat' (first | (k_unfold; (try dsimp only)) | ((fail_if_success (with_reducible show wpAny _ _ (call (Value.ref _) _ _) _ _ _)); (fail_if_success (with_reducible show wpAny _ _ (exec (Stmt.Raise _ _ _) _) _ _ _)); walk1) | (dsimp only; ((fail_if_success (with_reducible show wpAny _ _ (call (Value.ref _) _ _) _ _ _)); (fail_if_success (with_reducible show wpAny _ _ (exec (Stmt.Raise _ _ _) _) _ _ _)); walk1)))
  refine' leave_onS ?j1 F5 R5 U5 ?_
  case j1 => k_asm
  intro h6 R6 _ U6
  exact ret _ _ _ _ _ _ (by k_asm) R6 U6
set_option maxRecDepth 100000 in
set_option maxHeartbeats 8000000 in
theorem r_behind {k : Int} (hk : k < 0 ∨ (D.rows.length : Int) ≤ k) (hz : D.rows.length < 1000) :
    RCon w 42 870 8700 [.ref D.tr, .int k t] (fun n => ∀ p ∈ D.led w, p ∈ n) := by
  refine RCon.of fun tpv lov mean mg mb gd cn cs a ccd cl outer A₀ base h₀ L m news s Q E hkk B F X N Ap T P ret => ?_
  have h1 := P _ (mem_top1 w D)
  have h2 := P _ (mem_top2 w D)
  refine wpAny_call ?_
  k_dflt ktr_enter
  repeat' (first | (k_unfold; (try dsimp only)) | ((fail_if_success (with_reducible show wpAny _ _ (call (Value.ref _) _ _) _ _ _)); walk1) | (dsimp only; ((fail_if_success (with_reducible show wpAny _ _ (call (Value.ref _) _ _) _ _ _)); walk1)))
  (refine' RCon.use (r_parent hk hz) ?uhh61 ?uhf61 ?uhdp61 ?uhu61 ?uhk61 ?uB61 ?uF61 ?uX61 ?uN61 ?uT61 ?uAp61 ?uP61 ?_; (case uhh61 => exact rfl); (case uhf61 => exact rfl); (case uhdp61 => exact Nat.le_of_ble_eq_true rfl); (case uhu61 => exact Nat.le_of_ble_eq_true rfl); (case uhk61 => first | assumption | exact rfl); (case uB61 => k_asm); (case uF61 => k_asm); (case uX61 => k_asm); (case uN61 => k_asm); (case uT61 => k_asm); (case uAp61 => first | assumption | (repeat' (first | assumption | refine Apart.cons (by first | assumption | exact tb_ltOf (by assumption)) ?_))))
  · exact P
  intro e t vs g₂ h5 tk5 F5 R5 U5
  repeat' (first | (k_unfold; (try dsimp only)) | ((fail_if_success (with_reducible show wpAny _ _ (call (Value.ref _) _ _) _ _ _)); (fail_if_success (with_reducible show wpAny _ _ (exec (Stmt.Raise _ _ _) _) _ _ _)); walk1) | (dsimp only; ((fail_if_success (with_reducible show wpAny _ _ (call (Value.ref _) _ _) _ _ _)); (fail_if_success (with_reducible show wpAny _ _ (exec (Stmt.Raise _ _ _) _) _ _ _)); walk1)))
  refine' leave_onS ?j1 F5 R5 U5 ?_
  case j1 => k_asm
  intro h6 R6 _ U6
  exact ret _ _ _ _ _ _ (by k_asm) R6 U6
end
/-! Exc3 -/
section
open PySem PySem.W PyProof.Rows PySem.Calls
set_option maxRecDepth 100000
section
variable {prog : Program} {w : World} {A₀ A : Around} {s : Shared} {base h₀ : Heap} {L a : Addr} {m : Str → Option Value} {cn : Str} {cs : Scope} {ccd : Value} {cl : List (Str × Addr)} {news : Led} {K : Frag} {p : Program} {loose : List Str} {mean : ExcName → Option Value} {mg mb : Str → Option Value}
    {R : Result → Shared → Prop} {name qual : Str} {params : Arguments} {body : List Stmt} {scope : Scope} {dV kV doc pm cdv ct oc : Value} {an od : Option Addr} {osl : Array (Option Value)} {f : Addr} {args : Args} {binds : List (Str × Value)} {env : Env}
theorem x_ground (B : Below A₀ base [] h₀) (F : Fr h₀ L s.heap m) (N : News h₀ L s.heap news) (hA : A.frames = some [env]) (hf : env.frame = some L) (hke : env.scope.kind = .function) :
    Fr h₀ L (hideAll s.heap (news.map (·.1))) m ∧ Below A base [env] (hideAll s.heap (news.map (·.1))) ∧ h₀.StaysIn (hideAll s.heap (news.map (·.1))) ∧ KtsDicts [L] (hideAll s.heap (news.map (·.1))) ∧
      ∀ v s', LeaveS0 [L] h₀ L m (hideAll s.heap (news.map (·.1))) R v s' → R (.ok (.ret v)) s' := by
  obtain ⟨F1, B1, st, -⟩ := groundX (R := R) B F N hA hf hke
  obtain ⟨oL, es, ep, hLg, hLd, hLk, hLf⟩ := F1.ns
  refine ⟨F1, B1, st, fun b hb => ?_, fun v s' hl => ?_⟩
  · rw [List.mem_singleton.mp hb]
    exact ⟨oL, es, ep, hLg, hLd⟩
  · obtain ⟨g', L', m', news', T', F', N', k⟩ := hl
    have nL₀ : h₀.get? L = none := kts_self F
    obtain ⟨sl, hs⟩ := T'.up hLg
    refine k ⟨⟨_, es, ep, F'.keep _ _ hs, hLd, hLk, hLf⟩, fun b o e => F'.keep b o (T'.other b o (st b o e) (fun q => by
      rw [List.mem_singleton.mp q, nL₀] at e
      cases e)), F.above⟩ fun p hp => ⟨(N' p hp).1, fun q => ?_, ?_⟩
    · have := (N' p hp).2.2; rw [q, hs] at this; cases this
    · cases q : h₀.get? p.1 with
      | none => rfl
      | some o =>
        obtain ⟨sl', hs'⟩ := T'.up (st _ _ q)
        have := (N' p hp).2.2
        rw [hs'] at this
        cases this
theorem x_def (B : Below A₀ base [] h₀) (F : Fr h₀ L s.heap m) (X₀ : K.In h₀) (N : News h₀ L s.heap news) (T : Top p loose mean mg mb h₀) (hA : A.frames = some [envX cn cs L a ccd cl]) (hck : cs.kind = .function)
    (ho : K.lookup f = some ⟨oc, od, .func (fnOf name qual params body scope dV kV doc pm an cdv ct), osl⟩) (hcd : codeIn K cdv qual = true) (hroom : A.depth < recursionLimit)
    (hbind : BindsTo s (fnOf name qual params body scope dV kV doc pm an cdv ct) args binds) (hloc : ∀ y ∈ binds, scope.names.lookup y.1 = some .local)
    (h : ∀ g L' h₁, Fr h₀ L g m → Fr g L' h₁ (fun y => binds.reverse.lookup y) → News g L' h₁ news → Below A base [envX cn cs L a ccd cl] g → K.In g → Top p loose mean mg mb g → KtsDicts [L] g →
      wpAny (model prog w) (A.deeper (envOf qual scope L' f cdv)) (execs body (envOf qual scope L' f cdv))
        (fun fl s' => LeaveS0 [L] h₀ L m g R (match fl with | .ret v => v | _ => .none) s')
        (fun e s' => wpAny (model prog w) (A.deeper (envOf qual scope L' f cdv)) (leaving (envOf qual scope L' f cdv) e) (fun _ s'' => R (.error e) s'') (fun e' s'' => R (.error e') s'') s')
        { s with heap := h₁, toks := s.toks + binds.length })
    (hcell : ∀ x ∈ scope.names, x.2 ≠ .cell) (hco : scope.isCoroutine = false := by rfl) (hgen : scope.isGenerator = false := by rfl) (hk : scope.kind = .function := by rfl) : codeAny (model prog w) A (.call (.ref f) args) R s := by
  have X := X₀.keeps F.keep
  obtain ⟨FG, BG, st, DG, lv⟩ := x_ground (R := R) B F N hA rfl hck
  refine codeAny_call_def (fd := fnOf name qual params body scope dV kV doc pm an cdv ct) (body := body) (binds := binds) hroom (X _ _ ho) rfl (T.nolimit.keeps F.keep) (codeRec_of X hcd) rfl hbind hcell hloc (fun h₁ hns hk₁ => ?_) hco hgen hk
  exact wpAny_mono (h _ s.heap.objs.size h₁ FG ⟨hns, fun b o e => hk₁ b o (of_hideAll _ e), Nat.le_of_eq (hideAll_size _ _)⟩
    (fun p hp => ⟨hk₁ _ _ (N p hp).1, Nat.ne_of_lt (Heap.lt_size (N p hp).1), hideAll_none _ (List.mem_map_of_mem hp)⟩) BG (X₀.keeps st) (T.keeps st) DG) (fun fl s' hl => lv _ _ hl) fun _ _ y => y
end
end
/-! C14 -/
section
variable {w : World} {t : Tok} {D : TreeD}
set_option maxRecDepth 100000 in
set_option maxHeartbeats 8000000 in
theorem c_is_refused {f tr : Addr} {k : Int} (ht : D.tr = tr) (hkf : keepIn (kz w.params) (.ref f) = true) (R : ∀ t', RCon w f 870 8700 [.ref D.tr, .int k t'] (fun n => ∀ p ∈ D.led w, p ∈ n))
    {tpv : Program} {lov : List Str} {mean : ExcName → Option Value} {mg mb : Str → Option Value} {A : Around} {cn : Str} {cs : Scope} {a : Addr} {ccd : Value} {cl : List (Str × Addr)} {A₀ : Around} {base h₀ : Heap} {L : Addr}
    {m : Str → Option Value} {news : Led} {s : Shared} {Q E : Value → Shared → Prop}
    (hh : A.handled = none) (hf : A.frames = some [envX cn cs L a ccd cl]) (hdp : A.depth ≤ 800) (hu : A.units ≤ 8000) (hk : cs.kind = .function)
    (B : Below A₀ base [] h₀) (XB : (kz w.params).In base) (TB : Top tpv lov mean mg mb base) (F : Fr h₀ L s.heap m) (X : (kz w.params).In h₀) (N : News h₀ L s.heap news) (T : Top tpv lov mean mg mb h₀) (Ap : Apart news) (P : ∀ p ∈ D.led w, p ∈ news)
    (ret : ∀ h' tk', Fr h₀ L h' m → News h₀ L h' news → Q (.bool true) { s with heap := h', toks := tk' }) :
    wpAny (model PySem.Challenge.rw_xm0664_01.row.prog w) A (call (.ref 346) [.ref f, .ref tr, .int k t]) Q E s := by
  subst ht
  refine wpAny_room (A' := ktrTop 800 8000 A.guards cn cs L a ccd cl []) ?_ hh hf rfl hdp hu
  refine wpAny_call ?_
  k_dflt (refine' x_def (K := kz w.params) B F X N T ?kA hk ?k6 ?k7 ?k8 ?k9 ?kB ?_ ?c5 ?c2 ?c3 ?c4; (case kA => exact rfl); (case k6 => k_is); (case k7 => k_is); (case k8 => ktr_room); (case k9 => exact BindsTo.of_eq rfl); (case c5 => decide); (case kB => exact locs rfl); (case c2 => exact rfl); (case c3 => exact rfl); (case c4 => exact rfl); k_whole)
  intro g L' h1 FG F1 N1 B1 X1 T1 D1
  try dsimp only
  try k_fold
  repeat' (first | (k_unfold; (try dsimp only)) | ((fail_if_success (with_reducible show wpAny _ _ (call (Value.ref _) _ _) _ _ _)); walk1) | (dsimp only; ((fail_if_success (with_reducible show wpAny _ _ (call (Value.ref _) _ _) _ _ _)); walk1)))
  refine' callWith_K (h₀ := g) X1 hkf ?_
  repeat' (first | (k_unfold; (try dsimp only)) | ((fail_if_success (with_reducible show wpAny _ _ (call (Value.ref _) _ _) _ _ _)); walk1) | (dsimp only; ((fail_if_success (with_reducible show wpAny _ _ (call (Value.ref _) _ _) _ _ _)); walk1)))
  (refine' RCon.use (R _) ?uhh62 ?uhf62 ?uhdp62 ?uhu62 ?uhk62 ?uB62 ?uF62 ?uX62 ?uN62 ?uT62 ?uAp62 ?uP62 ?_; (case uhh62 => exact rfl); (case uhf62 => exact rfl); (case uhdp62 => exact Nat.le_of_ble_eq_true rfl); (case uhu62 => exact Nat.le_of_ble_eq_true rfl); (case uhk62 => first | assumption | exact rfl); (case uB62 => k_asm); (case uF62 => k_asm); (case uX62 => k_asm); (case uN62 => k_asm); (case uT62 => k_asm); (case uAp62 => first | assumption | (repeat' (first | assumption | refine Apart.cons (by first | assumption | exact tb_ltOf (by assumption)) ?_))))
  · exact P
  intro e te vs g₂ h5 tk5 F5 R5 U5
  refine' caught_SO0 R5 F5 ?q1 U5 XB TB ?q2 KtsTurn.refl ?q3 ?q4 ?_ ?q5 ?q6 ?q7 ?q8
  case q1 => k_asm
  case q2 => exact D1
  case q3 => k_is
  case q4 => kts_isx
  case q5 => rfl
  case q6 => rfl
  case q7 => decide
  case q8 => passes_own
  intro h6 g6 n6 T6 F6 N6 G6 N6' B6 X6 P6 D6
  repeat' (first | (k_unfold; (try dsimp only)) | ((fail_if_success (with_reducible show wpAny _ _ (call (Value.ref _) _ _) _ _ _)); walk1) | (dsimp only; ((fail_if_success (with_reducible show wpAny _ _ (call (Value.ref _) _ _) _ _ _)); walk1)))
  exact ret _ _ (by k_asm) (by k_asm)
end
/-! Loop2 -/
section
open PySem PySem.W PyProof.Rows PyProof.Rows.LCg PyProof.Rows.LCt
section
variable {prog : Program} {w : World} {A : Around} {E : Value → Shared → Prop} {s : Shared} {env : Env} {h₀ : Heap} {target : Expr} {body : List Stmt} {Q : Flow → Shared → Prop}
/-- a turn that ends well -/
def TNext (h₀ : Heap) (L : Addr) (J : (Str → Option Value) → Led → Prop) (I : Addr) (o : Obj) (s : Shared) (f : Flow) (s₂ : Shared) : Prop := f = .next ∧ TEnd h₀ L J I o s s₂
/-- a for over a dict of ints whose target is no local -/
theorem iter_keys_T {d : Addr} {od : Obj} {kvs : List (Int × Value)} {m₀ : Str → Option Value} {news : Led} (J : Nat → (Str → Option Value) → Led → Prop) (htg : ∀ it v, letOwnedTupleGo target it v = pure ())
    (hh : A.handled = none) (hd : od.IsDictOf (intKind prog w) kvs) (lo : (d == sysModules) = false) (keep : ∀ i m n, J i m n → (d, od) ∈ n) (F : Fr h₀ env.locals s.heap m₀) (N : News h₀ env.locals s.heap news) (hj : J 0 m₀ news)
    (turn : ∀ i k y t m₁ n₁ (s₁ : Shared) I o, kvs[i]? = some (k, y) → J i m₁ n₁ → (∀ p ∈ n₁, p.1 ≠ I) → Fr h₀ env.locals s₁.heap m₁ → News h₀ env.locals s₁.heap ((I, o) :: n₁) →
      wpAny (model prog w) A (assign target env (.int k t)) (fun _ s₃ => wpAny (model prog w) A (execs body env) (TNext h₀ env.locals (J (i + 1)) I o s₁) E s₃) E s₁)
    (done : ∀ m₁ n₁ h tk, J kvs.length m₁ n₁ → Fr h₀ env.locals h m₁ → News h₀ env.locals h n₁ → Q .next { s with heap := h, toks := tk }) :
    wpAny (model prog w) A (pyIter (.ref d)) (fun it s₂ => LoopAtT prog w A h₀ env target body Q E it s₂) E s := by
  have hm := keep 0 m₀ news hj
  obtain ⟨es, ep, hr⟩ := hd
  have hda : s.heap.DictAt (intKind prog w) d kvs ep := ⟨od, es, (N _ hm).1, hr⟩
  have hne : d ≠ s.heap.objs.size := Nat.ne_of_lt (Heap.lt_size (N _ hm).1)
  have W := Walks.dictKeys (prog := prog) (w := w) (knd := intKind prog w) hh s.heap.objs.size d hne kvs ep
  refine wpAny_pyIter_dict lo hda ?_
  have hI0 := next_is_new F
  have hLI : env.locals ≠ s.heap.objs.size := Nat.ne_of_lt F.ns.lt
  have hnI : ∀ p ∈ news, p.1 ≠ s.heap.objs.size := fun p hp => Nat.ne_of_lt (Heap.lt_size (N p hp).1)
  refine ⟨s.heap.objs.size, [s.heap.objs.size, d], [s.heap.objs.size], kvs.length, _, _, m₀, news, J, rfl, W, ?_, (fun b hb => by rw [List.mem_singleton.mp hb]; exact hI0), (fun p hp hm => hnI p hp (List.mem_singleton.mp hm)),
    ⟨⟨_, Heap.get?_push_size _ rfl, rfl, rfl⟩, hda.at' fun o e => Heap.get?_push_of_some _ e⟩, F.push _, (fun p hp => ⟨Heap.get?_push_of_some _ (N p hp).1, (N p hp).2⟩), ?_, hj, ?_, ?_⟩
  · intro hm'
    rcases List.mem_cons.mp hm' with e | e
    · exact hLI e
    · exact (N _ hm).2.1 (List.mem_singleton.mp e).symm
  · intro i s' v Q' _ hQ'
    rw [htg]
    exact wpAny_pure hQ'
  · intro i v m₁ n₁ s₁ own hin hP hJ hoff hown hget hall hst' F₁ N₁
    obtain ⟨k, y, hk, hv⟩ := hP
    obtain ⟨t, rfl⟩ := Value.isInt_shape hv
    obtain ⟨o, ho, _⟩ := hst'.1
    have hio : (s.heap.objs.size, o) ∈ own := hall _ (.head _) hI0 o ho
    have hsub : ∀ p ∈ own, p = (s.heap.objs.size, o) ∨ p = (d, od) := by
      intro p hp
      rcases List.mem_cons.mp (hown p hp) with e | hm'
      · refine .inl (Prod.ext e ?_)
        have h1 := hget p hp
        rw [e, ho] at h1
        exact (Option.some.inj h1).symm
      · have e := List.mem_singleton.mp hm'
        refine .inr (Prod.ext e ?_)
        have h1 := hget p hp
        have h2 := (N₁ (d, od) (List.mem_append_right _ (keep i m₁ n₁ hJ))).1
        rw [e, h2] at h1
        exact (Option.some.inj h1).symm
    have N₂ : News h₀ env.locals s₁.heap ((s.heap.objs.size, o) :: n₁) := fun p hp => by
      rcases List.mem_cons.mp hp with rfl | hp
      · exact N₁ _ (List.mem_append_left _ hio)
      · exact N₁ _ (List.mem_append_right _ hp)
    refine wpAny_mono (turn i k y t m₁ n₁ s₁ _ o hk hJ (fun p hp e => hoff p hp (List.mem_singleton.mpr e)) F₁ N₂) (fun _ s₃ h₃ => wpAny_mono h₃ (fun f s₂ p => ?_) fun _ _ e => e) fun _ _ e => e
    obtain ⟨rfl, h', tk', m', n', e, F', N', ho', hj'⟩ := p
    refine ⟨rfl, h', tk', m', n', e, F', fun p hp => ?_, fun p hp hm => ho' p hp (List.mem_singleton.mp hm), hj'⟩
    rcases List.mem_append.mp hp with hp | hp
    · rcases hsub p hp with rfl | rfl
      · exact N' _ (.head _)
      · exact N' _ (.tail _ (keep _ _ _ hj'))
    · exact N' _ (.tail _ hp)
  · intro h' tk m' n' F' N' _ hJ
    exact done m' n' h' tk hJ F' N'
end
section
variable {prog : Program} {w : World} {A : Around} {E : Value → Shared → Prop} {s : Shared} {h₀ : Heap} {L : Addr} {m : Str → Option Value} {env : Env}
/-- a comprehension without a test -/
theorem comp_inv {elt : Expr} {x : Str} {scope : Scope} {cl : List (Str × Addr)} {S : Led → Prop} {P : Nat → Value → Prop} {Fin : List Value → Led → Prop} {base : Led} (K : Nat → List Value → Prop) (hS : S base)
    (turn : ∀ i v ys I oI C oC D m₂ h tk (E' : Value → Shared → Prop), P i v → K i ys → NsObj oC m₂ → m₂ x = some v → Fr h₀ L h m → News h₀ L h ((I, oI) :: (C, oC) :: (D, lst ys) :: base) → @Ne Nat I C → @Ne Nat I D → @Ne Nat C D → (∀ p ∈ base, p.1 ≠ I ∧ p.1 ≠ C ∧ p.1 ≠ D) →
      wpAny (model prog w) A (eval elt (compEnvC scope cl C env)) (CEnd h₀ L m { s with heap := h, toks := tk } ((I, oI) :: (C, oC) :: (D, lst ys) :: base) (fun y => K (i + 1) (ys ++ [y]))) E' { s with heap := h, toks := tk }) :
    ∀ (k i : Nat) (ys : List Value), K i ys → (∀ ys, K (i + k) ys → Fin ys base) → CompRest prog w A h₀ L m env elt x scope cl s S P Fin k i ys base
  | 0, i, ys, hk, fin => CompRest.zero (fin ys hk)
  | k + 1, i, ys, hk, fin => by
    refine CompRest.succ fun v I oI C oC D m₂ h tk E' hP hC hx F N off ne => ?_
    have go := fun ys hk => comp_inv K hS turn k (i + 1) ys hk (fun ys hy => fin ys (by rw [show i + (k + 1) = i + 1 + k by omega]; exact hy))
    refine wpAny_mono (turn i v ys I oI C oC D m₂ h tk E' hP hk hC hx F N ne.1 ne.2.1 ne.2.2 off.mem) (fun y s₂ hy => ?_) fun _ _ e => e
    obtain ⟨h', tk', rfl, F', N', r⟩ := hy
    exact ⟨h', tk', base, rfl, F', N', off, hS, go _ r⟩
end
section
variable {M : Model} {A : Around} {E : Value → Shared → Prop} {s : Shared} {h₀ : Heap} {L : Addr} {mm : Str → Option Value} {l : Led} {t : Sem Flow} {Q : Flow → Shared → Prop}
/-- a statement that stores one name, whatever its ways -/
theorem station (nm : Str) (v : Value) (_F : Fr h₀ L s.heap mm) (_N : News h₀ L s.heap l)
    (h1 : wpAny M A t (fun f s' => f = .next ∧ ∃ h' tk', s' = { s with heap := h', toks := tk' } ∧ Fr h₀ L h' (fun y => if y = nm then some v else mm y) ∧ News h₀ L h' l) E s)
    (h2 : ∀ h' tk', Fr h₀ L h' (fun y => if y = nm then some v else mm y) → News h₀ L h' l → Q .next { s with heap := h', toks := tk' }) : wpAny M A t Q E s := by
  refine wpAny_mono h1 (fun f s' h => ?_) fun _ _ e => e
  obtain ⟨rfl, h', tk', rfl, F', N'⟩ := h
  exact h2 h' tk' F' N'
/-- how a statement that stores a new list ends -/
def SEnd (h₀ : Heap) (L : Addr) (s : Shared) (nm : Str) (mm : Str → Option Value) (l : Led) (P : List Value → Prop) (f : Flow) (s' : Shared) : Prop :=
  f = .next ∧ ∃ D vs c h' tk', s' = { s with heap := h', toks := tk' } ∧ Fr h₀ L h' (fun y => if y = nm then some (.ref D) else mm y) ∧ News h₀ L h' ((D, listOf vs.toArray c) :: l) ∧ (∀ p ∈ l, p.1 ≠ D) ∧ P vs
/-- .. that stores a new list -/
theorem station_list (nm : Str) (P : List Value → Prop) (_F : Fr h₀ L s.heap mm) (_N : News h₀ L s.heap l)
    (h1 : wpAny M A t (SEnd h₀ L s nm mm l P) E s)
    (h2 : ∀ D vs c h' tk', Fr h₀ L h' (fun y => if y = nm then some (.ref D) else mm y) → News h₀ L h' ((D, listOf vs.toArray c) :: l) → (∀ p ∈ l, p.1 ≠ D) → P vs → Q .next { s with heap := h', toks := tk' }) : wpAny M A t Q E s := by
  refine wpAny_mono h1 (fun f s' h => ?_) fun _ _ e => e
  obtain ⟨rfl, D, vs, c, h', tk', rfl, F', N', ne, p⟩ := h
  exact h2 D vs c h' tk' F' N' ne p
end
end
/-! Pure -/
section
open PySem PySem.W PyProof.Rows
/-- a path without its end -/
def tl (v : List Int) : List Int := v.take (v.length - 1)
theorem tl_snoc (v : List Int) (x : Int) : tl (v ++ [x]) = v := by
  unfold tl
  rw [List.length_append, List.length_singleton, Nat.add_sub_cancel, List.take_left]
theorem snoc_inj {a b : List Int} {x y : Int} (h : a ++ [x] = b ++ [y]) : x = y := by
  have := congrArg List.getLast? h
  simpa using this
theorem path_end {T : List Nd} {V : List (List Int)} (h : PathsOk T V) {q : Nat} {nd : Nd} {v : List Int} (hq : T[q]? = some nd) (hv : V[q]? = some v) : ∃ r, v = r ++ [(q : Int)] := by
  have := h.at_ q nd hq
  rw [hv] at this
  cases e : nd.par with
  | none => rw [e] at this; exact ⟨[], Option.some.inj this⟩
  | some p => rw [e] at this; exact ⟨_, Option.some.inj this⟩
theorem lone {T : List Nd} {V : List (List Int)} (h : PathsOk T V) {i : Nat} {nd : Nd} {v : List Int} (hi : T[i]? = some nd) (hv : V[i]? = some v) (hp : nd.par = none) : ¬ 1 < v.length := by
  have := h.at_ i nd hi
  rw [hv, hp] at this
  rw [Option.some.inj this]
  simp
theorem same_parent {T : List Nd} {V : List (List Int)} (h : PathsOk T V) (W : WF T) {i j p : Nat} {nd ndj : Nd} {v u : List Int} (hi : T[i]? = some nd) (hv : V[i]? = some v) (hp : nd.par = some p) (hj : T[j]? = some ndj) (hu : V[j]? = some u) :
    1 < v.length ∧ (tl u = tl v ↔ ndj.par = some p) := by
  have hvi := h.at_ i nd hi
  rw [hv, hp] at hvi
  have hvi' := Option.some.inj hvi
  obtain ⟨ndp, hpT, _⟩ := W.inner i nd p hi hp
  have hpl : p < V.length := by rw [h.len]; exact getElem?_lt hpT
  have hpV : V[p]? = some V[p] := by simp [hpl]
  obtain ⟨r, hr⟩ := path_end h hpT hpV
  dsimp only at hvi'
  rw [getD_at hpV, hr] at hvi'
  have htv : tl v = r ++ [(p : Int)] := by rw [hvi', tl_snoc]
  refine ⟨by rw [hvi']; simp, ?_⟩
  rw [htv]
  have huj := h.at_ j ndj hj
  rw [hu] at huj
  have huj' := Option.some.inj huj
  cases e : ndj.par with
  | none =>
    rw [e] at huj'
    refine ⟨fun q => ?_, fun q => by cases q⟩
    rw [huj'] at q
    have := congrArg List.length q
    simp [tl] at this
  | some q =>
    rw [e] at huj'
    dsimp only at huj'
    obtain ⟨ndq, hqT, _⟩ := W.inner j ndj q hj e
    have hql : q < V.length := by rw [h.len]; exact getElem?_lt hqT
    have hqV : V[q]? = some V[q] := by simp [hql]
    obtain ⟨r', hr'⟩ := path_end h hqT hqV
    rw [getD_at hqV] at huj'
    rw [huj', tl_snoc]
    constructor
    · intro z
      rw [hr'] at z
      have := snoc_inj z
      rw [show q = p by omega]
    · intro z
      cases z
      rw [← hr]
/-- a list of places by a test -/
def placesOf (c : Nat → Bool) (n : Nat) : List Int := ((List.range n).filter c).map fun (j : Nat) => (j : Int)
theorem placesOf_succ (c : Nat → Bool) (n : Nat) : placesOf c (n + 1) = placesOf c n ++ (if c n = true then [(n : Int)] else []) := by
  unfold placesOf
  rw [List.range_succ, List.filter_append, List.map_append]
  congr 1
  cases h : c n <;> simp [h]
theorem placesOf_sel (c : Nat → Bool) (f : Nd → Bool) : ∀ (n : Nat) (T : List Nd), n ≤ T.length → (∀ (j : Nat) (nd : Nd), T[j]? = some nd → c j = f nd) → placesOf c n = sel f 0 (T.take n)
  | 0, T, _, _ => by simp [placesOf, sel]
  | n + 1, T, hn, h => by
    have ih := placesOf_sel c f n T (by omega) h
    have hT : T[n]? = some T[n] := by simp [show n < T.length by omega]
    rw [placesOf_succ, ih, List.take_add_one, hT]
    show _ = sel f 0 (T.take n ++ [T[n]])
    rw [sel_append, Nat.zero_add, List.length_take, show min n T.length = n by omega, h n _ hT]
theorem sel_filter (f g : Nd → Bool) : ∀ (k : Nat) (T : List Nd) (c : Int → Bool), (∀ (j : Nat) (nd : Nd), T[j]? = some nd → c ((k + j : Nat) : Int) = g nd) → (sel f k T).filter c = sel (fun nd => f nd && g nd) k T
  | _, [], _, _ => rfl
  | k, y :: r, c, h => by
    have ih := sel_filter f g (k + 1) r c (fun j nd hj => by
      have := h (j + 1) nd (by simpa using hj)
      rwa [show k + (j + 1) = k + 1 + j by omega] at this)
    have h0 := h 0 y rfl
    rw [Nat.add_zero] at h0
    unfold sel
    cases hf : f y with
    | true =>
      simp only [if_true, Bool.true_and]
      rw [List.filter_cons, h0, ih]
    | false =>
      simp only [Bool.false_eq_true, if_false, Bool.false_and]
      exact ih
theorem sel_sorted (f : Nd → Bool) : ∀ (k : Nat) (T : List Nd), (sel f k T).Pairwise (· < ·)
  | _, [] => .nil
  | k, y :: r => by
    have ih := sel_sorted f (k + 1) r
    unfold sel
    split
    · refine List.Pairwise.cons (fun x hx => ?_) ih
      have := sel_ge f (k + 1) r x hx
      omega
    · exact ih
theorem split_lt : ∀ {l : List Int} {n : Int}, l.Pairwise (· < ·) → n ∈ l → l.filter (fun z => decide (z < n)) = l.take (l.idxOf n) ∧ l.filter (fun z => decide (z > n)) = l.drop (l.idxOf n + 1)
  | [], _, _, h => by cases h
  | a :: r, n, hp, hm => by
    rw [List.pairwise_cons] at hp
    rw [List.filter_cons, List.filter_cons]
    by_cases e : a = n
    · subst e
      have h1 : r.filter (fun z => decide (z < a)) = [] := List.filter_eq_nil_iff.mpr fun z hz => by have := hp.1 z hz; simp; omega
      have h2 : r.filter (fun z => decide (z > a)) = r := List.filter_eq_self.mpr fun z hz => by have := hp.1 z hz; simp; omega
      rw [h1, h2]
      simp
    · have hm' : n ∈ r := by
        rcases List.mem_cons.mp hm with q | q
        · exact absurd q.symm e
        · exact q
      have hlt := hp.1 n hm'
      obtain ⟨i1, i2⟩ := split_lt hp.2 hm'
      rw [i1, i2, List.idxOf_cons, beq_false_of_ne e]
      have c1 : decide (a < n) = true := decide_eq_true hlt
      have c2 : decide (a > n) = false := decide_eq_false (by omega)
      rw [c1, c2]
      simp
theorem sorted_eq {a b : List Int} (p : a.Perm b) (ha : a.Pairwise (· ≤ ·)) (hb : b.Pairwise (· ≤ ·)) : a = b :=
  List.Perm.eq_of_pairwise (fun x y _ _ h1 h2 => Int.le_antisymm h1 h2) ha hb p
theorem neg_neg (l : List Int) : (l.map fun z => 0 - z).map (fun z => 0 - z) = l := by
  rw [List.map_map]
  refine (List.map_congr_left (g := id) fun z _ => ?_).trans (List.map_id l)
  show 0 - (0 - z) = z
  omega
theorem ahead_eq {l ns : List Int} {k : Nat} (hl : l.Pairwise (· < ·)) (p : ns.Perm ((l.take k).map fun z => 0 - z)) (hs : ns.Pairwise (· ≤ ·)) : ns.map (fun z => 0 - z) = (l.take k).reverse := by
  have hr : (((l.take k).map fun z => 0 - z).reverse).Pairwise (· ≤ ·) := by
    rw [List.pairwise_reverse, List.pairwise_map]
    exact (hl.sublist (List.take_sublist _ _)).imp fun {a b} h => by show 0 - b ≤ 0 - a; omega
  rw [sorted_eq (p.trans (List.reverse_perm _).symm) hs hr, ← List.map_reverse, neg_neg]
theorem behind_eq {l ns : List Int} {k : Nat} (hl : l.Pairwise (· < ·)) (p : ns.Perm (l.drop k)) (hs : ns.Pairwise (· ≤ ·)) : ns = l.drop k :=
  sorted_eq p hs ((hl.sublist (List.drop_sublist _ _)).imp fun {a b} h => Int.le_of_lt h)
/-- who has the node's parent -/
def likeC (V : List (List Int)) (v : List Int) (j : Nat) : Bool := decide (1 < v.length) && (tl (V.getD j []) == tl v)
def isChildAt (T : List Nd) (z : Int) : Bool := (T[z.toNat]?).any fun nd => nd.kind.child
theorem like_none {T : List Nd} {V : List (List Int)} (h : PathsOk T V) {i n : Nat} {nd : Nd} {v : List Int} (hi : T[i]? = some nd) (hv : V[i]? = some v) (hp : nd.par = none) : placesOf (likeC V v) n = [] := by
  have : likeC V v = fun _ => false := by
    funext j
    unfold likeC
    rw [decide_eq_false (lone h hi hv hp)]
    rfl
  rw [this]
  unfold placesOf
  rw [List.filter_eq_nil_iff.mpr (by simp)]
  rfl
theorem like_some {T : List Nd} {V : List (List Int)} (h : PathsOk T V) (W : WF T) {i p : Nat} {nd : Nd} {v : List Int} (hi : T[i]? = some nd) (hv : V[i]? = some v) (hp : nd.par = some p) :
    (placesOf (likeC V v) T.length).filter (isChildAt T) = kids T p := by
  have h1 : placesOf (likeC V v) T.length = sel (fun nd => nd.par == some p) 0 T := by
    rw [placesOf_sel (likeC V v) (fun nd => nd.par == some p) T.length T (Nat.le_refl _) (fun j ndj hj => ?_), List.take_length]
    have hjl : j < V.length := by rw [h.len]; exact getElem?_lt hj
    have hjV : V[j]? = some V[j] := by simp [hjl]
    obtain ⟨a, b⟩ := same_parent h W hi hv hp hj hjV
    unfold likeC
    rw [decide_eq_true a, getD_at hjV, Bool.true_and]
    rw [Bool.eq_iff_iff, beq_iff_eq, beq_iff_eq]
    exact b
  rw [h1]
  exact sel_filter (fun nd => nd.par == some p) (fun nd => nd.kind.child) 0 T (isChildAt T) fun j ndj hj => by
    unfold isChildAt
    rw [Nat.zero_add, show ((j : Nat) : Int).toNat = j by omega, hj]
    rfl
theorem kid_mem {T : List Nd} {i p : Nat} {nd : Nd} (hi : T[i]? = some nd) (hp : nd.par = some p) (hk : nd.kind.child = true) : (i : Int) ∈ kids T p :=
  (sel_mem0 _ T i).mpr ⟨nd, hi, by rw [hp, hk]; simp⟩
theorem kid_of {k : Kd} (hb : k.beside = false) (hr : k ≠ .root) : k.child = true := by cases k <;> first | rfl | (cases hb; done) | exact absurd rfl hr
end
/-! Pure2 -/
section
theorem likeC_at {V : List (List Int)} {v u : List Int} {j : Nat} (hu : V[j]? = some u) : likeC V v j = (decide (1 < v.length) && (tl u == tl v)) := by
  unfold likeC
  rw [getD_at hu]
theorem cut_tl (v : List Int) : v.take (v.length - (- (-1 : Int)).toNat) = tl v := rfl
theorem like_yes {V : List (List Int)} {v u : List Int} {j n : Nat} (hu : V[j]? = some u) (hl : n = v.length) (h1 : 1 < (n : Int)) (h2 : u.take (u.length - (- (-1 : Int)).toNat) = v.take (v.length - (- (-1 : Int)).toNat)) : likeC V v j = true := by
  rw [likeC_at hu]
  rw [cut_tl, cut_tl] at h2
  have h3 : 1 < v.length := by omega
  simp [h2, h3]
theorem like_no1 {V : List (List Int)} {v u : List Int} {j n : Nat} (hu : V[j]? = some u) (hl : n = v.length) (h1 : ¬ 1 < (n : Int)) : likeC V v j = false := by
  rw [likeC_at hu]
  have h3 : ¬ 1 < v.length := by omega
  simp [h3]
theorem like_no2 {V : List (List Int)} {v u : List Int} {j : Nat} (hu : V[j]? = some u) (h2 : ¬ u.take (u.length - (- (-1 : Int)).toNat) = v.take (v.length - (- (-1 : Int)).toNat)) : likeC V v j = false := by
  rw [likeC_at hu]
  rw [cut_tl, cut_tl] at h2
  simp [h2]
theorem places_yes {ys : List Value} {c : Nat → Bool} {j : Nat} {t : Tok} (h : IntsAre ys (placesOf c j)) (hc : c j = true) : IntsAre (ys ++ [.int (j : Nat) t]) (placesOf c (j + 1)) := by
  rw [placesOf_succ, if_pos hc]
  exact h.append (.cons _ _ .nil)
theorem places_no {ys : List Value} {c : Nat → Bool} {j : Nat} (h : IntsAre ys (placesOf c j)) (hc : c j = false) : IntsAre ys (placesOf c (j + 1)) := by
  rw [placesOf_succ, hc, if_neg (by decide), List.append_nil]
  exact h
theorem ints_get {ys : List Value} {l : List Int} {i : Nat} {v : Value} (h : IntsAre ys l) (hv : ys[i]? = some v) : ∃ z t, v = .int z t ∧ l[i]? = some z := by
  induction h generalizing i with
  | nil => simp at hv
  | cons n t h ih =>
    cases i with
    | zero => simp at hv; exact ⟨n, t, hv.symm, rfl⟩
    | succ i => simp at hv; obtain ⟨z, t', e1, e2⟩ := ih hv; exact ⟨z, t', e1, by simpa using e2⟩
theorem keep_yes {zs : List Value} {l : List Int} {f : Int → Bool} {i : Nat} {z : Int} {t : Tok} (h : IntsAre zs ((l.take i).filter f)) (hz : l[i]? = some z) (hc : f z = true) : IntsAre (zs ++ [.int z t]) ((l.take (i + 1)).filter f) := by
  rw [List.take_add_one, hz, Option.toList_some, List.filter_append, List.filter_cons, if_pos hc]
  exact h.append (.cons _ _ .nil)
theorem keep_no {zs : List Value} {l : List Int} {f : Int → Bool} {i : Nat} {z : Int} (h : IntsAre zs ((l.take i).filter f)) (hz : l[i]? = some z) (hc : f z = false) : IntsAre zs ((l.take (i + 1)).filter f) := by
  rw [List.take_add_one, hz, Option.toList_some, List.filter_append, List.filter_cons, hc, if_neg (by decide), List.filter_nil, List.append_nil]
  exact h
theorem keepm_yes {zs : List Value} {l : List Int} {f : Int → Bool} {g : Int → Int} {i : Nat} {z : Int} {t : Tok} (h : IntsAre zs (((l.take i).filter f).map g)) (hz : l[i]? = some z) (hc : f z = true) : IntsAre (zs ++ [.int (g z) t]) (((l.take (i + 1)).filter f).map g) := by
  rw [List.take_add_one, hz, Option.toList_some, List.filter_append, List.filter_cons, if_pos hc, List.map_append]
  exact h.append (.cons _ _ .nil)
theorem keepm_no {zs : List Value} {l : List Int} {f : Int → Bool} {g : Int → Int} {i : Nat} {z : Int} (h : IntsAre zs (((l.take i).filter f).map g)) (hz : l[i]? = some z) (hc : f z = false) : IntsAre zs (((l.take (i + 1)).filter f).map g) := by
  rw [List.take_add_one, hz, Option.toList_some, List.filter_append, List.filter_cons, hc, if_neg (by decide), List.filter_nil, List.append_nil]
  exact h
theorem keepm_done {zs : List Value} {l : List Int} {f : Int → Bool} {g : Int → Int} {n : Nat} (h : IntsAre zs (((l.take n).filter f).map g)) (hn : l.length = n) : IntsAre zs ((l.filter f).map g) := by
  rw [← hn, List.take_length] at h
  exact h
theorem places_lt {c : Nat → Bool} {n i : Nat} {z : Int} (h : (placesOf c n)[i]? = some z) : ∃ j : Nat, z = (j : Int) ∧ j < n := by
  have hm := List.mem_of_getElem? h
  unfold placesOf at hm
  obtain ⟨j, hj, rfl⟩ := List.mem_map.mp hm
  exact ⟨j, rfl, List.mem_range.mp (List.mem_filter.mp hj).1⟩
theorem places_len (c : Nat → Bool) (n : Nat) : (placesOf c n).length ≤ n := by
  unfold placesOf
  rw [List.length_map]
  exact Nat.le_trans (List.length_filter_le _ _) (by simp)
theorem keep_done {zs : List Value} {l : List Int} {f : Int → Bool} {n : Nat} (h : IntsAre zs ((l.take n).filter f)) (hn : l.length = n) : IntsAre zs (l.filter f) := by
  rw [← hn, List.take_length] at h
  exact h
theorem apart3 {a b c : Addr} {oa ob oc : Obj} {l : Led} (A : Apart l) (n1 : @Ne Nat a b) (n2 : @Ne Nat a c) (n3 : @Ne Nat b c) (off : ∀ p ∈ l, p.1 ≠ a ∧ p.1 ≠ b ∧ p.1 ≠ c) : Apart ((a, oa) :: (b, ob) :: (c, oc) :: l) := by
  refine Apart.consNe (fun p hp => ?_) (Apart.consNe (fun p hp => ?_) (Apart.consNe (fun p hp => (off p hp).2.2) A))
  · rcases List.mem_cons.mp hp with rfl | hp
    · exact Ne.symm n1
    · rcases List.mem_cons.mp hp with rfl | hp
      · exact Ne.symm n2
      · exact (off p hp).1
  · rcases List.mem_cons.mp hp with rfl | hp
    · exact Ne.symm n3
    · exact (off p hp).2.1
theorem drop2 {h₀ h : Heap} {L : Addr} {a b : Addr × Obj} {l : Led} (N : News h₀ L h (a :: b :: l)) : News h₀ L h (a :: l) :=
  News_subN N fun q hq => (List.mem_cons.mp hq).elim (fun e => e ▸ .head _) fun h => .tail _ (.tail _ h)
theorem apart_drop2 {a b : Addr × Obj} {l : Led} (A : Apart (a :: b :: l)) : Apart (a :: l) := by
  unfold Apart at A ⊢
  exact A.sublist ((((List.Sublist.refl l).cons b).cons_cons a).map _)
theorem childStr_kd (k : Kd) : childStr k.str = k.child := by cases k <;> decide
theorem isChild_at {T : List Nd} {j : Nat} {nd : Nd} {x : EntD} {b : Bool} (h : T[j]? = some nd) (hk : x.kind = nd.kind.str) (hb : childStr x.kind = b) : isChildAt T ((j : Nat) : Int) = b := by
  unfold isChildAt
  rw [Int.toNat_natCast, h, ← hb, hk, childStr_kd]
  rfl
end
/-! C15 -/
section
variable {w : World}
set_option maxRecDepth 100000 in
set_option maxHeartbeats 8000000 in
theorem c_pool {sl : Addr} {vs : List Value} {ns : List Int}
    {tpv : Program} {lov : List Str} {mean : ExcName → Option Value} {mg mb : Str → Option Value} {A : Around} {cn : Str} {cs : Scope} {a : Addr} {ccd : Value} {cl : List (Str × Addr)} {outer : List Env} {A₀ : Around} {base h₀ : Heap} {L : Addr}
    {m : Str → Option Value} {news : Led} {s : Shared} {Q E : Value → Shared → Prop}
    (hh : A.handled = none) (hf : A.frames = some (envX cn cs L a ccd cl :: outer)) (hdp : A.depth ≤ 800) (hu : A.units ≤ 8000) (hk : cs.kind = .function)
    (B : Below A₀ base outer h₀) (F : Fr h₀ L s.heap m) (X : (kz w.params).In h₀) (N : News h₀ L s.heap news) (T : Top tpv lov mean mg mb h₀) (Ap : Apart news)
    (hL : h₀.IsList sl vs.toArray) (hI : IntsAre vs ns) (hlay : (PyData.list (ns.map PyData.int)).layable0 = true) (hz : ns.length ≤ 63)
    (ret : ∀ D z0 z1 ta tb h' tk', Fr h₀ L h' m → News h₀ L h' ((D, listOf [.int z0 ta, .int z1 tb].toArray 0) :: news) → (∀ p ∈ news, p.1 < D) → 0 ≤ z1 → z1 < 2147483647 → Q (.ref D) { s with heap := h', toks := tk' }) :
    wpAny (model PySem.Challenge.rw_xm0664_01.row.prog w) A (call (.ref 306) [.ref sl]) Q E s := by
  refine wpAny_room (A' := ktrTop 800 8000 A.guards cn cs L a ccd cl outer) ?_ hh hf rfl hdp hu
  refine wpAny_call ?_
  k_dflt ktr_enter
  rename Fr h₀ L _ m => FG
  have hL2 := hL.at (h' := _) fun o e => FG.keep _ _ e
  repeat' (first | (k_unfold; (try dsimp only)) | ((fail_if_success (with_reducible show wpAny _ _ (call (Value.ref _) _ _) _ _ _)); walk1) | (dsimp only; ((fail_if_success (with_reducible show wpAny _ _ (call (Value.ref _) _ _) _ _ _)); walk1)))
  all_goals exact ret _ _ _ _ _ _ _ (by k_asm) (by k_asm) (by first | assumption | exact tb_ltOf (by assumption) | exact tb_ltOf (by tbn_find)) (Int.fmod_nonneg_of_pos _ (by decide)) (Int.fmod_lt_of_pos _ (by decide))
end
/-! C16 -/
section
/-- the children beside the node i, by the tree -/
def aroundZ (T : List Nd) (nd : Nd) : List Int := match nd.par with
  | none => []
  | some p => if besideStr nd.kind.str then [] else kids T p
def aheadZ (T : List Nd) (i : Nat) (nd : Nd) : List Int := ((aroundZ T nd).take ((aroundZ T nd).idxOf (i : Int))).reverse
def behindZ (T : List Nd) (i : Nat) (nd : Nd) : List Int := (aroundZ T nd).drop ((aroundZ T nd).idxOf (i : Int) + 1)
theorem beside_kd (k : Kd) : besideStr k.str = k.beside := by cases k <;> decide
theorem aroundZ_none {T : List Nd} {nd : Nd} (h : nd.par = none) : aroundZ T nd = [] := by unfold aroundZ; rw [h]
theorem aroundZ_beside {T : List Nd} {nd : Nd} (h : besideStr nd.kind.str = true) : aroundZ T nd = [] := by
  unfold aroundZ
  cases nd.par with
  | none => rfl
  | some p => exact if_pos h
theorem aroundZ_some {T : List Nd} {nd : Nd} {p : Nat} (h : nd.par = some p) (hb : besideStr nd.kind.str = false) : aroundZ T nd = kids T p := by
  unfold aroundZ
  rw [h]
  exact if_neg (by rw [hb]; decide)
variable {w : World} {tr rd : Addr} {T : List Nd} {D : TreeD} {R : RowsD} {V : List (List Int)} {i : Nat} {nd : Nd} {t : Tok}
theorem GL.like (G : GL w tr rd T D R V) {v : List Int} (hi : T[i]? = some nd) (hv : V[i]? = some v) (hb : besideStr nd.kind.str = false) :
    (placesOf (likeC V v) T.length).filter (isChildAt T) = aroundZ T nd := by
  cases hp : nd.par with
  | none => rw [like_none G.paths hi hv hp, aroundZ_none hp]; rfl
  | some p => rw [like_some G.paths G.wf hi hv hp, aroundZ_some hp hb]
theorem GL.split (G : GL w tr rd T D R V) (hi : T[i]? = some nd) :
    (aroundZ T nd).filter (fun z => decide (z < (i : Int))) = (aroundZ T nd).take ((aroundZ T nd).idxOf (i : Int)) ∧ (aroundZ T nd).filter (fun z => decide (z > (i : Int))) = (aroundZ T nd).drop ((aroundZ T nd).idxOf (i : Int) + 1) ∧ (aroundZ T nd).Pairwise (· < ·) := by
  cases hb : besideStr nd.kind.str with
  | true => rw [aroundZ_beside hb]; exact ⟨rfl, rfl, .nil⟩
  | false =>
    cases hp : nd.par with
    | none => rw [aroundZ_none hp]; exact ⟨rfl, rfl, .nil⟩
    | some p =>
      rw [aroundZ_some hp hb]
      have hs : (kids T p).Pairwise (· < ·) := sel_sorted _ _ _
      have hm : (i : Int) ∈ kids T p := kid_mem hi hp (kid_of (by rw [← beside_kd]; exact hb) fun e => by have := G.root i nd hi e; rw [hp] at this; cases this)
      exact ⟨(split_lt hs hm).1, (split_lt hs hm).2, hs⟩
/-- what the law reckons is what the tree tells -/
theorem GL.ahead (G : GL w tr rd T D R V) {v ns : List Int} (hi : T[i]? = some nd) (hv : V[i]? = some v) (h1 : besideStr nd.kind.str = true → ns = [])
    (h2 : besideStr nd.kind.str = false → ns.Perm ((((placesOf (likeC V v) T.length).filter (isChildAt T)).filter fun z => decide (z < ((i : Nat) : Int))).map fun z => 0 - z) ∧ ns.Pairwise (· ≤ ·)) : ns.map (fun z => 0 - z) = aheadZ T i nd := by
  unfold aheadZ
  cases hb : besideStr nd.kind.str with
  | true => rw [h1 hb, aroundZ_beside hb]; rfl
  | false =>
    obtain ⟨p, q⟩ := h2 hb
    obtain ⟨s1, s2, s3⟩ := G.split hi
    rw [G.like hi hv hb, s1] at p
    exact ahead_eq s3 p q
theorem GL.behind (G : GL w tr rd T D R V) {v ns : List Int} (hi : T[i]? = some nd) (hv : V[i]? = some v) (h1 : besideStr nd.kind.str = true → ns = [])
    (h2 : besideStr nd.kind.str = false → ns.Perm (((placesOf (likeC V v) T.length).filter (isChildAt T)).filter fun z => decide (z > ((i : Nat) : Int))) ∧ ns.Pairwise (· ≤ ·)) : ns = behindZ T i nd := by
  unfold behindZ
  cases hb : besideStr nd.kind.str with
  | true => rw [h1 hb, aroundZ_beside hb]; rfl
  | false =>
    obtain ⟨p, q⟩ := h2 hb
    obtain ⟨s1, s2, s3⟩ := G.split hi
    rw [G.like hi hv hb, s2] at p
    exact behind_eq s3 p q
theorem Con.post {f : Addr} {dq uq : Nat} {args : List Value} {Pre : Led → Prop} {Post Post' : Led → Value → Led → Prop} (c : Con w f dq uq args Pre Post) (h : ∀ n v n', Post n v n' → Post' n v n') : Con w f dq uq args Pre Post' :=
  fun tpv lov mean mg mb A cn cs a ccd cl outer A₀ base h₀ L m news s Q E hh hf hdp hu hk B F X N D T P ret =>
    c tpv lov mean mg mb A cn cs a ccd cl outer A₀ base h₀ L m news s Q E hh hf hdp hu hk B F X N D T P fun r n' h' tk' F' N' A' p => ret r n' h' tk' F' N' A' (h _ _ _ p)
theorem sel_small (f : Nd → Bool) {T : List Nd} (hT : T.length ≤ 11) : ∀ x ∈ sel f 0 T, x.natAbs < 1000 := by
  intro x hx
  obtain ⟨j, nd, rfl, hj, _⟩ := sel_mem1 hx
  have := getElem?_lt hj
  omega
abbrev OneList (ns : List Int) (n : Led) (v : Value) (n' : Led) : Prop := ∃ l vs c, v = .ref l ∧ n' = (l, listOf vs.toArray c) :: n ∧ (∀ p ∈ n, p.1 < l) ∧ IntsAre vs ns
theorem c_aheadG (G : GL w tr rd T D R V) (hT : T.length ≤ 11) (hi : T[i]? = some nd) : Con w 35 870 8700 [.ref tr, .int i t] (fun n => ∀ p ∈ D.led w, p ∈ n) (OneList (aheadZ T i nd)) := by
  obtain ⟨r, hr, is⟩ := G.repD.get hi
  have hz : D.rows.length < 1000 := by rw [G.repD.len]; omega
  have hpar := is.par
  refine Con.tr G.htr ?_
  cases hp : nd.par with
  | none =>
    rw [hp] at hpar
    refine (c_ahead0 hr hz hpar).post ?_
    rintro n v n' ⟨l, vs, c, e1, e2, h1, h2⟩
    exact ⟨l, vs, c, e1, e2, h1, by unfold aheadZ; rw [aroundZ_none hp]; exact h2⟩
  | some p =>
    rw [hp] at hpar
    obtain ⟨tp, hpar⟩ := hpar
    obtain ⟨ndp, hpT, hpi⟩ := G.wf.inner i nd p hi hp
    obtain ⟨rp, hrp, isp⟩ := G.repD.get hpT
    refine (c_ahead1 hr hz hpar hrp (by have := (kids_len isp).1; omega) isp.ch (fun hb => ?_) (sel_small _ hT)).post ?_
    · rw [is.kind] at hb
      exact kid_mem hi hp (kid_of (by rw [← beside_kd]; exact hb) fun e => by have := G.root i nd hi e; rw [hp] at this; cases this)
    · rintro n v n' ⟨l, vs, c, e1, e2, h1, h2⟩
      refine ⟨l, vs, c, e1, e2, h1, ?_⟩
      rw [is.kind] at h2
      unfold aheadZ
      cases hb : besideStr nd.kind.str with
      | true => rw [hb] at h2; rw [aroundZ_beside hb]; exact h2
      | false => rw [hb] at h2; rw [aroundZ_some hp hb]; exact h2
theorem c_behindG (G : GL w tr rd T D R V) (hT : T.length ≤ 11) (hi : T[i]? = some nd) : Con w 42 870 8700 [.ref tr, .int i t] (fun n => ∀ p ∈ D.led w, p ∈ n) (OneList (behindZ T i nd)) := by
  obtain ⟨r, hr, is⟩ := G.repD.get hi
  have hz : D.rows.length < 1000 := by rw [G.repD.len]; omega
  have hpar := is.par
  refine Con.tr G.htr ?_
  cases hp : nd.par with
  | none =>
    rw [hp] at hpar
    refine (c_behind0 hr hz hpar).post ?_
    rintro n v n' ⟨l, vs, c, e1, e2, h1, h2⟩
    exact ⟨l, vs, c, e1, e2, h1, by unfold behindZ; rw [aroundZ_none hp]; exact h2⟩
  | some p =>
    rw [hp] at hpar
    obtain ⟨tp, hpar⟩ := hpar
    obtain ⟨ndp, hpT, hpi⟩ := G.wf.inner i nd p hi hp
    obtain ⟨rp, hrp, isp⟩ := G.repD.get hpT
    refine (c_behind1 hr hz hpar hrp (by have := (kids_len isp).1; omega) isp.ch (fun hb => ?_) (sel_small _ hT)).post ?_
    · rw [is.kind] at hb
      exact kid_mem hi hp (kid_of (by rw [← beside_kd]; exact hb) fun e => by have := G.root i nd hi e; rw [hp] at this; cases this)
    · rintro n v n' ⟨l, vs, c, e1, e2, h1, h2⟩
      refine ⟨l, vs, c, e1, e2, h1, ?_⟩
      rw [is.kind] at h2
      unfold behindZ
      cases hb : besideStr nd.kind.str with
      | true => rw [hb] at h2; rw [aroundZ_beside hb]; exact h2
      | false => rw [hb] at h2; rw [aroundZ_some hp hb]; exact h2
theorem c_besideG (G : GL w tr rd T D R V) (hT : T.length ≤ 11) (hi : T[i]? = some nd) : Con w 28 880 8800 [.ref tr, .int i t] (fun n => ∀ p ∈ D.led w, p ∈ n) (fun n v n' => n' = n ∧ v = .bool (besideStr nd.kind.str)) := by
  obtain ⟨r, hr, is⟩ := G.repD.get hi
  have := c_is_beside (t := t) (w := w) hr (by rw [G.repD.len]; omega)
  rw [is.kind] at this
  exact Con.tr G.htr this
theorem aheadZ_len (T : List Nd) (i : Nat) (nd : Nd) : (aheadZ T i nd).length ≤ T.length := by
  unfold aheadZ aroundZ
  rw [List.length_reverse, List.length_take]
  refine Nat.le_trans (Nat.min_le_right _ _) ?_
  cases nd.par with
  | none => exact Nat.zero_le _
  | some p =>
    dsimp only
    split
    · exact Nat.zero_le _
    · exact sel_length _ _ _
theorem ints_map {us : List Value} {l : List Int} {g : Int → Int} {n : Nat} (h : IntsAre us ((l.take n).map g)) (hl : l.length = n) : IntsAre us (l.map g) := by
  rw [← hl, List.take_length] at h
  exact h
theorem mapm {us : List Value} {l : List Int} {g : Int → Int} {i : Nat} {z : Int} {t : Tok} (h : IntsAre us ((l.take i).map g)) (hz : l[i]? = some z) : IntsAre (us ++ [.int (g z) t]) ((l.take (i + 1)).map g) := by
  rw [List.take_add_one, hz, Option.toList_some, List.map_append]
  exact h.append (.cons _ _ .nil)
theorem ne_same {prog : Program} {A : Around} {E : Value → Shared → Prop} {s : Shared} {h₀ : Heap} {L : Addr} {l : Led} {a b : Addr} {vs us : List Value} {ns : List Int} {n1 n2 : Nat} {Q : Value → Shared → Prop} (N : News h₀ L s.heap l) (ha : (a, listOf vs.toArray n1) ∈ l) (hb : (b, listOf us.toArray n2) ∈ l) (hi : IntsAre vs ns) (hi' : IntsAre us ns) (hu : A.units + 64 < cLine)
    (h : Q (.bool false) s) : wpAny (model prog w) A (compareOp .NotEq (.ref a) (.ref b)) Q E s :=
  ne_intsK (N.isList ha) hi (N.isList hb) hi' hu (by rw [show (decide (ns = ns)) = true by simp]; exact h)
end
/-! C13 -/
section
open PyProof.Rows.LCg PyProof.Rows.LCt
theorem perm_cells {x y z t s : Addr × Obj} {A B : Led} : (t :: s :: (A ++ (B ++ [x, y, z]))).Perm (x :: y :: z :: t :: s :: (A ++ B)) := by
  have := List.perm_append_comm (l₁ := t :: s :: (A ++ B)) (l₂ := [x, y, z])
  simpa [List.append_assoc] using this
theorem perm_loose {x y z t s : Addr × Obj} {A B : Led} : (x :: y :: z :: t :: s :: (A ++ B)).Perm (s :: (A ++ (B ++ [x, y, z, t]))) := by
  have := List.perm_append_comm (l₁ := [x, y, z, t]) (l₂ := s :: (A ++ B))
  simpa [List.append_assoc] using this
theorem perm_back {x y z t : Addr × Obj} {A B : Led} : (A ++ (B ++ [x, y, z, t])).Perm (t :: x :: y :: z :: (A ++ B)) := by
  have := List.perm_append_comm (l₁ := A ++ B) (l₂ := [x, y, z, t])
  have h2 : (A ++ (B ++ [x, y, z, t])).Perm ([x, y, z, t] ++ (A ++ B)) := by simpa [List.append_assoc] using this
  exact h2.trans (List.perm_middle (l₁ := [x, y, z]))
theorem cells_ne {x y z : Addr × Obj} {Y : Led} (A : Apart (x :: y :: z :: Y)) : (∀ p ∈ Y, p.1 ≠ x.1) ∧ (∀ p ∈ Y, p.1 ≠ y.1) ∧ (∀ p ∈ Y, p.1 ≠ z.1) := by
  have h1 := Apart.ne (a := x.1) (o := x.2) A
  have h2 := Apart.ne (a := y.1) (o := y.2) A.tl
  have h3 := Apart.ne (a := z.1) (o := z.2) A.tl.tl
  exact ⟨fun p hp => h1 p (.tail _ (.tail _ hp)), fun p hp => h2 p (.tail _ hp), h3⟩
theorem GL.key {w : World} {tr rd : Addr} {U : List Nd} {D : TreeD} {R : RowsD} {V : List (List Int)} (G : GL w tr rd U D R V) {i : Nat} {k : Int} {y : Value} (hk : R.kvs[i]? = some (k, y)) :
    ∃ nd x pth, U[i]? = some nd ∧ R.es[i]? = some x ∧ V[i]? = some pth ∧ k = ((i : Nat) : Int) ∧ y = .ref x.e ∧ x.kind = nd.kind.str ∧ IntsAre x.path pth ∧ x.path.length ≤ i + 1 ∧ i < U.length := by
  have hl : i < R.es.length := by
    have := getElem?_lt hk
    have e : R.kvs.length = R.es.length := kvsFrom_length
    omega
  have hu : U[i]? = some (U[i]'(by rw [← G.repR.len]; exact hl)) := by simp
  obtain ⟨x, pth, h1, h2, h3, h4⟩ := G.repR.get G.paths.len hu
  have h7 := kvsFrom_get (k := 0) h1
  have h8 : R.kvs[i]? = some (((0 + i : Nat) : Int), .ref x.e) := h7
  rw [h8] at hk
  cases hk
  exact ⟨_, x, pth, hu, h1, h2, by rw [Nat.zero_add], rfl, h3, h4, by rw [h4.length]; exact path_len G.paths G.wf _ i pth (Nat.lt_succ_self _) h2, getElem?_lt hu⟩
theorem head_off {h₀ h : Heap} {L D : Addr} {o : Obj} {b : Addr × Obj} {l : Led} (_N : News h₀ L h ((D, o) :: b :: l)) (hl : AllLt D (b :: l)) : ∀ p ∈ l, p.1 ≠ D := fun p hp => Nat.ne_of_lt (tb_ltOf hl p (.tail _ hp))
theorem apart_news {h₀ h : Heap} {L D : Addr} {o : Obj} {l : Led} (_N : News h₀ L h ((D, o) :: l)) (hl : AllLt D l) (A : Apart l) : Apart ((D, o) :: l) := Apart.cons (tb_ltOf hl) A
/-- what stands between the main loop's turns -/
def JL (m₀ : Str → Option Value) (c3 c2 c1 : Addr) (o1 : Obj) (X : Led) (stored : List Str) (m : Str → Option Value) (l : Led) : Prop :=
  ∃ o3 o2 : Obj, l = (c3, o3) :: (c2, o2) :: (c1, o1) :: X ∧ Apart l ∧ (∃ v, o3.data = .cell v) ∧ (∃ v, o2.data = .cell v) ∧ ∀ y, stored.contains y = false → m y = m₀ y
theorem N_apart3 {h₀ h : Heap} {L n : Addr} {a b c : Obj} (_N : News h₀ L h [(n + 1 + 1 + 1, a), (n + 1 + 1, b), (n + 1, c)]) : Apart [(n + 1 + 1 + 1, a), (n + 1 + 1, b), (n + 1, c)] := by
  refine Apart.cons (fun p hp => ?_) (Apart.cons (fun p hp => ?_) (Apart.cons (fun p hp => by cases hp) .nil))
  · simp only [List.mem_cons, List.not_mem_nil, or_false] at hp
    show @LT.lt Nat _ _ _
    rcases hp with rfl | rfl <;> simp
  · simp only [List.mem_cons, List.not_mem_nil, or_false] at hp
    show @LT.lt Nat _ _ _
    rcases hp with rfl; simp
theorem grow_child {T : List Nd} {D : TreeD} {p : Nat} {ndp : Nd} {rp r : RowD} {kd : Kd} {name uri loc value : Str} {tk tp : Tok} (W : WF T) (R : RepD T D) (hpT : T[p]? = some ndp) (hi : ndp.kind.inner = true) (hp : D.rows[p]? = some rp) (hk : kd.child = true)
    (hr : NewRow r kd.str name uri loc value (.int p tp)) :
    WF (T ++ [⟨kd, some p⟩]) ∧ RepD (T ++ [⟨kd, some p⟩]) ((D.add r).set p { rp with ch := rp.ch ++ [.int (D.rows.length : Nat) tk], cn := rp.cn + 1 }) := by
  have W2 : WF (T ++ [⟨kd, some p⟩]) := W.snoc (by intro q hq; cases hq; exact ⟨_, hpT, hi⟩)
  refine ⟨W2, ?_⟩
  rw [R.len]
  exact R.add1 (p := p) rfl hpT (new_is W (by intro q hq; cases hq; exact getElem?_lt hpT) hr ⟨_, rfl⟩ (by intro e; rw [show kd = _ from e] at hk; cases hk) (by intro e; rw [show kd = _ from e] at hk; cases hk)) (par_child (R.row p _ _ hpT hp) rfl hk)
theorem off5 {m1 m0 : Str → Option Value} {a b c d e f : Option Value} {y : Str} (hy : (["kind", "beside", "like", "ahead", "behind"] : List Str).contains y = false) :
    (if y = "behind" then a else if y = "ahead" then b else if y = "like" then c else if y = "like" then d else if y = "beside" then e else if y = "kind" then f else if (["kind", "beside", "like", "ahead", "behind"] : List Str).contains y = true then m1 y else m0 y) = m0 y := by
  have n1 : y ≠ "behind" := by rintro rfl; exact absurd hy (by decide)
  have n2 : y ≠ "ahead" := by rintro rfl; exact absurd hy (by decide)
  have n3 : y ≠ "like" := by rintro rfl; exact absurd hy (by decide)
  have n4 : y ≠ "beside" := by rintro rfl; exact absurd hy (by decide)
  have n5 : y ≠ "kind" := by rintro rfl; exact absurd hy (by decide)
  rw [if_neg n1, if_neg n2, if_neg n3, if_neg n3, if_neg n4, if_neg n5, if_neg (by rw [hy]; decide)]
theorem RCon.weak {w : World} {f : Addr} {d d' q q' : Nat} {args : List Value} {Pre : Led → Prop} (c : RCon w f d q args Pre) (hd' : d' ≤ d) (hq : q' ≤ q) : RCon w f d' q' args Pre :=
  fun tpv lov mean mg mb A cn cs a ccd cl outer A₀ base h₀ L m news s Q E hh hf hdp hu hk => c tpv lov mean mg mb A cn cs a ccd cl outer A₀ base h₀ L m news s Q E hh hf (Nat.le_trans hdp hd') (Nat.le_trans hu hq) hk
theorem hdB.tw536038300854981790 : True := trivial
theorem hdB.tw1180997611525770237 : True := trivial
theorem hdB.tw8298006056515004513 : True := trivial
theorem hdB.tw8562354630404264720 : True := trivial
theorem hdB.tw13633969628357753674 : True := trivial
theorem hdB.tw5184949627967265341 : True := trivial
theorem hdB.tw2318252350315272818 : True := trivial
theorem hdB.tw7218861108990190411 : True := trivial
theorem hdB.tw9393235773609709603 : True := trivial
theorem hdB.tw2569219273192136314 : True := trivial
theorem hdB.tw12238290317205566727 : True := trivial
theorem hdB.tw17462069604643317081 : True := trivial
theorem hdB.tw10257095684667309853 : True := trivial
theorem hdB.tw12926520646415714707 : True := trivial
theorem hdB.tw11494917561926105016 : True := trivial
theorem hdB.tw787213801293312257 : True := trivial
theorem hdB.tw13650668767990266152 : True := trivial
theorem hdB.tw2365183520060900018 : True := trivial
theorem hdB.tw594502157681275256 : True := trivial
theorem hdB.tw5765091682243481200 : True := trivial
theorem hdB.tw7873189063058441803 : True := trivial
theorem hdB.tw17966969761104126461 : True := trivial
theorem hdB.tw11726930031142234306 : True := trivial
theorem hdB.tw3824508104138655170 : True := trivial
theorem hdB.tw12972344685588854005 : True := trivial
theorem hdB.tw4896652085840369046 : True := trivial
theorem hdB.tw11961221387738270199 : True := trivial
theorem hdB.tw7155250807632691835 : True := trivial
theorem hdB.tw4819786184586176959 : True := trivial
theorem hdB.tw5728367159420966441 : True := trivial
theorem hdB.tw264929452996465385 : True := trivial
theorem hdB.tw2611353022239412291 : True := trivial
theorem hdB.tw3498705600851153900 : True := trivial
theorem hdB.tw11667316392302764206 : True := trivial
theorem hdB.tw14479038513763525016 : True := trivial
theorem hdB.tw4755080220442578388 : True := trivial
theorem hdB.tw14692339697486733929 : True := trivial
theorem hdB.tw8954021856323439541 : True := trivial
theorem hdB.tw12019407507685918210 : True := trivial
theorem hdB.tw7623491627983602615 : True := trivial
theorem hdB.tw17980884356242558667 : True := trivial
theorem hdB.tw1393907342520805318 : True := trivial
theorem hdB.tw1575164312096275578 : True := trivial
theorem hdB.tw2341335432378928834 : True := trivial
theorem hdB.tw7554889739185199633 : True := trivial
theorem hdB.tw6882939437623280565 : True := trivial
theorem hdB.tw16842207455543367420 : True := trivial
theorem hdB.tw1158832275023106724 : True := trivial
theorem hdB.tw1937859905759843691 : True := trivial
theorem hdB.tw17724133119369632007 : True := trivial
theorem hdB.tw1501264854544530234 : True := trivial
theorem hdB.tw7482460364270962437 : True := trivial
theorem hdB.tw9688270614764394582 : True := trivial
theorem hdB.tw12749813898533818175 : True := trivial
theorem hdB.tw1693065149019444002 : True := trivial
theorem hdB.tw1972759384961486731 : True := trivial
theorem hdB.tw15149662732187716555 : True := trivial
theorem hdB.tw3966424089453082575 : True := trivial
theorem hdB.tw5819189001055292070 : True := trivial
theorem hdB.tw3458390905309759915 : True := trivial
theorem hdB.tw14869531685949068814 : True := trivial
theorem hdB.tw7043266504223566557 : True := trivial
theorem hdB.tw16377757379332357049 : True := trivial
theorem hdB.tw8877306631261723523 : True := trivial
theorem hdB.tw12895445867983455260 : True := trivial
theorem hdB.tw7641691787540584547 : True := trivial
theorem hdB.tw5046426319620708743 : True := trivial
theorem hdB.tw8237880670428848811 : True := trivial
theorem hdB.tw4395254294479858703 : True := trivial
theorem hdB.tw7523516978520037582 : True := trivial
theorem hdB.tw4081896430911680687 : True := trivial
theorem hdB.tw6011689294237824266 : True := trivial
theorem hdB.tw18265380598997616279 : True := trivial
theorem hdB.tw3735879744019519321 : True := trivial
theorem hdB.tw1943324981752363096 : True := trivial
theorem hdB.tw5777407546050399979 : True := trivial
theorem hdB.tw10624645019109523394 : True := trivial
theorem hdB.tw1973748503201094414 : True := trivial
theorem hdB.tw4987366480647570960 : True := trivial
theorem hdB.tw475963668462022829 : True := trivial
theorem hdB.tw7209759437159997501 : True := trivial
theorem hdB.tw720689436315891801 : True := trivial
theorem hdB.tw3090126034162578670 : True := trivial
theorem hdB.tw8835093717523172634 : True := trivial
theorem hdB.tw2618842436287251215 : True := trivial
theorem hdB.tw3614981238973869419 : True := trivial
theorem hdB.tw2303989974786899086 : True := trivial
theorem hdB.tw2113225105515834590 : True := trivial
theorem hdB.tw5489650333153917366 : True := trivial
theorem hdB.tw10388381751457000505 : True := trivial
theorem hdB.tw5017504152654544039 : True := trivial
theorem hdB.tw17697541003869173353 : True := trivial
theorem hdB.tw9675038262582241039 : True := trivial
theorem hdB.tw4038018153909211241 : True := trivial
theorem hdB.tw3506847140678825357 : True := trivial
theorem hdB.tw14669200372213356858 : True := trivial
theorem hdB.tw8087705182139727511 : True := trivial
theorem hdB.tw5281478395406821698 : True := trivial
theorem hdB.tw7492309392156930401 : True := trivial
theorem hdB.tw7787536664352738079 : True := trivial
theorem hdB.tw15362547606912218797 : True := trivial
theorem hdB.tw11183744455006915406 : True := trivial
theorem hdB.tw16984852898115664590 : True := trivial
theorem hdB.tw13970814353881476035 : True := trivial
theorem hdB.tw12707543306421425798 : True := trivial
theorem hdB.tw11358315053133110775 : True := trivial
theorem hdB.tw11070328013853497411 : True := trivial
theorem hdB.tw8373230726180981414 : True := trivial
theorem hdB.tw3152688966344297781 : True := trivial
theorem hdB.tw4699233967958636080 : True := trivial
theorem hdB.tw17079801678903252499 : True := trivial
theorem hdB.tw5299724198179525155 : True := trivial
theorem hdB.tw11472156807468514366 : True := trivial
theorem hdB.tw16746263990297221009 : True := trivial
theorem hdB.tw12654185650741343667 : True := trivial
theorem hdB.tw17608040398677175246 : True := trivial
theorem hdB.tw14667356352870707748 : True := trivial
theorem hdB.tw14419399186051658582 : True := trivial
theorem hdB.tw12411266553603689898 : True := trivial
theorem hdB.tw12357937096795816881 : True := trivial
theorem hdB.tw10760143088824274230 : True := trivial
theorem hdB.tw3062318533441013502 : True := trivial
theorem hdB.tw18319779080801479596 : True := trivial
theorem hdB.tw7038678049635591111 : True := trivial
theorem hdB.tw16596145783768507322 : True := trivial
theorem hdB.tw1401062199950177088 : True := trivial
theorem hdB.tw17701843012588335916 : True := trivial
theorem hdB.tw8131092359889462156 : True := trivial
theorem hdB.tw7543728327453514637 : True := trivial
theorem hdB.tw1183309468218784493 : True := trivial
theorem hdB.tw5446816296623458443 : True := trivial
theorem hdB.tw9689945664770481996 : True := trivial
theorem hdB.tw270889976600660389 : True := trivial
theorem hdB.tw13616919266760702678 : True := trivial
theorem hdB.tw11404497032303267387 : True := trivial
theorem hdB.tw714020794383551411 : True := trivial
theorem hdB.tw17300909421566774829 : True := trivial
theorem hdB.tw5162896999475180960 : True := trivial
theorem hdB.tw5137766571334806463 : True := trivial
theorem hdB.tw16827805947678527737 : True := trivial
theorem hdB.tw13820951910118067618 : True := trivial
theorem hdB.tw2115914459495906447 : True := trivial
theorem hdB.tw17171009779497984607 : True := trivial
theorem hdB.tw14770133251633014079 : True := trivial
theorem hdB.tw1096611118462850221 : True := trivial
theorem hdB.tw9974559758790987437 : True := trivial
theorem hdB.tw7298993710392231658 : True := trivial
theorem hdB.tw3304511610589890399 : True := trivial
theorem hdB.tw16421967807827199177 : True := trivial
theorem hdB.tw2985657244198069386 : True := trivial
theorem hdB.tw12366699900508420828 : True := trivial
theorem hdB.tw13284344789964939550 : True := trivial
theorem hdB.tw13041997304073740761 : True := trivial
theorem hdB.tw8552204545470072017 : True := trivial
theorem hdB.tw2834803911231220560 : True := trivial
theorem hdB.tw12390307180394536303 : True := trivial
theorem hdB.tw9661661932407659788 : True := trivial
theorem hdB.tw7370903057073754117 : True := trivial
theorem hdB.tw13217441245009024821 : True := trivial
theorem hdB.tw1190763802638642144 : True := trivial
theorem hdB.tw2424918535888130946 : True := trivial
theorem hdB.tw17472374619186744605 : True := trivial
theorem hdB.tw10108678295390518827 : True := trivial
theorem hdB.tw5870520432641999468 : True := trivial
theorem hdB.tw18169167528460811145 : True := trivial
theorem hdB.tw10022493443994453556 : True := trivial
theorem hdB.tw3682958360469743793 : True := trivial
theorem hdB.tw18206664062352576257 : True := trivial
theorem hdB.tw4245343567101900450 : True := trivial
theorem hdB.tw13175114098249543397 : True := trivial
theorem hdB.tw342761422158820985 : True := trivial
theorem hdB.tw12476908706044290878 : True := trivial
theorem hdB.tw18069323583982487666 : True := trivial
theorem hdB.tw16916819751288464985 : True := trivial
theorem hdB.tw6413035107479245678 : True := trivial
theorem hdB.tw13457857228918000261 : True := trivial
theorem hdB.tw7715918671982151301 : True := trivial
theorem hdB.tw6125527830020129477 : True := trivial
theorem hdB.tw3478187454854146901 : True := trivial
theorem hdB.tw14236530294422283900 : True := trivial
theorem hdB.tw13632635975726206561 : True := trivial
theorem hdB.tw12821702077017125785 : True := trivial
theorem hdB.tw11340856869848468104 : True := trivial
theorem hdB.tw494529445652186260 : True := trivial
theorem hdB.tw169401555841166859 : True := trivial
theorem hdB.tw16735926529398550793 : True := trivial
theorem hdB.tw16488871959856481471 : True := trivial
theorem hdB.tw682091708474766446 : True := trivial
theorem hdB.tw15598725036906452976 : True := trivial
theorem hdB.tw8712385237257976631 : True := trivial
theorem hdB.tw4785538261178990906 : True := trivial
theorem hdB.tw4049763070429044022 : True := trivial
theorem hdB.tw229294656457795788 : True := trivial
theorem hdB.tw15853777976638579679 : True := trivial
theorem hdB.tw14893821678034898654 : True := trivial
theorem hdB.tw1117236269706048856 : True := trivial
theorem hdB.tw8166725304363817857 : True := trivial
theorem hdB.tw4037764731641616190 : True := trivial
theorem hdB.tw18403747974622381899 : True := trivial
theorem hdB.tw14876197665731765544 : True := trivial
theorem hdB.tw14433079359930636323 : True := trivial
theorem hdB.tw11214597614550243593 : True := trivial
theorem hdB.tw3185342699019437079 : True := trivial
theorem hdB.tw10069051591612005991 : True := trivial
theorem hdB.tw6110686151392366723 : True := trivial
theorem hdB.tw3899013711103537869 : True := trivial
theorem hdB.tw5587731341446346607 : True := trivial
theorem hdB.tw14068106846996055692 : True := trivial
theorem hdB.tw4234321278676407612 : True := trivial
theorem hdB.tw14420112176246303978 : True := trivial
theorem hdB.tw9698176940208072819 : True := trivial
theorem hdB.tw7095372591342616948 : True := trivial
theorem hdB.tw5988976882591568586 : True := trivial
theorem hdB.tw12459982240640925766 : True := trivial
theorem hdB.tw4967869514264762311 : True := trivial
theorem hdB.tw4715909564279490599 : True := trivial
theorem hdB.tw4445835014924388238 : True := trivial
theorem hdB.tw4170065923251120657 : True := trivial
theorem hdB.tw10925604703942642693 : True := trivial
theorem hdB.tw1089165497621417841 : True := trivial
theorem hdB.tw8025886064268435494 : True := trivial
theorem hdB.tw10337546527440214291 : True := trivial
theorem hdB.tw5608524710857020919 : True := trivial
theorem hdB.tw10846752927160089210 : True := trivial
theorem hdB.tw4545316125209686589 : True := trivial
theorem hdB.tw8945988725222144165 : True := trivial
theorem hdB.tw10896129618786280053 : True := trivial
theorem hdB.tw7204814222319714411 : True := trivial
theorem hdB.tw1675741203962038907 : True := trivial
theorem hdB.tw11860812322045798456 : True := trivial
theorem hdB.tw14468032189948372016 : True := trivial
theorem hdB.tw2089685033934920321 : True := trivial
theorem hdB.tw3240723785969954161 : True := trivial
theorem hdB.tw10823159625193030673 : True := trivial
theorem hdB.tw7507499676956162095 : True := trivial
theorem hdB.tw7282580955003439477 : True := trivial
theorem hdB.tw12120035862186282598 : True := trivial
theorem hdB.tw10500252777688787156 : True := trivial
theorem hdB.tw14600167800030803978 : True := trivial
theorem hdB.tw10060322204140854051 : True := trivial
theorem hdB.tw9072957568876009247 : True := trivial
theorem hdB.tw6435024659882922718 : True := trivial
theorem hdB.tw9667606896861302818 : True := trivial
theorem hdB.tw387065550045987659 : True := trivial
theorem hdB.tw2413006937299057871 : True := trivial
theorem hdB.tw13359232831423125206 : True := trivial
theorem hdB.tw469471460557195721 : True := trivial
theorem hdB.tw12801546405956620371 : True := trivial
theorem hdB.tw11795842734721691587 : True := trivial
theorem hdB.tw2623596306161115307 : True := trivial
theorem hdB.tw13004355628820261972 : True := trivial
theorem hdB.tw17187605485511430966 : True := trivial
theorem hdB.tw12465037708608856900 : True := trivial
theorem hdB.tw15587482639380473116 : True := trivial
theorem hdB.tw4346864117186326196 : True := trivial
theorem hdB.tw3164886504659311240 : True := trivial
theorem hdB.tw1876119605214829474 : True := trivial
theorem hdB.tw16414223228341086277 : True := trivial
theorem hdB.tw564421548585054558 : True := trivial
theorem hdB.tw16800492414846272916 : True := trivial
theorem hdB.tw12681949577004213729 : True := trivial
theorem hdB.tw12925433372861902915 : True := trivial
theorem hdB.tw8441798609470833001 : True := trivial
theorem hdB.tw7950697847352510133 : True := trivial
theorem hdB.tw12784517793750228074 : True := trivial
theorem hdB.tw1417881313692008205 : True := trivial
theorem hdB.tw5443643315066062852 : True := trivial
theorem hdB.tw9564319652454610802 : True := trivial
theorem hdB.tw4000525249030752688 : True := trivial
theorem hdB.tw12966587956464772272 : True := trivial
theorem hdB.tw12897870276625455991 : True := trivial
theorem hdB.tw11713390208890728763 : True := trivial
theorem hdB.tw15593434951601035113 : True := trivial
theorem hdB.tw3544564916812182217 : True := trivial
theorem hdB.tw16966162477641429691 : True := trivial
theorem hdB.tw1291560030329231177 : True := trivial
theorem hdB.tw15824934991705157211 : True := trivial
theorem hdB.tw8481956533258568393 : True := trivial
theorem hdB.tw9030146355110135838 : True := trivial
theorem hdB.tw11595376594288628323 : True := trivial
theorem hdB.tw10069893116795676841 : True := trivial
theorem hdB.tw9815324769934951203 : True := trivial
theorem hdB.tw9082078257866348712 : True := trivial
theorem hdB.tw9041794818381524633 : True := trivial
theorem hdB.tw9026251335127909631 : True := trivial
theorem hdB.tw82733275311979378 : True := trivial
theorem hdB.tw7940194487319868815 : True := trivial
theorem hdB.tw7826120709584893094 : True := trivial
theorem hdB.tw5326279744383688220 : True := trivial
theorem hdB.tw5058864714019460000 : True := trivial
theorem hdB.tw4777152090539660499 : True := trivial
theorem hdB.tw429837847446832234 : True := trivial
theorem hdB.tw3682325828620044984 : True := trivial
theorem hdB.tw3305859679953043820 : True := trivial
theorem hdB.tw2354170974341163307 : True := trivial
theorem hdB.tw2331907586438766800 : True := trivial
theorem hdB.tw18076582330951031355 : True := trivial
theorem hdB.tw17729147277269775027 : True := trivial
theorem hdB.tw17395290345681325371 : True := trivial
theorem hdB.tw16409141394240412643 : True := trivial
theorem hdB.tw15442060300243959041 : True := trivial
theorem hdB.tw13727409396599668426 : True := trivial
theorem hdB.tw13669759399153914181 : True := trivial
theorem hdB.tw1155954370629322612 : True := trivial
theorem hdB.tw12121465228893195976 : True := trivial
theorem hdB.tw1166161374489413734 : True := trivial
theorem hdB.tw7204547217194494032 : True := trivial
theorem hdB.tw3567634236567836191 : True := trivial
theorem hdB.tw16941374662749536870 : True := trivial
theorem hdB.tw3476577946124217138 : True := trivial
theorem hdB.tw18307307550281649757 : True := trivial
theorem hdB.tw12943422199940531356 : True := trivial
theorem hdB.tw11307043770219764856 : True := trivial
theorem hdB.tw10564106306941357646 : True := trivial
theorem hdB.tw6269134569299412782 : True := trivial
theorem hdB.tw7570751443664710377 : True := trivial
theorem hdB.tw7082041653413005565 : True := trivial
theorem hdB.tw3280270315929798061 : True := trivial
theorem hdB.tw2267848042059933890 : True := trivial
theorem hdB.tw14082276074121790986 : True := trivial
theorem hdB.tw9789576867421089619 : True := trivial
theorem hdB.tw7297625631817721215 : True := trivial
theorem hdB.tw5494116333833214884 : True := trivial
theorem hdB.tw4612983599011166641 : True := trivial
theorem hdB.tw11659693942920300766 : True := trivial
theorem hdB.tw5715187211417067332 : True := trivial
theorem hdB.tw10866005096071933182 : True := trivial
theorem hdB.tw9750752736118853896 : True := trivial
theorem hdB.tw7319960463530635233 : True := trivial
theorem hdB.tw16782366003448107953 : True := trivial
theorem hdB.tw13667637310302148573 : True := trivial
theorem hdB.tw9945731310052136310 : True := trivial
theorem hdB.tw9923031971051137409 : True := trivial
theorem hdB.tw9862035936058736964 : True := trivial
theorem hdB.tw981913908648388671 : True := trivial
theorem hdB.tw9779097052493789642 : True := trivial
theorem hdB.tw91677128960898835 : True := trivial
theorem hdB.tw9085691612890244518 : True := trivial
theorem hdB.tw8845442697956235493 : True := trivial
theorem hdB.tw8814610853995632618 : True := trivial
theorem hdB.tw8799671797039284050 : True := trivial
theorem hdB.tw8786120591566911040 : True := trivial
theorem hdB.tw8410189745787444058 : True := trivial
theorem hdB.tw8384112238112570022 : True := trivial
theorem hdB.tw8357848566282084377 : True := trivial
theorem hdB.tw8095688435998659605 : True := trivial
theorem hdB.tw7930358113307292092 : True := trivial
theorem hdB.tw7908247825645380647 : True := trivial
theorem hdB.tw7719808077391009046 : True := trivial
theorem hdB.tw7681256432193613564 : True := trivial
theorem hdB.tw7676403368618499899 : True := trivial
theorem hdB.tw7667574777284888042 : True := trivial
theorem hdB.tw7589435479087505696 : True := trivial
theorem hdB.tw7559666763972078897 : True := trivial
theorem hdB.tw7552392614664433841 : True := trivial
theorem hdB.tw7436724688407103429 : True := trivial
theorem hdB.tw7429813505782984202 : True := trivial
theorem hdB.tw6879032481690537158 : True := trivial
theorem hdB.tw6752853805199799941 : True := trivial
theorem hdB.tw668618408895024685 : True := trivial
theorem hdB.tw6656644580461239143 : True := trivial
theorem hdB.tw6549052726310263592 : True := trivial
theorem hdB.tw6536962184675341995 : True := trivial
theorem hdB.tw6473043463524790918 : True := trivial
theorem hdB.tw6459092502424417849 : True := trivial
theorem hdB.tw6405352750367309641 : True := trivial
theorem hdB.tw619201577190429196 : True := trivial
theorem hdB.tw605705598431006433 : True := trivial
theorem hdB.tw5918891520800706572 : True := trivial
theorem hdB.tw5863978013424164928 : True := trivial
theorem hdB.tw5847151782237450365 : True := trivial
theorem hdB.tw5811045338607079808 : True := trivial
theorem hdB.tw5777459535509103436 : True := trivial
theorem hdB.tw5707650628119915864 : True := trivial
theorem hdB.tw5672518587710906203 : True := trivial
theorem hdB.tw5440839110025663238 : True := trivial
theorem hdB.tw5212806565036500591 : True := trivial
theorem hdB.tw5125508512252173286 : True := trivial
theorem hdB.tw4510443462975947490 : True := trivial
theorem hdB.tw4464356007538647085 : True := trivial
theorem hdB.tw4420651534285528108 : True := trivial
theorem hdB.tw4265584429408553258 : True := trivial
theorem hdB.tw4016324500546980905 : True := trivial
theorem hdB.tw4009856572602423892 : True := trivial
theorem hdB.tw3917319093876902811 : True := trivial
theorem hdB.tw3823085943628155334 : True := trivial
theorem hdB.tw3650052124063349327 : True := trivial
theorem hdB.tw3603738225273405624 : True := trivial
theorem hdB.tw3566412163898373981 : True := trivial
theorem hdB.tw3268217366877557047 : True := trivial
theorem hdB.tw3121427921150283421 : True := trivial
theorem hdB.tw3059270928186270834 : True := trivial
theorem hdB.tw304498082078896603 : True := trivial
theorem hdB.tw3014761482063366610 : True := trivial
theorem hdB.tw3000104907036439879 : True := trivial
theorem hdB.tw299938981094323616 : True := trivial
theorem hdB.tw2954915873864698198 : True := trivial
theorem hdB.tw2848180054069306803 : True := trivial
theorem hdB.tw2848056539902326636 : True := trivial
theorem hdB.tw2831461591821254551 : True := trivial
theorem hdB.tw2665809999045362088 : True := trivial
theorem hdB.tw2508201458456058578 : True := trivial
theorem hdB.tw2481013044295023079 : True := trivial
theorem hdB.tw2362126760149829728 : True := trivial
theorem hdB.tw22461193921973809 : True := trivial
theorem hdB.tw2201145042264276131 : True := trivial
theorem hdB.tw1895142442474255442 : True := trivial
theorem hdB.tw18109030573209504455 : True := trivial
theorem hdB.tw17900398159134317328 : True := trivial
theorem hdB.tw17734793083080367011 : True := trivial
theorem hdB.tw17674987870521649420 : True := trivial
theorem hdB.tw17666534235357057668 : True := trivial
theorem hdB.tw17613021108526889041 : True := trivial
theorem hdB.tw17420311958413718024 : True := trivial
theorem hdB.tw17377620843044610844 : True := trivial
theorem hdB.tw17210484955517695428 : True := trivial
theorem hdB.tw17047190971544547498 : True := trivial
theorem hdB.tw16922653593300399963 : True := trivial
theorem hdB.tw168526267422361723 : True := trivial
theorem hdB.tw165730524252347063 : True := trivial
theorem hdB.tw16439143029911188170 : True := trivial
theorem hdB.tw16433381706587262438 : True := trivial
theorem hdB.tw16412120454687595198 : True := trivial
theorem hdB.tw16036725086540228142 : True := trivial
theorem hdB.tw15911082643983503660 : True := trivial
theorem hdB.tw15692414882686858021 : True := trivial
theorem hdB.tw15441225245813983239 : True := trivial
theorem hdB.tw15350950590689632322 : True := trivial
theorem hdB.tw15221339949622065445 : True := trivial
theorem hdB.tw15122217855297134421 : True := trivial
theorem hdB.tw15042513507143542731 : True := trivial
theorem hdB.tw15039698750832274017 : True := trivial
theorem hdB.tw15026010971645241629 : True := trivial
theorem hdB.tw14808100342969755220 : True := trivial
theorem hdB.tw14800520555378786896 : True := trivial
theorem hdB.tw14623064324234582753 : True := trivial
theorem hdB.tw14496876250492689157 : True := trivial
theorem hdB.tw14196197153133398576 : True := trivial
theorem hdB.tw14115210864076159499 : True := trivial
theorem hdB.tw13954936913261611606 : True := trivial
theorem hdB.tw13746921442394327067 : True := trivial
theorem hdB.tw13545014690401975451 : True := trivial
theorem hdB.tw13353981244525998768 : True := trivial
theorem hdB.tw13332723376058594703 : True := trivial
theorem hdB.tw13121962541816492047 : True := trivial
theorem hdB.tw12945742787389048372 : True := trivial
theorem hdB.tw12805990860979486137 : True := trivial
theorem hdB.tw12685412991271914319 : True := trivial
theorem hdB.tw12512459187834983698 : True := trivial
theorem hdB.tw12472836561579236130 : True := trivial
theorem hdB.tw1237005199619836052 : True := trivial
theorem hdB.tw12351255435464108759 : True := trivial
theorem hdB.tw12350290554024461484 : True := trivial
theorem hdB.tw12314867024639672139 : True := trivial
theorem hdB.tw12298941560419162866 : True := trivial
theorem hdB.tw12206338054501810692 : True := trivial
theorem hdB.tw12114421149688805392 : True := trivial
theorem hdB.tw11674153074825473853 : True := trivial
theorem hdB.tw11636076456536291676 : True := trivial
theorem hdB.tw11482827068820897443 : True := trivial
theorem hdB.tw11325272670927728529 : True := trivial
theorem hdB.tw11178301008774375505 : True := trivial
theorem hdB.tw11018720170402240100 : True := trivial
theorem hdB.tw1077975695720109095 : True := trivial
theorem hdB.tw10597516979169754136 : True := trivial
theorem hdB.tw10591610403564094379 : True := trivial
theorem hdB.tw10122038535034852899 : True := trivial
set_option Elab.async true
set_option maxRecDepth 100000 in
set_option maxHeartbeats 40000000 in
theorem hdB : PySem.Challenge.rw_xm0664_01.Holds := by
  (w_on; o_law; k_head; (case hw => w_witness2))
  k_go0
  all_goals try k_fold
  rename Fr _ _ _ _ => F
  rename News _ _ _ _ => N
  rename CellsAre _ _ _ => C
  rename IntsAre _ _ => hI
  rename Heap.IsList _ _ _ => hLs
  rename Below _ _ _ _ => B
  rename Top _ _ _ _ _ _ => T
  rename World => w
  rename Frag.In _ _ => X9
  have X_ : (kz w.params).In _ := X9
  clear X9
  obtain ⟨q1, q2, q3, hE, d1, d2, d3⟩ := CellsAre.three C
  cases hE
  clear C
  have Ap := N_apart3 N
  rename (_ = (#[] : Array GenState)) => hgens
  generalize hcl : ([(_, _), (_, _), (_, _)] : Led) = news at N Ap
  repeat' (first | (k_unfold; (try dsimp only)) | ((fail_if_success (with_reducible show wpAny _ _ (call (Value.ref _) _ _) _ _ _)); walk1) | (dsimp only; ((fail_if_success (with_reducible show wpAny _ _ (call (Value.ref _) _ _) _ _ _)); walk1)))
  walk1
  repeat' (first | (k_unfold; (try dsimp only)) | ((fail_if_success (with_reducible show wpAny _ _ (call (Value.ref _) _ _) _ _ _)); walk1) | (dsimp only; ((fail_if_success (with_reducible show wpAny _ _ (call (Value.ref _) _ _) _ _ _)); walk1)))
  obtain ⟨D, htr, hrows, N1, Ap1⟩ := tree0 (by k_asm : News _ _ _ ((_, listOf #[] 0) :: _)) Ap (by first | assumption | exact tb_ltOf (by assumption) | exact tb_ltOf (by tbn_find)) (by omega) (by omega)
  subst htr
  have P1 : (D.led w ++ news).Perm (D.led w ++ news) := .refl _
  generalize hn1 : D.led w ++ news = n1 at N1 Ap1 P1
  rw [← hn1] at P1
  have P1' : n1.Perm (D.led w ++ news) := by rw [hn1]
  clear P1
  have hl0 : D.rows.length = 0 := by rw [hrows]; rfl
  (refine' Con.use (c_new_root (D := D) (rest := news) (by omega)) ?uhh73 ?uhf73 ?uhdp73 ?uhu73 ?uhk73 ?uB73 ?uF73 ?uX73 ?uN73 ?uT73 ?uAp73 ?uP73 ?_; (case uhh73 => exact rfl); (case uhf73 => exact rfl); (case uhdp73 => exact Nat.le_of_ble_eq_true rfl); (case uhu73 => exact Nat.le_of_ble_eq_true rfl); (case uhk73 => first | assumption | exact rfl); (case uB73 => k_asm); (case uF73 => k_asm); (case uX73 => k_asm); (case uN73 => k_asm); (case uT73 => k_asm); (case uAp73 => first | assumption | (repeat' (first | assumption | refine Apart.cons (by first | assumption | exact tb_ltOf (by assumption)) ?_))))
  · exact P1'
  rintro v n2 h2' tk2 F2 N2 Ap2 ⟨r0, tq0, hr0, rfl, e2⟩
  rw [hl0]
  have P2 : n2.Perm ((D.add r0).led w ++ news) := by rw [e2]
  have m2 : (D.tr, instObj 295 D.dt) ∈ n2 := perm_mem P2 _ (mem_top1 w _)
  have m2' : (D.dt, D.dobj w) ∈ n2 := perm_mem P2 _ (mem_top2 w _)
  have W0 : WF [] := ⟨fun i nd p h => by simp at h, fun i nd p h => by simp at h⟩
  have R0 : RepD [] D := ⟨by rw [hrows]; rfl, fun i nd r h => by simp at h⟩
  have W1 : WF ([] ++ [(⟨.root, none⟩ : Nd)]) := W0.snoc (by simp)
  have R1 : RepD ([] ++ [(⟨.root, none⟩ : Nd)]) (D.add r0) := R0.add0 rfl (new_is W0 (by simp) hr0 rfl (by simp) (by simp))
  have hg0 : (D.add r0).rows[0]? = some r0 := by show (D.rows ++ [r0])[0]? = _; rw [hrows]; rfl
  have hlz1 : (D.add r0).rows.length = 1 := by show (D.rows ++ [r0]).length = _; rw [hrows]; rfl
  repeat' (first | (k_unfold; (try dsimp only)) | ((fail_if_success (with_reducible show wpAny _ _ (call (Value.ref _) _ _) _ _ _)); walk1) | (dsimp only; ((fail_if_success (with_reducible show wpAny _ _ (call (Value.ref _) _ _) _ _ _)); walk1)))
  (refine' Con.use (c_add_element1 (D := D.add r0) (p := 0) (rp := r0) (rest := news) (by omega) hg0 (by rw [hr0.1]; decide) (by rw [hr0.2.2.2.2.2.2.1]; simp)) ?uhh74 ?uhf74 ?uhdp74 ?uhu74 ?uhk74 ?uB74 ?uF74 ?uX74 ?uN74 ?uT74 ?uAp74 ?uP74 ?_; (case uhh74 => exact rfl); (case uhf74 => exact rfl); (case uhdp74 => exact Nat.le_of_ble_eq_true rfl); (case uhu74 => exact Nat.le_of_ble_eq_true rfl); (case uhk74 => first | assumption | exact rfl); (case uB74 => k_asm); (case uF74 => k_asm); (case uX74 => k_asm); (case uN74 => k_asm); (case uT74 => k_asm); (case uAp74 => first | assumption | (repeat' (first | assumption | refine Apart.cons (by first | assumption | exact tb_ltOf (by assumption)) ?_))))
  · exact P2
  rintro v n3 h3' tk3 F3 N3 Ap3 ⟨r1, tq1, hr1, rfl, e3⟩
  obtain ⟨W2, R2⟩ := grow_child (tk := tq1) W1 R1 (p := 0) (ndp := ⟨.root, none⟩) rfl rfl hg0 (kd := .element) rfl hr1
  rw [hlz1]
  generalize hD2 : ((D.add r0).add r1).set 0 { r0 with ch := r0.ch ++ [.int ((D.add r0).rows.length : Nat) tq1], cn := r0.cn + 1 } = D2 at e3 R2
  have htr2 : D2.tr = D.tr := by rw [← hD2]; rfl
  clear hD2 m2 m2'
  have P3 : n3.Perm (D2.led w ++ news) := by rw [e3]
  have m3 : (D.tr, instObj 295 D2.dt) ∈ n3 := by rw [← htr2]; exact perm_mem P3 _ (mem_top1 w _)
  have m3' : (D2.dt, D2.dobj w) ∈ n3 := perm_mem P3 _ (mem_top2 w _)
  obtain ⟨q2, hq2, is2⟩ := R2.get (i := 1) (nd := ⟨.element, some 0⟩) rfl
  repeat' (first | (k_unfold; (try dsimp only)) | ((fail_if_success (with_reducible show wpAny _ _ (call (Value.ref _) _ _) _ _ _)); walk1) | (dsimp only; ((fail_if_success (with_reducible show wpAny _ _ (call (Value.ref _) _ _) _ _ _)); walk1)))
  (refine' Con.use (Con.tr htr2 (c_add_text1 (D := D2) (p := 1) (rp := q2) (rest := news) (by rw [R2.len]; decide) hq2 (by rw [is2.kind]; decide) (Nat.le_trans (kids_len is2).1 (by decide)))) ?uhh63 ?uhf63 ?uhdp63 ?uhu63 ?uhk63 ?uB63 ?uF63 ?uX63 ?uN63 ?uT63 ?uAp63 ?uP63 ?_; (case uhh63 => exact rfl); (case uhf63 => exact rfl); (case uhdp63 => exact Nat.le_of_ble_eq_true rfl); (case uhu63 => exact Nat.le_of_ble_eq_true rfl); (case uhk63 => first | assumption | exact rfl); (case uB63 => k_asm); (case uF63 => k_asm); (case uX63 => k_asm); (case uN63 => k_asm); (case uT63 => k_asm); (case uAp63 => first | assumption | (repeat' (first | assumption | refine Apart.cons (by first | assumption | exact tb_ltOf (by assumption)) ?_))); (case uP63 => (exact P3)))
  rintro v n4 h4' tk4 F4 N4 Ap4 ⟨r2, tq2, hr2, rfl, e4⟩
  obtain ⟨W3, R3⟩ := grow_child (tk := tq2) W2 R2 (p := 1) (ndp := ⟨.element, some 0⟩) rfl rfl hq2 (kd := .text) rfl hr2
  rw [show D2.rows.length = 2 from R2.len]
  generalize hD3 : (D2.add r2).set 1 { q2 with ch := q2.ch ++ [.int (D2.rows.length : Nat) tq2], cn := q2.cn + 1 } = D3 at e4 R3
  have htr3 : D3.tr = D.tr := by rw [← hD3]; exact htr2
  clear hD3 m3 m3'
  have P4 : n4.Perm (D3.led w ++ news) := by rw [e4]
  have m4 : (D.tr, instObj 295 D3.dt) ∈ n4 := by rw [← htr3]; exact perm_mem P4 _ (mem_top1 w _)
  have m4' : (D3.dt, D3.dobj w) ∈ n4 := perm_mem P4 _ (mem_top2 w _)
  obtain ⟨q3, hq3, is3⟩ := R3.get (i := 1) (nd := ⟨.element, some 0⟩) rfl
  repeat' (first | (k_unfold; (try dsimp only)) | ((fail_if_success (with_reducible show wpAny _ _ (call (Value.ref _) _ _) _ _ _)); walk1) | (dsimp only; ((fail_if_success (with_reducible show wpAny _ _ (call (Value.ref _) _ _) _ _ _)); walk1)))
  (refine' Con.use (Con.tr htr3 (c_add_comment1 (D := D3) (p := 1) (rp := q3) (rest := news) (by rw [R3.len]; decide) hq3 (by rw [is3.kind]; decide) (Nat.le_trans (kids_len is3).1 (by decide)))) ?uhh64 ?uhf64 ?uhdp64 ?uhu64 ?uhk64 ?uB64 ?uF64 ?uX64 ?uN64 ?uT64 ?uAp64 ?uP64 ?_; (case uhh64 => exact rfl); (case uhf64 => exact rfl); (case uhdp64 => exact Nat.le_of_ble_eq_true rfl); (case uhu64 => exact Nat.le_of_ble_eq_true rfl); (case uhk64 => first | assumption | exact rfl); (case uB64 => k_asm); (case uF64 => k_asm); (case uX64 => k_asm); (case uN64 => k_asm); (case uT64 => k_asm); (case uAp64 => first | assumption | (repeat' (first | assumption | refine Apart.cons (by first | assumption | exact tb_ltOf (by assumption)) ?_))); (case uP64 => (exact P4)))
  rintro v n5 h5' tk5 F5 N5 Ap5 ⟨r3, tq3, hr3, rfl, e5⟩
  obtain ⟨W4, R4⟩ := grow_child (tk := tq3) W3 R3 (p := 1) (ndp := ⟨.element, some 0⟩) rfl rfl hq3 (kd := .comment) rfl hr3
  rw [show D3.rows.length = 3 from R3.len]
  generalize hD4 : (D3.add r3).set 1 { q3 with ch := q3.ch ++ [.int (D3.rows.length : Nat) tq3], cn := q3.cn + 1 } = D4 at e5 R4
  have htr4 : D4.tr = D.tr := by rw [← hD4]; exact htr3
  clear hD4 m4 m4'
  have P5 : n5.Perm (D4.led w ++ news) := by rw [e5]
  have m5 : (D.tr, instObj 295 D4.dt) ∈ n5 := by rw [← htr4]; exact perm_mem P5 _ (mem_top1 w _)
  have m5' : (D4.dt, D4.dobj w) ∈ n5 := perm_mem P5 _ (mem_top2 w _)
  obtain ⟨q4, hq4, is4⟩ := R4.get (i := 1) (nd := ⟨.element, some 0⟩) rfl
  repeat' (first | (k_unfold; (try dsimp only)) | ((fail_if_success (with_reducible show wpAny _ _ (call (Value.ref _) _ _) _ _ _)); walk1) | (dsimp only; ((fail_if_success (with_reducible show wpAny _ _ (call (Value.ref _) _ _) _ _ _)); walk1)))
  (refine' Con.use (Con.tr htr4 (c_add_text1 (D := D4) (p := 1) (rp := q4) (rest := news) (by rw [R4.len]; decide) hq4 (by rw [is4.kind]; decide) (Nat.le_trans (kids_len is4).1 (by decide)))) ?uhh65 ?uhf65 ?uhdp65 ?uhu65 ?uhk65 ?uB65 ?uF65 ?uX65 ?uN65 ?uT65 ?uAp65 ?uP65 ?_; (case uhh65 => exact rfl); (case uhf65 => exact rfl); (case uhdp65 => exact Nat.le_of_ble_eq_true rfl); (case uhu65 => exact Nat.le_of_ble_eq_true rfl); (case uhk65 => first | assumption | exact rfl); (case uB65 => k_asm); (case uF65 => k_asm); (case uX65 => k_asm); (case uN65 => k_asm); (case uT65 => k_asm); (case uAp65 => first | assumption | (repeat' (first | assumption | refine Apart.cons (by first | assumption | exact tb_ltOf (by assumption)) ?_))); (case uP65 => (exact P5)))
  rintro v n6 h6' tk6 F6 N6 Ap6 ⟨r4, tq4, hr4, rfl, e6⟩
  obtain ⟨W5, R5⟩ := grow_child (tk := tq4) W4 R4 (p := 1) (ndp := ⟨.element, some 0⟩) rfl rfl hq4 (kd := .text) rfl hr4
  rw [show D4.rows.length = 4 from R4.len]
  generalize hD5 : (D4.add r4).set 1 { q4 with ch := q4.ch ++ [.int (D4.rows.length : Nat) tq4], cn := q4.cn + 1 } = D5 at e6 R5
  have htr5 : D5.tr = D.tr := by rw [← hD5]; exact htr4
  clear hD5 m5 m5'
  have P6 : n6.Perm (D5.led w ++ news) := by rw [e6]
  have m6 : (D.tr, instObj 295 D5.dt) ∈ n6 := by rw [← htr5]; exact perm_mem P6 _ (mem_top1 w _)
  have m6' : (D5.dt, D5.dobj w) ∈ n6 := perm_mem P6 _ (mem_top2 w _)
  obtain ⟨q5, hq5, is5⟩ := R5.get (i := 1) (nd := ⟨.element, some 0⟩) rfl
  repeat' (first | (k_unfold; (try dsimp only)) | ((fail_if_success (with_reducible show wpAny _ _ (call (Value.ref _) _ _) _ _ _)); walk1) | (dsimp only; ((fail_if_success (with_reducible show wpAny _ _ (call (Value.ref _) _ _) _ _ _)); walk1)))
  rw [show ([((2 : Nat) : Int), ((3 : Nat) : Int), ((4 : Nat) : Int)].getD (Int.toNat 2) 0) = ((4 : Nat) : Int) from rfl]
  obtain ⟨q4, hq4, is4⟩ := R5.get (i := 4) (nd := ⟨.text, some 1⟩) rfl
  obtain ⟨tp4, hpar4⟩ : ∃ tp, q4.par = .int (1 : Nat) tp := is4.par
  (refine' Con.use (Con.tr htr5 (c_ahead1 (D := D5) (i := 4) (p := 1) (ns := [2, 3, 4]) hq4 (by rw [R5.len]; decide) hpar4 hq5 (Nat.le_trans (kids_len is5).1 (by decide)) is5.ch (fun _ => by decide) (by decide))) ?uhh66 ?uhf66 ?uhdp66 ?uhu66 ?uhk66 ?uB66 ?uF66 ?uX66 ?uN66 ?uT66 ?uAp66 ?uP66 ?_; (case uhh66 => exact rfl); (case uhf66 => exact rfl); (case uhdp66 => exact Nat.le_of_ble_eq_true rfl); (case uhu66 => exact Nat.le_of_ble_eq_true rfl); (case uhk66 => first | assumption | exact rfl); (case uB66 => k_asm); (case uF66 => k_asm); (case uX66 => k_asm); (case uN66 => k_asm); (case uT66 => k_asm); (case uAp66 => first | assumption | (repeat' (first | assumption | refine Apart.cons (by first | assumption | exact tb_ltOf (by assumption)) ?_))); (case uP66 => (exact fun q hq => .tail _ (perm_mem P6 q hq))))
  rintro v n7 h7' tk7 F7 N7 Ap7 ⟨l7, vs7, c7, rfl, rfl, hlt7, hI7⟩
  rw [is4.kind] at hI7
  have hI7' : IntsAre vs7 [3, 2] := hI7
  repeat' (first | (k_unfold; (try dsimp only)) | ((fail_if_success (with_reducible show wpAny _ _ (call (Value.ref _) _ _) _ _ _)); walk1) | (dsimp only; ((fail_if_success (with_reducible show wpAny _ _ (call (Value.ref _) _ _) _ _ _)); walk1)))
  have N8 := News_subN (by k_asm : News _ _ _ ((_, _) :: (l7, _) :: _)) (fun q (hq : q ∈ news) => .tail _ (.tail _ (.tail _ (P6.mem_iff.mpr (List.mem_append_right _ hq)))))
  refine' c_pool ?i1 ?i2 ?i3 ?i4 ?i5 ?i6 ?i7 ?i8 N8 ?i10 Ap ?i11 hI ?i12 ?i13 ?_
  case i1 => rfl
  case i2 => exact rfl
  case i3 => exact Nat.le_of_ble_eq_true rfl
  case i4 => exact Nat.le_of_ble_eq_true rfl
  case i5 => rfl
  case i6 => k_asm
  case i7 => k_asm
  case i8 => k_asm
  case i10 => k_asm
  case i11 => assumption
  case i12 => assumption
  case i13 => omega
  intro src z0 z1 ta tb h9 tk9 F9 N9 hlt9 hz1 hz2
  have Ap9 := Apart.cons (o := listOf [Value.int z0 ta, .int z1 tb].toArray 0) hlt9 Ap
  clear hlt9
  repeat' (first | (k_unfold; (try dsimp only)) | ((fail_if_success (with_reducible show wpAny _ _ (call (Value.ref _) _ _) _ _ _)); walk1) | (dsimp only; ((fail_if_success (with_reducible show wpAny _ _ (call (Value.ref _) _ _) _ _ _)); walk1)))
  (refine' Con.use (c_grown (nv := 0) (rest := news) hz1 hz2) ?uhh67 ?uhf67 ?uhdp67 ?uhu67 ?uhk67 ?uB67 ?uF67 ?uX67 ?uN67 ?uT67 ?uAp67 ?uP67 ?_; (case uhh67 => exact rfl); (case uhf67 => exact rfl); (case uhdp67 => exact Nat.le_of_ble_eq_true rfl); (case uhu67 => exact Nat.le_of_ble_eq_true rfl); (case uhk67 => first | assumption | exact rfl); (case uB67 => k_asm); (case uF67 => k_asm); (case uX67 => k_asm); (case uN67 => k_asm); (case uT67 => k_asm); (case uAp67 => first | assumption | (repeat' (first | assumption | refine Apart.cons (by first | assumption | exact tb_ltOf (by assumption)) ?_))); (case uP67 => (exact .refl _)))
  rintro v10 n10 h10 tk10 F10 N10 Ap10 ⟨tup, tr, rd, U, DD, R, V, y0, y1, ya, yb, rfl, e10, hy1, hy2, hU2, hU11, G, lo⟩
  subst e10
  subst hcl
  have N11 := News_perm perm_cells N10
  have Ap11 := Ap10.perm perm_cells
  clear N10 Ap10 Ap9 P6
  obtain ⟨ne1, ne2, ne3⟩ := cells_ne Ap11
  have ne1' := fun p hp => ne1 p (.tail _ (.tail _ hp))
  have ne2' := fun p hp => ne2 p (.tail _ (.tail _ hp))
  have ne3' := fun p hp => ne3 p (.tail _ (.tail _ hp))
  have t1 : @Ne Nat tup _ := ne1 _ (.head _)
  have t2 : @Ne Nat tup _ := ne2 _ (.head _)
  have t3 : @Ne Nat tup _ := ne3 _ (.head _)
  have u1 : @Ne Nat src _ := ne1 _ (.tail _ (.head _))
  have u2 : @Ne Nat src _ := ne2 _ (.tail _ (.head _))
  have u3 : @Ne Nat src _ := ne3 _ (.tail _ (.head _))
  generalize hX : DD.led w ++ R.led = XX at N11 Ap11 ne1 ne2 ne3 ne1' ne2' ne3'
  repeat' (first | (k_unfold; (try dsimp only)) | ((fail_if_success (with_reducible show wpAny _ _ (call (Value.ref _) _ _) _ _ _)); walk1) | (dsimp only; ((fail_if_success (with_reducible show wpAny _ _ (call (Value.ref _) _ _) _ _ _)); walk1)))
  rename_i o12 F12 N12 d12
  subst hX
  have Ap12 := Ap11.keys (l' := _ :: _ :: (_, o12) :: _ :: _ :: (DD.led w ++ R.led)) rfl
  (refine' Con.use (c_loosened (nv := 0) hy1 hy2 G hU11 lo) ?uhh68 ?uhf68 ?uhdp68 ?uhu68 ?uhk68 ?uB68 ?uF68 ?uX68 ?uN68 ?uT68 ?uAp68 ?uP68 ?_; (case uhh68 => exact rfl); (case uhf68 => exact rfl); (case uhdp68 => exact Nat.le_of_ble_eq_true rfl); (case uhu68 => exact Nat.le_of_ble_eq_true rfl); (case uhk68 => first | assumption | exact rfl); (case uB68 => k_asm); (case uF68 => k_asm); (case uX68 => k_asm); (case uN68 => k_asm); (case uT68 => k_asm); (case uAp68 => first | assumption | (repeat' (first | assumption | refine Apart.cons (by first | assumption | exact tb_ltOf (by assumption)) ?_))); (case uP68 => (exact perm_loose)))
  rintro v13 n13 h13 tk13 F13 N13 Ap13 ⟨rfl, T', D', R', V', e13, hTl, GL⟩
  subst e13
  have N14 := News_subN (News_perm perm_back N13) (fun q hq => .tail _ hq)
  have Ap14 := (Ap13.perm perm_back).tl
  clear N12 N13 Ap13 Ap12 Ap11 ne1 ne2 ne3 ne1' ne2' ne3' u1 u2 u3 t1 t2 t3
  repeat' (first | (k_unfold; (try dsimp only)) | ((fail_if_success (with_reducible show wpAny _ _ (call (Value.ref _) _ _) _ _ _)); (fail_if_success (with_reducible show wpAny _ _ (exec (Stmt.For _ _ _ _ _) _) _ _ _)); (fail_if_success (with_reducible show wpAny _ _ (exec (Stmt.Assign _ (Expr.ListComp _ _ _ _) _) _) _ _ _)); (fail_if_success (with_reducible show wpAny _ _ (eval (Expr.ListComp _ _ _ _) _) _ _ _)); walk1) | (dsimp only; ((fail_if_success (with_reducible show wpAny _ _ (call (Value.ref _) _ _) _ _ _)); (fail_if_success (with_reducible show wpAny _ _ (exec (Stmt.For _ _ _ _ _) _) _ _ _)); (fail_if_success (with_reducible show wpAny _ _ (exec (Stmt.Assign _ (Expr.ListComp _ _ _ _) _) _) _ _ _)); (fail_if_success (with_reducible show wpAny _ _ (eval (Expr.ListComp _ _ _ _) _) _ _ _)); walk1)))
  have hkeep : (rd, R'.od) ∈ D'.led w ++ R'.led := by rw [← GL.hrd]; exact List.mem_append_right _ R'.mem_d
  have hXD : ∀ p ∈ D'.led w, p ∈ D'.led w ++ R'.led := fun p hp => List.mem_append_left _ hp
  have hXR : ∀ p ∈ R'.led, p ∈ D'.led w ++ R'.led := fun p hp => List.mem_append_right _ hp
  generalize hX : D'.led w ++ R'.led = X at N14 Ap14 hkeep hXD hXR
  have hdict := GL.dict
  obtain ⟨m0, F13⟩ : ∃ m0 : Str → Option Value, Fr T.heap _ h13 (fun y => if y = "tree" then some (.ref tr) else m0 y) := ⟨_, F13⟩
  revert hgens X_ B F13 N14 Ap14 GL hXD hXR hkeep hdict lo d1 d2 d12 hTl hU11
  kjx_bare
  intro hgens B X_ d1 d2 hU11 lo d12 hTl GL N14 Ap14 hkeep hXD hXR hdict F13
  with_unfolding_all refine' For_invTF (by k_asm) ?f1 ?f2
  case f2 => intro _; rfl
  walk1
  refine' iter_keys_T (d := rd) (od := R'.od) (kvs := R'.kvs) (fun _ => JL _ _ _ _ o12 X ["kind", "beside", "like", "ahead", "behind"]) ?ht rfl hdict lo ?kp ?kF ?kN ⟨_, _, rfl, Ap14, ⟨_, d1⟩, ⟨_, d2⟩, fun _ _ => rfl⟩ ?_ ?_
  case ht => intro _ _; rfl
  case kp => rintro i m l ⟨o3, o2, rfl, _⟩; exact .tail _ (.tail _ (.tail _ hkeep))
  case kF => k_asm
  case kN => k_asm
  · rintro i k y ti m1 n1 s1 I oI hk ⟨o3, o2, rfl, ApJ, ⟨v3, hc3⟩, ⟨v2, hc2⟩, hm⟩ hoff FJ NJ
    rw [frame_stored hm] at FJ
    obtain ⟨nd, x, pth, hnd, hx, hpth, rfl, rfl, hxk, hxp, hxl, hil⟩ := GL.key hk
    have hE1 := hXR _ (RowsD.mem_e hx)
    have hE2 := hXR _ (RowsD.mem_p hx)
    have hE3 := RowsD.at hx
    have ApI := Apart.consNe (o := oI) hoff ApJ
    obtain ⟨nx3, nx2, nx1⟩ := cells_ne ApJ
    have i3 : @Ne Nat I _ := (hoff _ (.head _)).symm
    have i2 : @Ne Nat I _ := (hoff _ (.tail _ (.head _))).symm
    have i1 : @Ne Nat I _ := (hoff _ (.tail _ (.tail _ (.head _)))).symm
    have xll : x.path.length ≤ 1000 := by have := hTl; omega
    have pll : pth.length ≤ 1000 := by rw [← hxp.length]; exact xll
    have hbd : besideStr x.kind = ((x.kind == "attribute") || (x.kind == "namespace")) := by
      unfold besideStr
      simp only [List.any_cons, List.any_nil, Bool.or_false]
      rw [Bool.beq_comm, Bool.beq_comm (a := ("namespace" : Str))]
    repeat' (first | (k_unfold; (try dsimp only)) | ((fail_if_success (with_reducible show wpAny _ _ (call (Value.ref _) _ _) _ _ _)); (fail_if_success (with_reducible show wpAny _ _ (exec (Stmt.For _ _ _ _ _) _) _ _ _)); (fail_if_success (with_reducible show wpAny _ _ (exec (Stmt.Assign _ (Expr.ListComp _ _ _ _) _) _) _ _ _)); (fail_if_success (with_reducible show wpAny _ _ (eval (Expr.ListComp _ _ _ _) _) _ _ _)); (fail_if_success (with_reducible show wpAny _ _ (exec (Stmt.Assign _ (Expr.BoolOp _ _ _) _) _) _ _ _)); (fail_if_success (with_reducible show wpAny _ _ (exec (Stmt.Assign _ (Expr.IfExp _ _ _ _) _) _) _ _ _)); walk1) | (dsimp only; ((fail_if_success (with_reducible show wpAny _ _ (call (Value.ref _) _ _) _ _ _)); (fail_if_success (with_reducible show wpAny _ _ (exec (Stmt.For _ _ _ _ _) _) _ _ _)); (fail_if_success (with_reducible show wpAny _ _ (exec (Stmt.Assign _ (Expr.ListComp _ _ _ _) _) _) _ _ _)); (fail_if_success (with_reducible show wpAny _ _ (eval (Expr.ListComp _ _ _ _) _) _ _ _)); (fail_if_success (with_reducible show wpAny _ _ (exec (Stmt.Assign _ (Expr.BoolOp _ _ _) _) _) _ _ _)); (fail_if_success (with_reducible show wpAny _ _ (exec (Stmt.Assign _ (Expr.IfExp _ _ _ _) _) _) _ _ _)); walk1)))
    rename Fr _ _ _ _ => kF
    rename News _ _ _ _ => kN
    refine' station "beside" (.bool (besideStr x.kind)) kF kN ?_ ?_
    · repeat' (first | (k_unfold; (try dsimp only)) | ((fail_if_success (with_reducible show wpAny _ _ (call (Value.ref _) _ _) _ _ _)); (fail_if_success (with_reducible show wpAny _ _ (exec (Stmt.For _ _ _ _ _) _) _ _ _)); (fail_if_success (with_reducible show wpAny _ _ (exec (Stmt.Assign _ (Expr.ListComp _ _ _ _) _) _) _ _ _)); (fail_if_success (with_reducible show wpAny _ _ (eval (Expr.ListComp _ _ _ _) _) _ _ _)); walk1) | (dsimp only; ((fail_if_success (with_reducible show wpAny _ _ (call (Value.ref _) _ _) _ _ _)); (fail_if_success (with_reducible show wpAny _ _ (exec (Stmt.For _ _ _ _ _) _) _ _ _)); (fail_if_success (with_reducible show wpAny _ _ (exec (Stmt.Assign _ (Expr.ListComp _ _ _ _) _) _) _ _ _)); (fail_if_success (with_reducible show wpAny _ _ (eval (Expr.ListComp _ _ _ _) _) _ _ _)); walk1)))
      all_goals first
        | k_asm
        | (rw [show besideStr x.kind = (x.kind == "attribute") from by rw [hbd, (by assumption : (x.kind == "attribute") = true)]; rfl]; k_asm)
        | (rw [show besideStr x.kind = (x.kind == "namespace") from by rw [hbd, (by assumption : (x.kind == "attribute") = false)]; rfl]; k_asm)
    intro h1 tk1 F1 N1
    clear kF kN FJ NJ
    repeat' (first | (k_unfold; (try dsimp only)) | ((fail_if_success (with_reducible show wpAny _ _ (call (Value.ref _) _ _) _ _ _)); (fail_if_success (with_reducible show wpAny _ _ (exec (Stmt.For _ _ _ _ _) _) _ _ _)); (fail_if_success (with_reducible show wpAny _ _ (exec (Stmt.Assign _ (Expr.ListComp _ _ _ _) _) _) _ _ _)); (fail_if_success (with_reducible show wpAny _ _ (eval (Expr.ListComp _ _ _ _) _) _ _ _)); (fail_if_success (with_reducible show wpAny _ _ (exec (Stmt.Assign _ (Expr.BoolOp _ _ _) _) _) _ _ _)); (fail_if_success (with_reducible show wpAny _ _ (exec (Stmt.Assign _ (Expr.IfExp _ _ _ _) _) _) _ _ _)); walk1) | (dsimp only; ((fail_if_success (with_reducible show wpAny _ _ (call (Value.ref _) _ _) _ _ _)); (fail_if_success (with_reducible show wpAny _ _ (exec (Stmt.For _ _ _ _ _) _) _ _ _)); (fail_if_success (with_reducible show wpAny _ _ (exec (Stmt.Assign _ (Expr.ListComp _ _ _ _) _) _) _ _ _)); (fail_if_success (with_reducible show wpAny _ _ (eval (Expr.ListComp _ _ _ _) _) _ _ _)); (fail_if_success (with_reducible show wpAny _ _ (exec (Stmt.Assign _ (Expr.BoolOp _ _ _) _) _) _ _ _)); (fail_if_success (with_reducible show wpAny _ _ (exec (Stmt.Assign _ (Expr.IfExp _ _ _ _) _) _) _ _ _)); walk1)))
    have hkz : R'.kvs.length ≤ 1000 := by show (kvsFrom 0 R'.es).length ≤ 1000; rw [kvsFrom_length, GL.repR.len]; omega
    refine' assign_comp_dict (by k_asm) ?k1 ?k2 ?k3 ?k4 ?k5 ?k6 ?k7 ?k8 ?k9 ?_ ?k10
    case k1 => rfl
    case k2 => with_unfolding_all rfl
    case k3 => with_unfolding_all rfl
    case k4 => decide
    case k5 => rfl
    case k6 => decide
    case k7 => rfl
    case k8 => rfl
    case k9 => rfl
    case k10 => intro _; rfl
    repeat' (first | (k_unfold; (try dsimp only)) | ((fail_if_success (with_reducible show wpAny _ _ (call (Value.ref _) _ _) _ _ _)); walk1) | (dsimp only; ((fail_if_success (with_reducible show wpAny _ _ (call (Value.ref _) _ _) _ _ _)); walk1)))
    refine ⟨rd, R'.od, R'.kvs, _, rfl, rfl, by k_asm, by k_asm, .tail _ (.tail _ (.tail _ (.tail _ hkeep))), hdict, lo, Nat.le_trans hkz (Nat.le_of_ble_eq_true rfl), ?_⟩
    rintro s₂ ⟨h2, rfl⟩
    refine compT_inv (fun i' ys => i' ≤ R'.es.length ∧ ys.length ≤ i' ∧ IntsAre ys (placesOf (likeC V' pth) i')) (.tail _ (.tail _ (.tail _ (.tail _ hkeep)))) ?_ _ 0 [] ⟨Nat.zero_le _, Nat.le_refl _, .nil⟩ ?_
    --[[
    · rintro j v ys Ic oIc Cc oCc Ld m₂ hh tkk E' ⟨kj, yj, hkj, hv⟩ ⟨hj, hy, hys⟩ hC hxv Fc Nc nc1 nc2 nc3 offc
      obtain ⟨tv, rfl⟩ := Value.isInt_shape hv
      obtain ⟨ndj, xj, pthj, hndj, hxj, hpthj, rfl, rfl, hxjk, hxjp, hxjl, hjl⟩ := GL.key hkj
      have hE4 := hXR _ (RowsD.mem_e hxj)
      have hE5 := hXR _ (RowsD.mem_p hxj)
      have hE6 := RowsD.at hxj
      have pll2 : pthj.length ≤ 1000 := by rw [← hxjp.length]; have := hTl; omega
      have xll2 : xj.path.length ≤ 1000 := by rw [hxjp.length]; exact pll2
      repeat' (first | ((fail_if_success (with_reducible show wpAny _ _ (subscriptTail (PySem.Expr.Name _ _) _ _ _) _ _ _)); (with_reducible show wpAny _ _ (subscriptTail _ _ (Value.ref _) _) _ _ _); (refine PySem.W.kba_turn (value' := PySem.Expr.Name (PySem.Str.ofString "_") ⟨0, 0, 0, 0⟩) (fun _ => rfl) ?_)) | ((with_reducible show wpAny _ _ (subscriptTail (PySem.Expr.Name _ _) _ (Value.ref _) (Value.ref _)) _ _ _); (refine' kmk_slice_ints ?F ?N ?l ?p ?q ?i ?m ?c ?_ ?s ?t ?z; (case F => k_asm); (case N => k_asm); (case l => exact News.isList (by k_asm) (by k_mem)); (case p => kmk_part); (case q => kmk_part); (case i => assumption); (case m => exact kmk_upto_neg (by assumption) (by decide)); (case c => exact rfl); (case s => with_unfolding_all rfl); (case t => kmk_pure); (case z => exact kmk_sz (by assumption) (line_le (by assumption)))); intro D' ws' h' F' N' l1 hI' hC' hL'; (try k_lt l1); (try k_sweep)) | (k_unfold; (try dsimp only)) | ((fail_if_success (with_reducible show wpAny _ _ (call (Value.ref _) _ _) _ _ _)); (fail_if_success (with_reducible show wpAny _ _ (exec (Stmt.For _ _ _ _ _) _) _ _ _)); (fail_if_success (with_reducible show wpAny _ _ (exec (Stmt.Assign _ (Expr.ListComp _ _ _ _) _) _) _ _ _)); (fail_if_success (with_reducible show wpAny _ _ (eval (Expr.ListComp _ _ _ _) _) _ _ _)); (fail_if_success (with_reducible show wpAny _ _ (exec (Stmt.Assign _ (Expr.BoolOp _ _ _) _) _) _ _ _)); (fail_if_success (with_reducible show wpAny _ _ (exec (Stmt.Assign _ (Expr.IfExp _ _ _ _) _) _) _ _ _)); walk1) | (dsimp only; ((fail_if_success (with_reducible show wpAny _ _ (call (Value.ref _) _ _) _ _ _)); (fail_if_success (with_reducible show wpAny _ _ (exec (Stmt.For _ _ _ _ _) _) _ _ _)); (fail_if_success (with_reducible show wpAny _ _ (exec (Stmt.Assign _ (Expr.ListComp _ _ _ _) _) _) _ _ _)); (fail_if_success (with_reducible show wpAny _ _ (eval (Expr.ListComp _ _ _ _) _) _ _ _)); (fail_if_success (with_reducible show wpAny _ _ (exec (Stmt.Assign _ (Expr.BoolOp _ _ _) _) _) _ _ _)); (fail_if_success (with_reducible show wpAny _ _ (exec (Stmt.Assign _ (Expr.IfExp _ _ _ _) _) _) _ _ _)); walk1)))
      · have hc := like_yes hpthj hxp.length (by assumption) (by assumption)
        exact ⟨_, _, rfl, by k_asm, News_subN (by k_asm : News _ _ _ (_ :: _ :: _)) (fun q hq => .tail _ (.tail _ hq)), getElem?_lt hxj, by rw [List.length_append, List.length_singleton]; omega, places_yes hys hc⟩
      · have hc := like_no2 hpthj (v := pth) (by assumption)
        exact ⟨_, _, rfl, by k_asm, News_subN (by k_asm : News _ _ _ (_ :: _ :: _)) (fun q hq => .tail _ (.tail _ hq)), getElem?_lt hxj, Nat.le_succ_of_le hy, places_no hys hc⟩
      · have hc := like_no1 hpthj hxp.length (by assumption)
        exact ⟨_, _, rfl, by k_asm, by k_asm, getElem?_lt hxj, Nat.le_succ_of_le hy, places_no hys hc⟩
    --]]
    · rintro ys ⟨hjj, hyl, hys⟩
      intro Ld h2' tk2 F2 N2 O2
      have hlen : R'.kvs.length = T'.length := by have e : R'.kvs.length = R'.es.length := kvsFrom_length; rw [e, GL.repR.len]
      rw [Nat.zero_add, hlen] at hys
      clear F1 N1
      repeat' (first | (k_unfold; (try dsimp only)) | ((fail_if_success (with_reducible show wpAny _ _ (call (Value.ref _) _ _) _ _ _)); (fail_if_success (with_reducible show wpAny _ _ (exec (Stmt.For _ _ _ _ _) _) _ _ _)); (fail_if_success (with_reducible show wpAny _ _ (exec (Stmt.Assign _ (Expr.ListComp _ _ _ _) _) _) _ _ _)); (fail_if_success (with_reducible show wpAny _ _ (eval (Expr.ListComp _ _ _ _) _) _ _ _)); (fail_if_success (with_reducible show wpAny _ _ (exec (Stmt.Assign _ (Expr.BoolOp _ _ _) _) _) _ _ _)); (fail_if_success (with_reducible show wpAny _ _ (exec (Stmt.Assign _ (Expr.IfExp _ _ _ _) _) _) _ _ _)); walk1) | (dsimp only; ((fail_if_success (with_reducible show wpAny _ _ (call (Value.ref _) _ _) _ _ _)); (fail_if_success (with_reducible show wpAny _ _ (exec (Stmt.For _ _ _ _ _) _) _ _ _)); (fail_if_success (with_reducible show wpAny _ _ (exec (Stmt.Assign _ (Expr.ListComp _ _ _ _) _) _) _ _ _)); (fail_if_success (with_reducible show wpAny _ _ (eval (Expr.ListComp _ _ _ _) _) _ _ _)); (fail_if_success (with_reducible show wpAny _ _ (exec (Stmt.Assign _ (Expr.BoolOp _ _ _) _) _) _ _ _)); (fail_if_success (with_reducible show wpAny _ _ (exec (Stmt.Assign _ (Expr.IfExp _ _ _ _) _) _) _ _ _)); walk1)))
      k_dflt (refine LCt.Assign_ListComp_T (F₀ := by k_asm) (by rfl) (by with_unfolding_all rfl) (by with_unfolding_all rfl) (by decide) (by rfl) (by decide) (by rfl) (by rfl) (by rfl) ?_)
      repeat' (first | (k_unfold; (try dsimp only)) | ((fail_if_success (with_reducible show wpAny _ _ (call (Value.ref _) _ _) _ _ _)); (fail_if_success (with_reducible show wpAny _ _ (exec (Stmt.For _ _ _ _ _) _) _ _ _)); (fail_if_success (with_reducible show wpAny _ _ (exec (Stmt.Assign _ (Expr.ListComp _ _ _ _) _) _) _ _ _)); (fail_if_success (with_reducible show wpAny _ _ (eval (Expr.ListComp _ _ _ _) _) _ _ _)); (fail_if_success (with_reducible show wpAny _ _ (exec (Stmt.Assign _ (Expr.BoolOp _ _ _) _) _) _ _ _)); (fail_if_success (with_reducible show wpAny _ _ (exec (Stmt.Assign _ (Expr.IfExp _ _ _ _) _) _) _ _ _)); walk1) | (dsimp only; ((fail_if_success (with_reducible show wpAny _ _ (call (Value.ref _) _ _) _ _ _)); (fail_if_success (with_reducible show wpAny _ _ (exec (Stmt.For _ _ _ _ _) _) _ _ _)); (fail_if_success (with_reducible show wpAny _ _ (exec (Stmt.Assign _ (Expr.ListComp _ _ _ _) _) _) _ _ _)); (fail_if_success (with_reducible show wpAny _ _ (eval (Expr.ListComp _ _ _ _) _) _ _ _)); (fail_if_success (with_reducible show wpAny _ _ (exec (Stmt.Assign _ (Expr.BoolOp _ _ _) _) _) _ _ _)); (fail_if_success (with_reducible show wpAny _ _ (exec (Stmt.Assign _ (Expr.IfExp _ _ _ _) _) _) _ _ _)); walk1)))
      have hyl3 : ys.toArray.size ≤ sizeLine := by rw [List.size_toArray]; exact line_le (by omega)
      refine CompSrcT.ledger (by exact rfl) (by k_asm) (by k_asm) (its := ys.toArray) (.head _) hyl3 ?_
      intro g3
      have hTn : T'.length ≤ 1000 := by rw [hTl]; omega
      have ApY := Apart.consNe (o := lst ys) (off1_mem O2) (ApI.keys rfl)
      refine compT_inv (fun i' zs => i' ≤ ys.length ∧ zs.length ≤ i' ∧ IntsAre zs (((placesOf (likeC V' pth) T'.length).take i').filter (isChildAt T'))) (.inr ⟨_, .head _, rfl, _, rfl⟩) ?_ _ 0 [] ⟨Nat.zero_le _, Nat.le_refl _, .nil⟩ ?_
      --[[
      · rintro j v zs Ic oIc Cc oCc Le m₂ hh tkk E' hv ⟨hj, hz, hzs⟩ hC hxv Fc Nc nc1 nc2 nc3 offc
        have hjy : j < ys.length := getElem?_lt (by simpa using hv : ys[j]? = some v)
        obtain ⟨z, tz, rfl, hz2⟩ := ints_get hys (by simpa using hv)
        obtain ⟨jj, rfl, hjl⟩ := places_lt hz2
        obtain ⟨xj, pthj, hxj, hpthj, hxjk, hxjp⟩ := GL.repR.get GL.paths.len (show T'[jj]? = some (T'[jj]'hjl) by simp)
        have hCc : Con w 339 900 9000 [.ref rd, .int (jj : Nat) tz] (fun n => ∀ p ∈ R'.led, p ∈ n) (fun n v n' => n' = n ∧ v = .bool (childStr xj.kind)) := by
          have := c_is_child (w := w) (R := R') (i := (jj : Nat)) (t := tz) hdict hxj
          rw [GL.hrd] at this
          exact this
        have ApC := apart3 (oa := oIc) (ob := oCc) (oc := lst zs) ApY nc1 nc2 nc3 offc
        repeat' (first | ((fail_if_success (with_reducible show wpAny _ _ (subscriptTail (PySem.Expr.Name _ _) _ _ _) _ _ _)); (with_reducible show wpAny _ _ (subscriptTail _ _ (Value.ref _) _) _ _ _); (refine PySem.W.kba_turn (value' := PySem.Expr.Name (PySem.Str.ofString "_") ⟨0, 0, 0, 0⟩) (fun _ => rfl) ?_)) | ((with_reducible show wpAny _ _ (subscriptTail (PySem.Expr.Name _ _) _ (Value.ref _) (Value.ref _)) _ _ _); (refine' kmk_slice_ints ?F ?N ?l ?p ?q ?i ?m ?c ?_ ?s ?t ?z; (case F => k_asm); (case N => k_asm); (case l => exact News.isList (by k_asm) (by k_mem)); (case p => kmk_part); (case q => kmk_part); (case i => assumption); (case m => exact kmk_upto_neg (by assumption) (by decide)); (case c => exact rfl); (case s => with_unfolding_all rfl); (case t => kmk_pure); (case z => exact kmk_sz (by assumption) (line_le (by assumption)))); intro D' ws' h' F' N' l1 hI' hC' hL'; (try k_lt l1); (try k_sweep)) | (k_unfold; (try dsimp only)) | ((fail_if_success (with_reducible show wpAny _ _ (call (Value.ref _) _ _) _ _ _)); (fail_if_success (with_reducible show wpAny _ _ (exec (Stmt.For _ _ _ _ _) _) _ _ _)); (fail_if_success (with_reducible show wpAny _ _ (exec (Stmt.Assign _ (Expr.ListComp _ _ _ _) _) _) _ _ _)); (fail_if_success (with_reducible show wpAny _ _ (eval (Expr.ListComp _ _ _ _) _) _ _ _)); (fail_if_success (with_reducible show wpAny _ _ (exec (Stmt.Assign _ (Expr.BoolOp _ _ _) _) _) _ _ _)); (fail_if_success (with_reducible show wpAny _ _ (exec (Stmt.Assign _ (Expr.IfExp _ _ _ _) _) _) _ _ _)); walk1) | (dsimp only; ((fail_if_success (with_reducible show wpAny _ _ (call (Value.ref _) _ _) _ _ _)); (fail_if_success (with_reducible show wpAny _ _ (exec (Stmt.For _ _ _ _ _) _) _ _ _)); (fail_if_success (with_reducible show wpAny _ _ (exec (Stmt.Assign _ (Expr.ListComp _ _ _ _) _) _) _ _ _)); (fail_if_success (with_reducible show wpAny _ _ (eval (Expr.ListComp _ _ _ _) _) _ _ _)); (fail_if_success (with_reducible show wpAny _ _ (exec (Stmt.Assign _ (Expr.BoolOp _ _ _) _) _) _ _ _)); (fail_if_success (with_reducible show wpAny _ _ (exec (Stmt.Assign _ (Expr.IfExp _ _ _ _) _) _) _ _ _)); walk1)))
        (refine' Con.use (hCc) ?uhh69 ?uhf69 ?uhdp69 ?uhu69 ?uhk69 ?uB69 ?uF69 ?uX69 ?uN69 ?uT69 ?uAp69 ?uP69 ?_; (case uhh69 => exact rfl); (case uhf69 => exact rfl); (case uhdp69 => exact Nat.le_of_ble_eq_true rfl); (case uhu69 => exact Nat.le_of_ble_eq_true rfl); (case uhk69 => first | assumption | exact rfl); (case uB69 => k_asm); (case uF69 => k_asm); (case uX69 => k_asm); (case uN69 => k_asm); (case uT69 => k_asm); (case uAp69 => first | assumption | (repeat' (first | assumption | refine Apart.cons (by first | assumption | exact tb_ltOf (by assumption)) ?_))); (case uP69 => (exact fun p hp => .tail _ (.tail _ (.tail _ (.tail _ (.tail _ (.tail _ (.tail _ (.tail _ (hXR p hp)))))))))))
        rintro v6 n6 h6 tk6 F6 N6 Ap6 ⟨rfl, rfl⟩
        cases hcs : childStr xj.kind with
        | true =>
          have hc := isChild_at (show T'[jj]? = some (T'[jj]'hjl) by simp) hxjk hcs
          repeat' (first | ((fail_if_success (with_reducible show wpAny _ _ (subscriptTail (PySem.Expr.Name _ _) _ _ _) _ _ _)); (with_reducible show wpAny _ _ (subscriptTail _ _ (Value.ref _) _) _ _ _); (refine PySem.W.kba_turn (value' := PySem.Expr.Name (PySem.Str.ofString "_") ⟨0, 0, 0, 0⟩) (fun _ => rfl) ?_)) | ((with_reducible show wpAny _ _ (subscriptTail (PySem.Expr.Name _ _) _ (Value.ref _) (Value.ref _)) _ _ _); (refine' kmk_slice_ints ?F ?N ?l ?p ?q ?i ?m ?c ?_ ?s ?t ?z; (case F => k_asm); (case N => k_asm); (case l => exact News.isList (by k_asm) (by k_mem)); (case p => kmk_part); (case q => kmk_part); (case i => assumption); (case m => exact kmk_upto_neg (by assumption) (by decide)); (case c => exact rfl); (case s => with_unfolding_all rfl); (case t => kmk_pure); (case z => exact kmk_sz (by assumption) (line_le (by assumption)))); intro D' ws' h' F' N' l1 hI' hC' hL'; (try k_lt l1); (try k_sweep)) | (k_unfold; (try dsimp only)) | ((fail_if_success (with_reducible show wpAny _ _ (call (Value.ref _) _ _) _ _ _)); (fail_if_success (with_reducible show wpAny _ _ (exec (Stmt.For _ _ _ _ _) _) _ _ _)); (fail_if_success (with_reducible show wpAny _ _ (exec (Stmt.Assign _ (Expr.ListComp _ _ _ _) _) _) _ _ _)); (fail_if_success (with_reducible show wpAny _ _ (eval (Expr.ListComp _ _ _ _) _) _ _ _)); (fail_if_success (with_reducible show wpAny _ _ (exec (Stmt.Assign _ (Expr.BoolOp _ _ _) _) _) _ _ _)); (fail_if_success (with_reducible show wpAny _ _ (exec (Stmt.Assign _ (Expr.IfExp _ _ _ _) _) _) _ _ _)); walk1) | (dsimp only; ((fail_if_success (with_reducible show wpAny _ _ (call (Value.ref _) _ _) _ _ _)); (fail_if_success (with_reducible show wpAny _ _ (exec (Stmt.For _ _ _ _ _) _) _ _ _)); (fail_if_success (with_reducible show wpAny _ _ (exec (Stmt.Assign _ (Expr.ListComp _ _ _ _) _) _) _ _ _)); (fail_if_success (with_reducible show wpAny _ _ (eval (Expr.ListComp _ _ _ _) _) _ _ _)); (fail_if_success (with_reducible show wpAny _ _ (exec (Stmt.Assign _ (Expr.BoolOp _ _ _) _) _) _ _ _)); (fail_if_success (with_reducible show wpAny _ _ (exec (Stmt.Assign _ (Expr.IfExp _ _ _ _) _) _) _ _ _)); walk1)))
          exact ⟨_, _, rfl, by k_asm, by k_asm, hjy, by rw [List.length_append, List.length_singleton]; omega, keep_yes hzs hz2 hc⟩
        | false =>
          have hc := isChild_at (show T'[jj]? = some (T'[jj]'hjl) by simp) hxjk hcs
          repeat' (first | ((fail_if_success (with_reducible show wpAny _ _ (subscriptTail (PySem.Expr.Name _ _) _ _ _) _ _ _)); (with_reducible show wpAny _ _ (subscriptTail _ _ (Value.ref _) _) _ _ _); (refine PySem.W.kba_turn (value' := PySem.Expr.Name (PySem.Str.ofString "_") ⟨0, 0, 0, 0⟩) (fun _ => rfl) ?_)) | ((with_reducible show wpAny _ _ (subscriptTail (PySem.Expr.Name _ _) _ (Value.ref _) (Value.ref _)) _ _ _); (refine' kmk_slice_ints ?F ?N ?l ?p ?q ?i ?m ?c ?_ ?s ?t ?z; (case F => k_asm); (case N => k_asm); (case l => exact News.isList (by k_asm) (by k_mem)); (case p => kmk_part); (case q => kmk_part); (case i => assumption); (case m => exact kmk_upto_neg (by assumption) (by decide)); (case c => exact rfl); (case s => with_unfolding_all rfl); (case t => kmk_pure); (case z => exact kmk_sz (by assumption) (line_le (by assumption)))); intro D' ws' h' F' N' l1 hI' hC' hL'; (try k_lt l1); (try k_sweep)) | (k_unfold; (try dsimp only)) | ((fail_if_success (with_reducible show wpAny _ _ (call (Value.ref _) _ _) _ _ _)); (fail_if_success (with_reducible show wpAny _ _ (exec (Stmt.For _ _ _ _ _) _) _ _ _)); (fail_if_success (with_reducible show wpAny _ _ (exec (Stmt.Assign _ (Expr.ListComp _ _ _ _) _) _) _ _ _)); (fail_if_success (with_reducible show wpAny _ _ (eval (Expr.ListComp _ _ _ _) _) _ _ _)); (fail_if_success (with_reducible show wpAny _ _ (exec (Stmt.Assign _ (Expr.BoolOp _ _ _) _) _) _ _ _)); (fail_if_success (with_reducible show wpAny _ _ (exec (Stmt.Assign _ (Expr.IfExp _ _ _ _) _) _) _ _ _)); walk1) | (dsimp only; ((fail_if_success (with_reducible show wpAny _ _ (call (Value.ref _) _ _) _ _ _)); (fail_if_success (with_reducible show wpAny _ _ (exec (Stmt.For _ _ _ _ _) _) _ _ _)); (fail_if_success (with_reducible show wpAny _ _ (exec (Stmt.Assign _ (Expr.ListComp _ _ _ _) _) _) _ _ _)); (fail_if_success (with_reducible show wpAny _ _ (eval (Expr.ListComp _ _ _ _) _) _ _ _)); (fail_if_success (with_reducible show wpAny _ _ (exec (Stmt.Assign _ (Expr.BoolOp _ _ _) _) _) _ _ _)); (fail_if_success (with_reducible show wpAny _ _ (exec (Stmt.Assign _ (Expr.IfExp _ _ _ _) _) _) _ _ _)); walk1)))
          exact ⟨_, _, rfl, by k_asm, by k_asm, hjy, Nat.le_succ_of_le hz, keep_no hzs hz2 hc⟩
      --]]
      · rintro zs ⟨hjj2, hzl, hzs⟩
        intro Le h3' tk3 F3 N3 O3
        rw [Nat.zero_add, List.size_toArray] at hzs
        have hzs2 := keep_done hzs hys.length.symm
        have hzk11 : zs.length ≤ 11 := by rw [Nat.zero_add, List.size_toArray] at hzl; omega
        have hzk : zs.length ≤ 1000 := by omega
        generalize hKK : List.filter (isChildAt T') (placesOf (likeC V' pth) T'.length) = KK at hzs2
        have ApZ := apart_drop2 (Apart.consNe (o := lst zs) (off1_mem O3) ApY)
        have N4 := drop2 N3
        clear N3 N2 F2 O2 ApY hys hzs hyl hyl3 hlen hjj hjj2 O3
        repeat' (first | (k_unfold; (try dsimp only)) | ((fail_if_success (with_reducible show wpAny _ _ (call (Value.ref _) _ _) _ _ _)); (fail_if_success (with_reducible show wpAny _ _ (exec (Stmt.For _ _ _ _ _) _) _ _ _)); (fail_if_success (with_reducible show wpAny _ _ (exec (Stmt.Assign _ (Expr.ListComp _ _ _ _) _) _) _ _ _)); (fail_if_success (with_reducible show wpAny _ _ (eval (Expr.ListComp _ _ _ _) _) _ _ _)); (fail_if_success (with_reducible show wpAny _ _ (exec (Stmt.Assign _ (Expr.BoolOp _ _ _) _) _) _ _ _)); (fail_if_success (with_reducible show wpAny _ _ (exec (Stmt.Assign _ (Expr.IfExp _ _ _ _) _) _) _ _ _)); walk1) | (dsimp only; ((fail_if_success (with_reducible show wpAny _ _ (call (Value.ref _) _ _) _ _ _)); (fail_if_success (with_reducible show wpAny _ _ (exec (Stmt.For _ _ _ _ _) _) _ _ _)); (fail_if_success (with_reducible show wpAny _ _ (exec (Stmt.Assign _ (Expr.ListComp _ _ _ _) _) _) _ _ _)); (fail_if_success (with_reducible show wpAny _ _ (eval (Expr.ListComp _ _ _ _) _) _ _ _)); (fail_if_success (with_reducible show wpAny _ _ (exec (Stmt.Assign _ (Expr.BoolOp _ _ _) _) _) _ _ _)); (fail_if_success (with_reducible show wpAny _ _ (exec (Stmt.Assign _ (Expr.IfExp _ _ _ _) _) _) _ _ _)); walk1)))
        rename Fr _ _ _ _ => kF
        rename News _ _ _ _ => kN
        refine' station_list "ahead" (fun vs => ∃ ns, IntsAre vs ns ∧ (besideStr x.kind = true → ns = []) ∧ (besideStr x.kind = false → ns.Perm ((KK.filter fun z => decide (z < ((i : Nat) : Int))).map fun z => 0 - z) ∧ ns.Pairwise (· ≤ ·))) kF kN ?_ ?_
        --[[
        · repeat' (first | (k_unfold; (try dsimp only)) | ((fail_if_success (with_reducible show wpAny _ _ (call (Value.ref _) _ _) _ _ _)); (fail_if_success (with_reducible show wpAny _ _ (exec (Stmt.For _ _ _ _ _) _) _ _ _)); (fail_if_success (with_reducible show wpAny _ _ (exec (Stmt.Assign _ (Expr.ListComp _ _ _ _) _) _) _ _ _)); (fail_if_success (with_reducible show wpAny _ _ (eval (Expr.ListComp _ _ _ _) _) _ _ _)); walk1) | (dsimp only; ((fail_if_success (with_reducible show wpAny _ _ (call (Value.ref _) _ _) _ _ _)); (fail_if_success (with_reducible show wpAny _ _ (exec (Stmt.For _ _ _ _ _) _) _ _ _)); (fail_if_success (with_reducible show wpAny _ _ (exec (Stmt.Assign _ (Expr.ListComp _ _ _ _) _) _) _ _ _)); (fail_if_success (with_reducible show wpAny _ _ (eval (Expr.ListComp _ _ _ _) _) _ _ _)); walk1)))
          · exact ⟨rfl, _, [], _, _, _, rfl, by k_asm, by k_asm, fun p hp => Nat.ne_of_lt (tb_ltOf (by assumption) p hp), [], .nil, fun _ => rfl, fun e => Bool.noConfusion ((by assumption : besideStr x.kind = true).symm.trans e)⟩
          have hzl3 : zs.toArray.size ≤ sizeLine := by rw [List.size_toArray]; exact line_le hzk
          k_dflt (refine LCt.ListComp_T (F₀ := by k_asm) (by with_unfolding_all rfl) (by decide) (by rfl) (by decide) (by rfl) ?_)
          repeat' (first | (k_unfold; (try dsimp only)) | ((fail_if_success (with_reducible show wpAny _ _ (call (Value.ref _) _ _) _ _ _)); (fail_if_success (with_reducible show wpAny _ _ (exec (Stmt.For _ _ _ _ _) _) _ _ _)); (fail_if_success (with_reducible show wpAny _ _ (exec (Stmt.Assign _ (Expr.ListComp _ _ _ _) _) _) _ _ _)); (fail_if_success (with_reducible show wpAny _ _ (eval (Expr.ListComp _ _ _ _) _) _ _ _)); walk1) | (dsimp only; ((fail_if_success (with_reducible show wpAny _ _ (call (Value.ref _) _ _) _ _ _)); (fail_if_success (with_reducible show wpAny _ _ (exec (Stmt.For _ _ _ _ _) _) _ _ _)); (fail_if_success (with_reducible show wpAny _ _ (exec (Stmt.Assign _ (Expr.ListComp _ _ _ _) _) _) _ _ _)); (fail_if_success (with_reducible show wpAny _ _ (eval (Expr.ListComp _ _ _ _) _) _ _ _)); walk1)))
          refine CompSrcT.ledger (by exact rfl) (by k_asm) (by k_asm) (its := zs.toArray) (.head _) hzl3 ?_
          intro g5
          refine compT_inv (fun i' us => i' ≤ zs.length ∧ us.length ≤ i' ∧ IntsAre us (((KK.take i').filter fun z => decide (z < ((i : Nat) : Int))).map fun z => 0 - z)) (.inr ⟨_, .head _, rfl, _, rfl⟩) ?_ _ 0 [] ⟨Nat.zero_le _, Nat.le_refl _, .nil⟩ ?_
          · rintro j v us Ic oIc Cc oCc Lf m₂ hh tkk E' hv ⟨hj, hz, hus⟩ hC hxv Fc Nc nc1 nc2 nc3 offc
            have hjy : j < zs.length := getElem?_lt (by simpa using hv : zs[j]? = some v)
            obtain ⟨z, tz, rfl, hz2⟩ := ints_get hzs2 (by simpa using hv)
            repeat' (first | ((fail_if_success (with_reducible show wpAny _ _ (subscriptTail (PySem.Expr.Name _ _) _ _ _) _ _ _)); (with_reducible show wpAny _ _ (subscriptTail _ _ (Value.ref _) _) _ _ _); (refine PySem.W.kba_turn (value' := PySem.Expr.Name (PySem.Str.ofString "_") ⟨0, 0, 0, 0⟩) (fun _ => rfl) ?_)) | ((with_reducible show wpAny _ _ (subscriptTail (PySem.Expr.Name _ _) _ (Value.ref _) (Value.ref _)) _ _ _); (refine' kmk_slice_ints ?F ?N ?l ?p ?q ?i ?m ?c ?_ ?s ?t ?z; (case F => k_asm); (case N => k_asm); (case l => exact News.isList (by k_asm) (by k_mem)); (case p => kmk_part); (case q => kmk_part); (case i => assumption); (case m => exact kmk_upto_neg (by assumption) (by decide)); (case c => exact rfl); (case s => with_unfolding_all rfl); (case t => kmk_pure); (case z => exact kmk_sz (by assumption) (line_le (by assumption)))); intro D' ws' h' F' N' l1 hI' hC' hL'; (try k_lt l1); (try k_sweep)) | (k_unfold; (try dsimp only)) | ((fail_if_success (with_reducible show wpAny _ _ (call (Value.ref _) _ _) _ _ _)); (fail_if_success (with_reducible show wpAny _ _ (exec (Stmt.For _ _ _ _ _) _) _ _ _)); (fail_if_success (with_reducible show wpAny _ _ (exec (Stmt.Assign _ (Expr.ListComp _ _ _ _) _) _) _ _ _)); (fail_if_success (with_reducible show wpAny _ _ (eval (Expr.ListComp _ _ _ _) _) _ _ _)); (fail_if_success (with_reducible show wpAny _ _ (exec (Stmt.Assign _ (Expr.BoolOp _ _ _) _) _) _ _ _)); (fail_if_success (with_reducible show wpAny _ _ (exec (Stmt.Assign _ (Expr.IfExp _ _ _ _) _) _) _ _ _)); walk1) | (dsimp only; ((fail_if_success (with_reducible show wpAny _ _ (call (Value.ref _) _ _) _ _ _)); (fail_if_success (with_reducible show wpAny _ _ (exec (Stmt.For _ _ _ _ _) _) _ _ _)); (fail_if_success (with_reducible show wpAny _ _ (exec (Stmt.Assign _ (Expr.ListComp _ _ _ _) _) _) _ _ _)); (fail_if_success (with_reducible show wpAny _ _ (eval (Expr.ListComp _ _ _ _) _) _ _ _)); (fail_if_success (with_reducible show wpAny _ _ (exec (Stmt.Assign _ (Expr.BoolOp _ _ _) _) _) _ _ _)); (fail_if_success (with_reducible show wpAny _ _ (exec (Stmt.Assign _ (Expr.IfExp _ _ _ _) _) _) _ _ _)); walk1)))
            · have hc : decide (z < ((i : Nat) : Int)) = true := decide_eq_true (by assumption)
              exact ⟨_, _, rfl, by k_asm, by k_asm, hjy, by rw [List.length_append, List.length_singleton]; omega, keepm_yes (f := fun z => decide (z < ((i : Nat) : Int))) (g := fun z => 0 - z) hus hz2 hc⟩
            · have hc : decide (z < ((i : Nat) : Int)) = false := decide_eq_false (by assumption)
              exact ⟨_, _, rfl, by k_asm, by k_asm, hjy, Nat.le_succ_of_le hz, keepm_no (f := fun z => decide (z < ((i : Nat) : Int))) (g := fun z => 0 - z) hus hz2 hc⟩
          · rintro us ⟨hjj2, hul, hus⟩
            intro Lf h6' tk6 F6 N6 O6
            rw [Nat.zero_add, List.size_toArray] at hus
            have hus2 := keepm_done hus hzs2.length.symm
            have hul2 : us.length ≤ 11 := by rw [Nat.zero_add, List.size_toArray] at hul; omega
            clear hus hul hjj2
            repeat' (first | (k_unfold; (try dsimp only)) | ((fail_if_success (with_reducible show wpAny _ _ (call (Value.ref _) _ _) _ _ _)); (fail_if_success (with_reducible show wpAny _ _ (exec (Stmt.For _ _ _ _ _) _) _ _ _)); (fail_if_success (with_reducible show wpAny _ _ (exec (Stmt.Assign _ (Expr.ListComp _ _ _ _) _) _) _ _ _)); (fail_if_success (with_reducible show wpAny _ _ (eval (Expr.ListComp _ _ _ _) _) _ _ _)); walk1) | (dsimp only; ((fail_if_success (with_reducible show wpAny _ _ (call (Value.ref _) _ _) _ _ _)); (fail_if_success (with_reducible show wpAny _ _ (exec (Stmt.For _ _ _ _ _) _) _ _ _)); (fail_if_success (with_reducible show wpAny _ _ (exec (Stmt.Assign _ (Expr.ListComp _ _ _ _) _) _) _ _ _)); (fail_if_success (with_reducible show wpAny _ _ (eval (Expr.ListComp _ _ _ _) _) _ _ _)); walk1)))
            rename Fr _ _ _ _ => kF2
            rename News _ _ _ _ => kN2
            rename List.Perm _ _ => kP2
            rename List.Pairwise _ _ => kS2
            rename IntsAre _ _ => kI2
            rename besideStr x.kind = false => kb2
            have kO2 := head_off kN2 (by assumption)
            exact ⟨rfl, _, _, _, _, _, rfl, kF2, drop2 kN2, kO2, _, kI2, fun e => Bool.noConfusion (kb2.symm.trans e), fun _ => ⟨kP2, kS2⟩⟩
        --]]
        intro La va ca h4 tk4 F4 N4 hLa ⟨na, hva, ha1, ha2⟩
        clear kF kN
        have ApL := Apart.consNe (o := listOf va.toArray ca) hLa ApZ
        clear ApZ hLa
        repeat' (first | (k_unfold; (try dsimp only)) | ((fail_if_success (with_reducible show wpAny _ _ (call (Value.ref _) _ _) _ _ _)); (fail_if_success (with_reducible show wpAny _ _ (exec (Stmt.For _ _ _ _ _) _) _ _ _)); (fail_if_success (with_reducible show wpAny _ _ (exec (Stmt.Assign _ (Expr.ListComp _ _ _ _) _) _) _ _ _)); (fail_if_success (with_reducible show wpAny _ _ (eval (Expr.ListComp _ _ _ _) _) _ _ _)); (fail_if_success (with_reducible show wpAny _ _ (exec (Stmt.Assign _ (Expr.BoolOp _ _ _) _) _) _ _ _)); (fail_if_success (with_reducible show wpAny _ _ (exec (Stmt.Assign _ (Expr.IfExp _ _ _ _) _) _) _ _ _)); walk1) | (dsimp only; ((fail_if_success (with_reducible show wpAny _ _ (call (Value.ref _) _ _) _ _ _)); (fail_if_success (with_reducible show wpAny _ _ (exec (Stmt.For _ _ _ _ _) _) _ _ _)); (fail_if_success (with_reducible show wpAny _ _ (exec (Stmt.Assign _ (Expr.ListComp _ _ _ _) _) _) _ _ _)); (fail_if_success (with_reducible show wpAny _ _ (eval (Expr.ListComp _ _ _ _) _) _ _ _)); (fail_if_success (with_reducible show wpAny _ _ (exec (Stmt.Assign _ (Expr.BoolOp _ _ _) _) _) _ _ _)); (fail_if_success (with_reducible show wpAny _ _ (exec (Stmt.Assign _ (Expr.IfExp _ _ _ _) _) _) _ _ _)); walk1)))
        rename Fr _ _ _ _ => kF
        rename News _ _ _ _ => kN
        refine' station_list "behind" (fun vs => ∃ ns, IntsAre vs ns ∧ (besideStr x.kind = true → ns = []) ∧ (besideStr x.kind = false → ns.Perm (KK.filter fun z => decide (z > ((i : Nat) : Int))) ∧ ns.Pairwise (· ≤ ·))) kF kN ?_ ?_
        · repeat' (first | (k_unfold; (try dsimp only)) | ((fail_if_success (with_reducible show wpAny _ _ (call (Value.ref _) _ _) _ _ _)); (fail_if_success (with_reducible show wpAny _ _ (exec (Stmt.For _ _ _ _ _) _) _ _ _)); (fail_if_success (with_reducible show wpAny _ _ (exec (Stmt.Assign _ (Expr.ListComp _ _ _ _) _) _) _ _ _)); (fail_if_success (with_reducible show wpAny _ _ (eval (Expr.ListComp _ _ _ _) _) _ _ _)); walk1) | (dsimp only; ((fail_if_success (with_reducible show wpAny _ _ (call (Value.ref _) _ _) _ _ _)); (fail_if_success (with_reducible show wpAny _ _ (exec (Stmt.For _ _ _ _ _) _) _ _ _)); (fail_if_success (with_reducible show wpAny _ _ (exec (Stmt.Assign _ (Expr.ListComp _ _ _ _) _) _) _ _ _)); (fail_if_success (with_reducible show wpAny _ _ (eval (Expr.ListComp _ _ _ _) _) _ _ _)); walk1)))
          · exact ⟨rfl, _, [], _, _, _, rfl, by k_asm, by k_asm, fun p hp => Nat.ne_of_lt (tb_ltOf (by assumption) p hp), [], .nil, fun _ => rfl, fun e => Bool.noConfusion ((by assumption : besideStr x.kind = true).symm.trans e)⟩
          have hzl3 : zs.toArray.size ≤ sizeLine := by rw [List.size_toArray]; exact line_le hzk
          k_dflt (refine LCt.ListComp_T (F₀ := by k_asm) (by with_unfolding_all rfl) (by decide) (by rfl) (by decide) (by rfl) ?_)
          repeat' (first | (k_unfold; (try dsimp only)) | ((fail_if_success (with_reducible show wpAny _ _ (call (Value.ref _) _ _) _ _ _)); (fail_if_success (with_reducible show wpAny _ _ (exec (Stmt.For _ _ _ _ _) _) _ _ _)); (fail_if_success (with_reducible show wpAny _ _ (exec (Stmt.Assign _ (Expr.ListComp _ _ _ _) _) _) _ _ _)); (fail_if_success (with_reducible show wpAny _ _ (eval (Expr.ListComp _ _ _ _) _) _ _ _)); walk1) | (dsimp only; ((fail_if_success (with_reducible show wpAny _ _ (call (Value.ref _) _ _) _ _ _)); (fail_if_success (with_reducible show wpAny _ _ (exec (Stmt.For _ _ _ _ _) _) _ _ _)); (fail_if_success (with_reducible show wpAny _ _ (exec (Stmt.Assign _ (Expr.ListComp _ _ _ _) _) _) _ _ _)); (fail_if_success (with_reducible show wpAny _ _ (eval (Expr.ListComp _ _ _ _) _) _ _ _)); walk1)))
          refine CompSrcT.ledger (by exact rfl) (by k_asm) (by k_asm) (its := zs.toArray) (.tail _ (.head _)) hzl3 ?_
          intro g5
          refine compT_inv (fun i' us => i' ≤ zs.length ∧ us.length ≤ i' ∧ IntsAre us ((KK.take i').filter fun z => decide (z > ((i : Nat) : Int)))) (.inr ⟨_, .tail _ (.head _), rfl, _, rfl⟩) ?_ _ 0 [] ⟨Nat.zero_le _, Nat.le_refl _, .nil⟩ ?_
          · rintro j v us Ic oIc Cc oCc Lf m₂ hh tkk E' hv ⟨hj, hz, hus⟩ hC hxv Fc Nc nc1 nc2 nc3 offc
            have hjy : j < zs.length := getElem?_lt (by simpa using hv : zs[j]? = some v)
            obtain ⟨z, tz, rfl, hz2⟩ := ints_get hzs2 (by simpa using hv)
            repeat' (first | ((fail_if_success (with_reducible show wpAny _ _ (subscriptTail (PySem.Expr.Name _ _) _ _ _) _ _ _)); (with_reducible show wpAny _ _ (subscriptTail _ _ (Value.ref _) _) _ _ _); (refine PySem.W.kba_turn (value' := PySem.Expr.Name (PySem.Str.ofString "_") ⟨0, 0, 0, 0⟩) (fun _ => rfl) ?_)) | ((with_reducible show wpAny _ _ (subscriptTail (PySem.Expr.Name _ _) _ (Value.ref _) (Value.ref _)) _ _ _); (refine' kmk_slice_ints ?F ?N ?l ?p ?q ?i ?m ?c ?_ ?s ?t ?z; (case F => k_asm); (case N => k_asm); (case l => exact News.isList (by k_asm) (by k_mem)); (case p => kmk_part); (case q => kmk_part); (case i => assumption); (case m => exact kmk_upto_neg (by assumption) (by decide)); (case c => exact rfl); (case s => with_unfolding_all rfl); (case t => kmk_pure); (case z => exact kmk_sz (by assumption) (line_le (by assumption)))); intro D' ws' h' F' N' l1 hI' hC' hL'; (try k_lt l1); (try k_sweep)) | (k_unfold; (try dsimp only)) | ((fail_if_success (with_reducible show wpAny _ _ (call (Value.ref _) _ _) _ _ _)); (fail_if_success (with_reducible show wpAny _ _ (exec (Stmt.For _ _ _ _ _) _) _ _ _)); (fail_if_success (with_reducible show wpAny _ _ (exec (Stmt.Assign _ (Expr.ListComp _ _ _ _) _) _) _ _ _)); (fail_if_success (with_reducible show wpAny _ _ (eval (Expr.ListComp _ _ _ _) _) _ _ _)); (fail_if_success (with_reducible show wpAny _ _ (exec (Stmt.Assign _ (Expr.BoolOp _ _ _) _) _) _ _ _)); (fail_if_success (with_reducible show wpAny _ _ (exec (Stmt.Assign _ (Expr.IfExp _ _ _ _) _) _) _ _ _)); walk1) | (dsimp only; ((fail_if_success (with_reducible show wpAny _ _ (call (Value.ref _) _ _) _ _ _)); (fail_if_success (with_reducible show wpAny _ _ (exec (Stmt.For _ _ _ _ _) _) _ _ _)); (fail_if_success (with_reducible show wpAny _ _ (exec (Stmt.Assign _ (Expr.ListComp _ _ _ _) _) _) _ _ _)); (fail_if_success (with_reducible show wpAny _ _ (eval (Expr.ListComp _ _ _ _) _) _ _ _)); (fail_if_success (with_reducible show wpAny _ _ (exec (Stmt.Assign _ (Expr.BoolOp _ _ _) _) _) _ _ _)); (fail_if_success (with_reducible show wpAny _ _ (exec (Stmt.Assign _ (Expr.IfExp _ _ _ _) _) _) _ _ _)); walk1)))
            · have hc : decide (z > ((i : Nat) : Int)) = true := decide_eq_true (by assumption)
              exact ⟨_, _, rfl, by k_asm, by k_asm, hjy, by rw [List.length_append, List.length_singleton]; omega, keep_yes (f := fun z => decide (z > ((i : Nat) : Int))) hus hz2 hc⟩
            · have hc : decide (z > ((i : Nat) : Int)) = false := decide_eq_false (by assumption)
              exact ⟨_, _, rfl, by k_asm, by k_asm, hjy, Nat.le_succ_of_le hz, keep_no (f := fun z => decide (z > ((i : Nat) : Int))) hus hz2 hc⟩
          · rintro us ⟨hjj2, hul, hus⟩
            intro Lf h6' tk6 F6 N6 O6
            rw [Nat.zero_add, List.size_toArray] at hus
            have hus2 := keep_done hus hzs2.length.symm
            have hul2 : us.length ≤ 11 := by rw [Nat.zero_add, List.size_toArray] at hul; omega
            clear hus hul hjj2
            repeat' (first | (k_unfold; (try dsimp only)) | ((fail_if_success (with_reducible show wpAny _ _ (call (Value.ref _) _ _) _ _ _)); (fail_if_success (with_reducible show wpAny _ _ (exec (Stmt.For _ _ _ _ _) _) _ _ _)); (fail_if_success (with_reducible show wpAny _ _ (exec (Stmt.Assign _ (Expr.ListComp _ _ _ _) _) _) _ _ _)); (fail_if_success (with_reducible show wpAny _ _ (eval (Expr.ListComp _ _ _ _) _) _ _ _)); walk1) | (dsimp only; ((fail_if_success (with_reducible show wpAny _ _ (call (Value.ref _) _ _) _ _ _)); (fail_if_success (with_reducible show wpAny _ _ (exec (Stmt.For _ _ _ _ _) _) _ _ _)); (fail_if_success (with_reducible show wpAny _ _ (exec (Stmt.Assign _ (Expr.ListComp _ _ _ _) _) _) _ _ _)); (fail_if_success (with_reducible show wpAny _ _ (eval (Expr.ListComp _ _ _ _) _) _ _ _)); walk1)))
            rename Fr _ _ _ _ => kF2
            rename News _ _ _ _ => kN2
            rename List.Perm _ _ => kP2
            rename List.Pairwise _ _ => kS2
            rename IntsAre _ _ => kI2
            rename besideStr x.kind = false => kb2
            have kO2 := head_off kN2 (by assumption)
            exact ⟨rfl, _, _, _, _, _, rfl, kF2, drop2 kN2, kO2, _, kI2, fun e => Bool.noConfusion (kb2.symm.trans e), fun _ => ⟨kP2, kS2⟩⟩
        intro Lb vb cb h5 tk5 F5 N5 hLb ⟨nb, hvb, hb1, hb2⟩
        clear kF kN
        have ApB := Apart.consNe (o := listOf vb.toArray cb) hLb ApL
        clear ApL hLb
        have hT11 : T'.length ≤ 11 := by rw [hTl]; exact hU11
        have hCb := c_besideG (t := ti) GL hT11 hnd
        rw [← hxk] at hCb
        have eA : na.map (fun z => 0 - z) = aheadZ T' i nd := GL.ahead hnd hpth (by rw [← hxk]; exact ha1) (by rw [← hxk, hKK]; exact ha2)
        have eB : nb = behindZ T' i nd := GL.behind hnd hpth (by rw [← hxk]; exact hb1) (by rw [← hxk, hKK]; exact hb2)
        clear ha1 ha2 hb1 hb2
        subst eB
        repeat' (first | ((fail_if_success (with_reducible show wpAny _ _ (subscriptTail (PySem.Expr.Name _ _) _ _ _) _ _ _)); (with_reducible show wpAny _ _ (subscriptTail _ _ (Value.ref _) _) _ _ _); (refine PySem.W.kba_turn (value' := PySem.Expr.Name (PySem.Str.ofString "_") ⟨0, 0, 0, 0⟩) (fun _ => rfl) ?_)) | ((with_reducible show wpAny _ _ (subscriptTail (PySem.Expr.Name _ _) _ (Value.ref _) (Value.ref _)) _ _ _); (refine' kmk_slice_ints ?F ?N ?l ?p ?q ?i ?m ?c ?_ ?s ?t ?z; (case F => k_asm); (case N => k_asm); (case l => exact News.isList (by k_asm) (by k_mem)); (case p => kmk_part); (case q => kmk_part); (case i => assumption); (case m => exact kmk_upto_neg (by assumption) (by decide)); (case c => exact rfl); (case s => with_unfolding_all rfl); (case t => kmk_pure); (case z => exact kmk_sz (by assumption) (line_le (by assumption)))); intro D' ws' h' F' N' l1 hI' hC' hL'; (try k_lt l1); (try k_sweep)) | (k_unfold; (try dsimp only)) | ((fail_if_success (with_reducible show wpAny _ _ (call (Value.ref _) _ _) _ _ _)); (fail_if_success (with_reducible show wpAny _ _ (exec (Stmt.For _ _ _ _ _) _) _ _ _)); (fail_if_success (with_reducible show wpAny _ _ (exec (Stmt.Assign _ (Expr.ListComp _ _ _ _) _) _) _ _ _)); (fail_if_success (with_reducible show wpAny _ _ (eval (Expr.ListComp _ _ _ _) _) _ _ _)); (fail_if_success (with_reducible show wpAny _ _ (exec (Stmt.Assign _ (Expr.BoolOp _ _ _) _) _) _ _ _)); (fail_if_success (with_reducible show wpAny _ _ (exec (Stmt.Assign _ (Expr.IfExp _ _ _ _) _) _) _ _ _)); (fail_if_success (with_reducible show wpAny _ _ (compareOp CmpOp.NotEq (Value.ref _) (Value.ref _)) _ _ _)); walk1) | (dsimp only; ((fail_if_success (with_reducible show wpAny _ _ (call (Value.ref _) _ _) _ _ _)); (fail_if_success (with_reducible show wpAny _ _ (exec (Stmt.For _ _ _ _ _) _) _ _ _)); (fail_if_success (with_reducible show wpAny _ _ (exec (Stmt.Assign _ (Expr.ListComp _ _ _ _) _) _) _ _ _)); (fail_if_success (with_reducible show wpAny _ _ (eval (Expr.ListComp _ _ _ _) _) _ _ _)); (fail_if_success (with_reducible show wpAny _ _ (exec (Stmt.Assign _ (Expr.BoolOp _ _ _) _) _) _ _ _)); (fail_if_success (with_reducible show wpAny _ _ (exec (Stmt.Assign _ (Expr.IfExp _ _ _ _) _) _) _ _ _)); (fail_if_success (with_reducible show wpAny _ _ (compareOp CmpOp.NotEq (Value.ref _) (Value.ref _)) _ _ _)); walk1)))
        (refine' Con.use (hCb) ?uhh70 ?uhf70 ?uhdp70 ?uhu70 ?uhk70 ?uB70 ?uF70 ?uX70 ?uN70 ?uT70 ?uAp70 ?uP70 ?_; (case uhh70 => exact rfl); (case uhf70 => exact rfl); (case uhdp70 => exact Nat.le_of_ble_eq_true rfl); (case uhu70 => exact Nat.le_of_ble_eq_true rfl); (case uhk70 => first | assumption | exact rfl); (case uB70 => k_asm); (case uF70 => k_asm); (case uX70 => k_asm); (case uN70 => k_asm); (case uT70 => k_asm); (case uAp70 => first | assumption | (repeat' (first | assumption | refine Apart.cons (by first | assumption | exact tb_ltOf (by assumption)) ?_))); (case uP70 => (exact fun p hp => .tail _ (.tail _ (.tail _ (.tail _ (.tail _ (.tail _ (.tail _ (hXD p hp))))))) )))
        rintro v6 n6 h6 tk6 F6 N6 Ap6 ⟨rfl, rfl⟩
        repeat' (first | ((fail_if_success (with_reducible show wpAny _ _ (subscriptTail (PySem.Expr.Name _ _) _ _ _) _ _ _)); (with_reducible show wpAny _ _ (subscriptTail _ _ (Value.ref _) _) _ _ _); (refine PySem.W.kba_turn (value' := PySem.Expr.Name (PySem.Str.ofString "_") ⟨0, 0, 0, 0⟩) (fun _ => rfl) ?_)) | ((with_reducible show wpAny _ _ (subscriptTail (PySem.Expr.Name _ _) _ (Value.ref _) (Value.ref _)) _ _ _); (refine' kmk_slice_ints ?F ?N ?l ?p ?q ?i ?m ?c ?_ ?s ?t ?z; (case F => k_asm); (case N => k_asm); (case l => exact News.isList (by k_asm) (by k_mem)); (case p => kmk_part); (case q => kmk_part); (case i => assumption); (case m => exact kmk_upto_neg (by assumption) (by decide)); (case c => exact rfl); (case s => with_unfolding_all rfl); (case t => kmk_pure); (case z => exact kmk_sz (by assumption) (line_le (by assumption)))); intro D' ws' h' F' N' l1 hI' hC' hL'; (try k_lt l1); (try k_sweep)) | (k_unfold; (try dsimp only)) | ((fail_if_success (with_reducible show wpAny _ _ (call (Value.ref _) _ _) _ _ _)); (fail_if_success (with_reducible show wpAny _ _ (exec (Stmt.For _ _ _ _ _) _) _ _ _)); (fail_if_success (with_reducible show wpAny _ _ (exec (Stmt.Assign _ (Expr.ListComp _ _ _ _) _) _) _ _ _)); (fail_if_success (with_reducible show wpAny _ _ (eval (Expr.ListComp _ _ _ _) _) _ _ _)); (fail_if_success (with_reducible show wpAny _ _ (exec (Stmt.Assign _ (Expr.BoolOp _ _ _) _) _) _ _ _)); (fail_if_success (with_reducible show wpAny _ _ (exec (Stmt.Assign _ (Expr.IfExp _ _ _ _) _) _) _ _ _)); (fail_if_success (with_reducible show wpAny _ _ (compareOp CmpOp.NotEq (Value.ref _) (Value.ref _)) _ _ _)); walk1) | (dsimp only; ((fail_if_success (with_reducible show wpAny _ _ (call (Value.ref _) _ _) _ _ _)); (fail_if_success (with_reducible show wpAny _ _ (exec (Stmt.For _ _ _ _ _) _) _ _ _)); (fail_if_success (with_reducible show wpAny _ _ (exec (Stmt.Assign _ (Expr.ListComp _ _ _ _) _) _) _ _ _)); (fail_if_success (with_reducible show wpAny _ _ (eval (Expr.ListComp _ _ _ _) _) _ _ _)); (fail_if_success (with_reducible show wpAny _ _ (exec (Stmt.Assign _ (Expr.BoolOp _ _ _) _) _) _ _ _)); (fail_if_success (with_reducible show wpAny _ _ (exec (Stmt.Assign _ (Expr.IfExp _ _ _ _) _) _) _ _ _)); (fail_if_success (with_reducible show wpAny _ _ (compareOp CmpOp.NotEq (Value.ref _) (Value.ref _)) _ _ _)); walk1)))
        · exact absurd (by assumption : (besideStr x.kind != besideStr x.kind) = true) (by simp)
        (refine' Con.use (c_behindG (t := ti) GL hT11 hnd) ?uhh71 ?uhf71 ?uhdp71 ?uhu71 ?uhk71 ?uB71 ?uF71 ?uX71 ?uN71 ?uT71 ?uAp71 ?uP71 ?_; (case uhh71 => exact rfl); (case uhf71 => exact rfl); (case uhdp71 => exact Nat.le_of_ble_eq_true rfl); (case uhu71 => exact Nat.le_of_ble_eq_true rfl); (case uhk71 => first | assumption | exact rfl); (case uB71 => k_asm); (case uF71 => k_asm); (case uX71 => k_asm); (case uN71 => k_asm); (case uT71 => k_asm); (case uAp71 => first | assumption | (repeat' (first | assumption | refine Apart.cons (by first | assumption | exact tb_ltOf (by assumption)) ?_))); (case uP71 => (exact fun p hp => .tail _ (.tail _ (.tail _ (.tail _ (.tail _ (.tail _ (.tail _ (hXD p hp))))))) )))
        rintro v7 n7 h7 tk7 F7 N7 Ap7 ⟨l7, vs7, c7, rfl, rfl, hlt7, hI7⟩
        clear F6 N6 Ap6
        repeat' (first | ((fail_if_success (with_reducible show wpAny _ _ (subscriptTail (PySem.Expr.Name _ _) _ _ _) _ _ _)); (with_reducible show wpAny _ _ (subscriptTail _ _ (Value.ref _) _) _ _ _); (refine PySem.W.kba_turn (value' := PySem.Expr.Name (PySem.Str.ofString "_") ⟨0, 0, 0, 0⟩) (fun _ => rfl) ?_)) | ((with_reducible show wpAny _ _ (subscriptTail (PySem.Expr.Name _ _) _ (Value.ref _) (Value.ref _)) _ _ _); (refine' kmk_slice_ints ?F ?N ?l ?p ?q ?i ?m ?c ?_ ?s ?t ?z; (case F => k_asm); (case N => k_asm); (case l => exact News.isList (by k_asm) (by k_mem)); (case p => kmk_part); (case q => kmk_part); (case i => assumption); (case m => exact kmk_upto_neg (by assumption) (by decide)); (case c => exact rfl); (case s => with_unfolding_all rfl); (case t => kmk_pure); (case z => exact kmk_sz (by assumption) (line_le (by assumption)))); intro D' ws' h' F' N' l1 hI' hC' hL'; (try k_lt l1); (try k_sweep)) | (k_unfold; (try dsimp only)) | ((fail_if_success (with_reducible show wpAny _ _ (call (Value.ref _) _ _) _ _ _)); (fail_if_success (with_reducible show wpAny _ _ (exec (Stmt.For _ _ _ _ _) _) _ _ _)); (fail_if_success (with_reducible show wpAny _ _ (exec (Stmt.Assign _ (Expr.ListComp _ _ _ _) _) _) _ _ _)); (fail_if_success (with_reducible show wpAny _ _ (eval (Expr.ListComp _ _ _ _) _) _ _ _)); (fail_if_success (with_reducible show wpAny _ _ (exec (Stmt.Assign _ (Expr.BoolOp _ _ _) _) _) _ _ _)); (fail_if_success (with_reducible show wpAny _ _ (exec (Stmt.Assign _ (Expr.IfExp _ _ _ _) _) _) _ _ _)); (fail_if_success (with_reducible show wpAny _ _ (compareOp CmpOp.NotEq (Value.ref _) (Value.ref _)) _ _ _)); walk1) | (dsimp only; ((fail_if_success (with_reducible show wpAny _ _ (call (Value.ref _) _ _) _ _ _)); (fail_if_success (with_reducible show wpAny _ _ (exec (Stmt.For _ _ _ _ _) _) _ _ _)); (fail_if_success (with_reducible show wpAny _ _ (exec (Stmt.Assign _ (Expr.ListComp _ _ _ _) _) _) _ _ _)); (fail_if_success (with_reducible show wpAny _ _ (eval (Expr.ListComp _ _ _ _) _) _ _ _)); (fail_if_success (with_reducible show wpAny _ _ (exec (Stmt.Assign _ (Expr.BoolOp _ _ _) _) _) _ _ _)); (fail_if_success (with_reducible show wpAny _ _ (exec (Stmt.Assign _ (Expr.IfExp _ _ _ _) _) _) _ _ _)); (fail_if_success (with_reducible show wpAny _ _ (compareOp CmpOp.NotEq (Value.ref _) (Value.ref _)) _ _ _)); walk1)))
        refine ne_same (by k_asm) (.head _) (.tail _ (.head _)) hI7 hvb (by units_room) ?_
        repeat' (first | ((fail_if_success (with_reducible show wpAny _ _ (subscriptTail (PySem.Expr.Name _ _) _ _ _) _ _ _)); (with_reducible show wpAny _ _ (subscriptTail _ _ (Value.ref _) _) _ _ _); (refine PySem.W.kba_turn (value' := PySem.Expr.Name (PySem.Str.ofString "_") ⟨0, 0, 0, 0⟩) (fun _ => rfl) ?_)) | ((with_reducible show wpAny _ _ (subscriptTail (PySem.Expr.Name _ _) _ (Value.ref _) (Value.ref _)) _ _ _); (refine' kmk_slice_ints ?F ?N ?l ?p ?q ?i ?m ?c ?_ ?s ?t ?z; (case F => k_asm); (case N => k_asm); (case l => exact News.isList (by k_asm) (by k_mem)); (case p => kmk_part); (case q => kmk_part); (case i => assumption); (case m => exact kmk_upto_neg (by assumption) (by decide)); (case c => exact rfl); (case s => with_unfolding_all rfl); (case t => kmk_pure); (case z => exact kmk_sz (by assumption) (line_le (by assumption)))); intro D' ws' h' F' N' l1 hI' hC' hL'; (try k_lt l1); (try k_sweep)) | (k_unfold; (try dsimp only)) | ((fail_if_success (with_reducible show wpAny _ _ (call (Value.ref _) _ _) _ _ _)); (fail_if_success (with_reducible show wpAny _ _ (exec (Stmt.For _ _ _ _ _) _) _ _ _)); (fail_if_success (with_reducible show wpAny _ _ (exec (Stmt.Assign _ (Expr.ListComp _ _ _ _) _) _) _ _ _)); (fail_if_success (with_reducible show wpAny _ _ (eval (Expr.ListComp _ _ _ _) _) _ _ _)); (fail_if_success (with_reducible show wpAny _ _ (exec (Stmt.Assign _ (Expr.BoolOp _ _ _) _) _) _ _ _)); (fail_if_success (with_reducible show wpAny _ _ (exec (Stmt.Assign _ (Expr.IfExp _ _ _ _) _) _) _ _ _)); (fail_if_success (with_reducible show wpAny _ _ (compareOp CmpOp.NotEq (Value.ref _) (Value.ref _)) _ _ _)); walk1) | (dsimp only; ((fail_if_success (with_reducible show wpAny _ _ (call (Value.ref _) _ _) _ _ _)); (fail_if_success (with_reducible show wpAny _ _ (exec (Stmt.For _ _ _ _ _) _) _ _ _)); (fail_if_success (with_reducible show wpAny _ _ (exec (Stmt.Assign _ (Expr.ListComp _ _ _ _) _) _) _ _ _)); (fail_if_success (with_reducible show wpAny _ _ (eval (Expr.ListComp _ _ _ _) _) _ _ _)); (fail_if_success (with_reducible show wpAny _ _ (exec (Stmt.Assign _ (Expr.BoolOp _ _ _) _) _) _ _ _)); (fail_if_success (with_reducible show wpAny _ _ (exec (Stmt.Assign _ (Expr.IfExp _ _ _ _) _) _) _ _ _)); (fail_if_success (with_reducible show wpAny _ _ (compareOp CmpOp.NotEq (Value.ref _) (Value.ref _)) _ _ _)); walk1)))
        (refine' Con.use (c_aheadG (t := ti) GL hT11 hnd) ?uhh72 ?uhf72 ?uhdp72 ?uhu72 ?uhk72 ?uB72 ?uF72 ?uX72 ?uN72 ?uT72 ?uAp72 ?uP72 ?_; (case uhh72 => exact rfl); (case uhf72 => exact rfl); (case uhdp72 => exact Nat.le_of_ble_eq_true rfl); (case uhu72 => exact Nat.le_of_ble_eq_true rfl); (case uhk72 => first | assumption | exact rfl); (case uB72 => k_asm); (case uF72 => k_asm); (case uX72 => k_asm); (case uN72 => k_asm); (case uT72 => k_asm); (case uAp72 => first | assumption | (repeat' (first | assumption | refine Apart.cons (by first | assumption | exact tb_ltOf (by assumption)) ?_))); (case uP72 => (exact fun p hp => .tail _ (.tail _ (.tail _ (.tail _ (.tail _ (.tail _ (.tail _ (.tail _ (hXD p hp)))))))) )))
        rintro v8 n8 h8 tk8 F8 N8 Ap8 ⟨l8, vs8, c8, rfl, rfl, hlt8, hI8⟩
        clear F7 N7 Ap7
        try dsimp only
        have hvl : va.length ≤ 1000 := by rw [hva.length, ← List.length_map (as := na) (fun z => 0 - z), eA]; exact Nat.le_trans (aheadZ_len T' i nd) (by omega)
        have hvl3 : va.toArray.size ≤ sizeLine := by rw [List.size_toArray]; exact line_le hvl
        k_dflt (refine LCg.ListComp_U (F₀ := by k_asm) (by with_unfolding_all rfl) (by decide) (by rfl) (by decide) (by rfl) ?_)
        repeat' (first | ((fail_if_success (with_reducible show wpAny _ _ (subscriptTail (PySem.Expr.Name _ _) _ _ _) _ _ _)); (with_reducible show wpAny _ _ (subscriptTail _ _ (Value.ref _) _) _ _ _); (refine PySem.W.kba_turn (value' := PySem.Expr.Name (PySem.Str.ofString "_") ⟨0, 0, 0, 0⟩) (fun _ => rfl) ?_)) | ((with_reducible show wpAny _ _ (subscriptTail (PySem.Expr.Name _ _) _ (Value.ref _) (Value.ref _)) _ _ _); (refine' kmk_slice_ints ?F ?N ?l ?p ?q ?i ?m ?c ?_ ?s ?t ?z; (case F => k_asm); (case N => k_asm); (case l => exact News.isList (by k_asm) (by k_mem)); (case p => kmk_part); (case q => kmk_part); (case i => assumption); (case m => exact kmk_upto_neg (by assumption) (by decide)); (case c => exact rfl); (case s => with_unfolding_all rfl); (case t => kmk_pure); (case z => exact kmk_sz (by assumption) (line_le (by assumption)))); intro D' ws' h' F' N' l1 hI' hC' hL'; (try k_lt l1); (try k_sweep)) | (k_unfold; (try dsimp only)) | ((fail_if_success (with_reducible show wpAny _ _ (call (Value.ref _) _ _) _ _ _)); (fail_if_success (with_reducible show wpAny _ _ (exec (Stmt.For _ _ _ _ _) _) _ _ _)); (fail_if_success (with_reducible show wpAny _ _ (exec (Stmt.Assign _ (Expr.ListComp _ _ _ _) _) _) _ _ _)); (fail_if_success (with_reducible show wpAny _ _ (eval (Expr.ListComp _ _ _ _) _) _ _ _)); (fail_if_success (with_reducible show wpAny _ _ (exec (Stmt.Assign _ (Expr.BoolOp _ _ _) _) _) _ _ _)); (fail_if_success (with_reducible show wpAny _ _ (exec (Stmt.Assign _ (Expr.IfExp _ _ _ _) _) _) _ _ _)); (fail_if_success (with_reducible show wpAny _ _ (compareOp CmpOp.NotEq (Value.ref _) (Value.ref _)) _ _ _)); walk1) | (dsimp only; ((fail_if_success (with_reducible show wpAny _ _ (call (Value.ref _) _ _) _ _ _)); (fail_if_success (with_reducible show wpAny _ _ (exec (Stmt.For _ _ _ _ _) _) _ _ _)); (fail_if_success (with_reducible show wpAny _ _ (exec (Stmt.Assign _ (Expr.ListComp _ _ _ _) _) _) _ _ _)); (fail_if_success (with_reducible show wpAny _ _ (eval (Expr.ListComp _ _ _ _) _) _ _ _)); (fail_if_success (with_reducible show wpAny _ _ (exec (Stmt.Assign _ (Expr.BoolOp _ _ _) _) _) _ _ _)); (fail_if_success (with_reducible show wpAny _ _ (exec (Stmt.Assign _ (Expr.IfExp _ _ _ _) _) _) _ _ _)); (fail_if_success (with_reducible show wpAny _ _ (compareOp CmpOp.NotEq (Value.ref _) (Value.ref _)) _ _ _)); walk1)))
        refine CompSrc.ledger (by exact rfl) (by k_asm) (by k_asm) (its := va.toArray) (.tail _ (.tail _ (.tail _ (.head _)))) hvl3 ?_
        intro g9
        refine comp_inv (fun i' us => i' ≤ va.length ∧ us.length ≤ i' ∧ IntsAre us ((na.take i').map fun z => 0 - z)) (.inr ⟨_, .tail _ (.tail _ (.tail _ (.head _))), rfl, _, rfl⟩) ?_ _ 0 [] ⟨Nat.zero_le _, Nat.le_refl _, .nil⟩ ?_
        · rintro j v us Ic oIc Cc oCc Lf m₂ hh tkk E' hv ⟨hj, hz, hus⟩ hC hxv Fc Nc nc1 nc2 nc3 offc
          have hjy : j < va.length := getElem?_lt (by simpa using hv : va[j]? = some v)
          obtain ⟨z, tz, rfl, hz2⟩ := ints_get hva (by simpa using hv)
          repeat' (first | ((fail_if_success (with_reducible show wpAny _ _ (subscriptTail (PySem.Expr.Name _ _) _ _ _) _ _ _)); (with_reducible show wpAny _ _ (subscriptTail _ _ (Value.ref _) _) _ _ _); (refine PySem.W.kba_turn (value' := PySem.Expr.Name (PySem.Str.ofString "_") ⟨0, 0, 0, 0⟩) (fun _ => rfl) ?_)) | ((with_reducible show wpAny _ _ (subscriptTail (PySem.Expr.Name _ _) _ (Value.ref _) (Value.ref _)) _ _ _); (refine' kmk_slice_ints ?F ?N ?l ?p ?q ?i ?m ?c ?_ ?s ?t ?z; (case F => k_asm); (case N => k_asm); (case l => exact News.isList (by k_asm) (by k_mem)); (case p => kmk_part); (case q => kmk_part); (case i => assumption); (case m => exact kmk_upto_neg (by assumption) (by decide)); (case c => exact rfl); (case s => with_unfolding_all rfl); (case t => kmk_pure); (case z => exact kmk_sz (by assumption) (line_le (by assumption)))); intro D' ws' h' F' N' l1 hI' hC' hL'; (try k_lt l1); (try k_sweep)) | (k_unfold; (try dsimp only)) | ((fail_if_success (with_reducible show wpAny _ _ (call (Value.ref _) _ _) _ _ _)); (fail_if_success (with_reducible show wpAny _ _ (exec (Stmt.For _ _ _ _ _) _) _ _ _)); (fail_if_success (with_reducible show wpAny _ _ (exec (Stmt.Assign _ (Expr.ListComp _ _ _ _) _) _) _ _ _)); (fail_if_success (with_reducible show wpAny _ _ (eval (Expr.ListComp _ _ _ _) _) _ _ _)); (fail_if_success (with_reducible show wpAny _ _ (exec (Stmt.Assign _ (Expr.BoolOp _ _ _) _) _) _ _ _)); (fail_if_success (with_reducible show wpAny _ _ (exec (Stmt.Assign _ (Expr.IfExp _ _ _ _) _) _) _ _ _)); walk1) | (dsimp only; ((fail_if_success (with_reducible show wpAny _ _ (call (Value.ref _) _ _) _ _ _)); (fail_if_success (with_reducible show wpAny _ _ (exec (Stmt.For _ _ _ _ _) _) _ _ _)); (fail_if_success (with_reducible show wpAny _ _ (exec (Stmt.Assign _ (Expr.ListComp _ _ _ _) _) _) _ _ _)); (fail_if_success (with_reducible show wpAny _ _ (eval (Expr.ListComp _ _ _ _) _) _ _ _)); (fail_if_success (with_reducible show wpAny _ _ (exec (Stmt.Assign _ (Expr.BoolOp _ _ _) _) _) _ _ _)); (fail_if_success (with_reducible show wpAny _ _ (exec (Stmt.Assign _ (Expr.IfExp _ _ _ _) _) _) _ _ _)); walk1)))
          exact ⟨_, _, rfl, by k_asm, by k_asm, hjy, by rw [List.length_append, List.length_singleton]; omega, mapm hus hz2⟩
        · rintro us ⟨hjj2, hul, hus⟩
          intro Lf h9 tk9 F9 N9 O9
          rw [Nat.zero_add, List.size_toArray] at hus
          have hus2 := ints_map hus hva.length.symm
          rw [eA] at hus2
          try dsimp only
          refine ne_same (by k_asm) (.tail _ (.head _)) (.head _) hI8 hus2 (by units_room) ?_
          repeat' (first | ((fail_if_success (with_reducible show wpAny _ _ (subscriptTail (PySem.Expr.Name _ _) _ _ _) _ _ _)); (with_reducible show wpAny _ _ (subscriptTail _ _ (Value.ref _) _) _ _ _); (refine PySem.W.kba_turn (value' := PySem.Expr.Name (PySem.Str.ofString "_") ⟨0, 0, 0, 0⟩) (fun _ => rfl) ?_)) | ((with_reducible show wpAny _ _ (subscriptTail (PySem.Expr.Name _ _) _ (Value.ref _) (Value.ref _)) _ _ _); (refine' kmk_slice_ints ?F ?N ?l ?p ?q ?i ?m ?c ?_ ?s ?t ?z; (case F => k_asm); (case N => k_asm); (case l => exact News.isList (by k_asm) (by k_mem)); (case p => kmk_part); (case q => kmk_part); (case i => assumption); (case m => exact kmk_upto_neg (by assumption) (by decide)); (case c => exact rfl); (case s => with_unfolding_all rfl); (case t => kmk_pure); (case z => exact kmk_sz (by assumption) (line_le (by assumption)))); intro D' ws' h' F' N' l1 hI' hC' hL'; (try k_lt l1); (try k_sweep)) | (k_unfold; (try dsimp only)) | ((fail_if_success (with_reducible show wpAny _ _ (call (Value.ref _) _ _) _ _ _)); (fail_if_success (with_reducible show wpAny _ _ (exec (Stmt.For _ _ _ _ _) _) _ _ _)); (fail_if_success (with_reducible show wpAny _ _ (exec (Stmt.Assign _ (Expr.ListComp _ _ _ _) _) _) _ _ _)); (fail_if_success (with_reducible show wpAny _ _ (eval (Expr.ListComp _ _ _ _) _) _ _ _)); (fail_if_success (with_reducible show wpAny _ _ (exec (Stmt.Assign _ (Expr.BoolOp _ _ _) _) _) _ _ _)); (fail_if_success (with_reducible show wpAny _ _ (exec (Stmt.Assign _ (Expr.IfExp _ _ _ _) _) _) _ _ _)); (fail_if_success (with_reducible show wpAny _ _ (compareOp CmpOp.NotEq (Value.ref _) (Value.ref _)) _ _ _)); walk1) | (dsimp only; ((fail_if_success (with_reducible show wpAny _ _ (call (Value.ref _) _ _) _ _ _)); (fail_if_success (with_reducible show wpAny _ _ (exec (Stmt.For _ _ _ _ _) _) _ _ _)); (fail_if_success (with_reducible show wpAny _ _ (exec (Stmt.Assign _ (Expr.ListComp _ _ _ _) _) _) _ _ _)); (fail_if_success (with_reducible show wpAny _ _ (eval (Expr.ListComp _ _ _ _) _) _ _ _)); (fail_if_success (with_reducible show wpAny _ _ (exec (Stmt.Assign _ (Expr.BoolOp _ _ _) _) _) _ _ _)); (fail_if_success (with_reducible show wpAny _ _ (exec (Stmt.Assign _ (Expr.IfExp _ _ _ _) _) _) _ _ _)); (fail_if_success (with_reducible show wpAny _ _ (compareOp CmpOp.NotEq (Value.ref _) (Value.ref _)) _ _ _)); walk1)))
          have hAp := Ap8.tl.tl.tl.tl.tl
          exact ⟨rfl, _, _, _, _, rfl, F9, News_subN N9 (fun q hq => .tail _ (.tail _ (.tail _ (.tail _ (.tail _ (.tail _ hq)))))), hAp.ne, ⟨_, _, rfl, hAp.tl, ⟨_, by assumption⟩, ⟨_, by assumption⟩, fun y hy => off5 (m1 := m1) (m0 := fun y => if y = "tree" then some (.ref tr) else m0 y) hy⟩⟩
  intro m1 n1 h14 tk14 ⟨o3, o2, hn1, ApJ, ⟨v3, hc3⟩, ⟨v2, hc2⟩, hm⟩ F14 N15
  subst hn1
  rw [frame_stored hm] at F14
  clear F13 N14 Ap14 hm
  repeat' (first | (k_unfold; (try dsimp only)) | ((fail_if_success (with_reducible show wpAny _ _ (call (Value.ref _) _ _) _ _ _)); (fail_if_success (with_reducible show wpAny _ _ (exec (Stmt.For _ _ _ _ _) _) _ _ _)); (fail_if_success (with_reducible show wpAny _ _ (exec (Stmt.Assign _ (Expr.ListComp _ _ _ _) _) _) _ _ _)); (fail_if_success (with_reducible show wpAny _ _ (eval (Expr.ListComp _ _ _ _) _) _ _ _)); walk1) | (dsimp only; ((fail_if_success (with_reducible show wpAny _ _ (call (Value.ref _) _ _) _ _ _)); (fail_if_success (with_reducible show wpAny _ _ (exec (Stmt.For _ _ _ _ _) _) _ _ _)); (fail_if_success (with_reducible show wpAny _ _ (exec (Stmt.Assign _ (Expr.ListComp _ _ _ _) _) _) _ _ _)); (fail_if_success (with_reducible show wpAny _ _ (eval (Expr.ListComp _ _ _ _) _) _ _ _)); walk1)))
  walk1
  walk1
  repeat' (first | (k_unfold; (try dsimp only)) | ((fail_if_success (with_reducible show wpAny _ _ (call _ _) _ _ _)); (fail_if_success (with_reducible show wpAny _ _ (pyIter _) _ _ _)); walk1) | (dsimp only; (fail_if_success (with_reducible show wpAny _ _ (call _ _) _ _ _)); (fail_if_success (with_reducible show wpAny _ _ (pyIter _) _ _ _)); walk1))
  have hlen : R'.kvs.length = T'.length := by have e : R'.kvs.length = R'.es.length := kvsFrom_length; rw [e, GL.repR.len]
  refine kda_len (knd := PySem.intKind _ _) (by k_asm) (.tail _ (.tail _ (.tail _ hkeep))) hdict lo (by omega) ?_
  rw [hlen]
  repeat' (first | (k_unfold; (try dsimp only)) | ((fail_if_success (with_reducible show wpAny _ _ (call _ _) _ _ _)); (fail_if_success (with_reducible show wpAny _ _ (pyIter _) _ _ _)); walk1) | (dsimp only; (fail_if_success (with_reducible show wpAny _ _ (call _ _) _ _ _)); (fail_if_success (with_reducible show wpAny _ _ (pyIter _) _ _ _)); walk1))
  have hzD : D'.rows.length < 1000 := by rw [GL.repD.len]; omega
  have hk1 : keepIn (kz w.params) (.ref 28) = true := by k_is
  have hk2 : keepIn (kz w.params) (.ref 35) = true := by k_is
  have hk3 : keepIn (kz w.params) (.ref 42) = true := by k_is
  rename News _ _ _ _ => kN
  have ApL1 := apart_news kN (by assumption) ApJ
  refine' iter_read ["call"] rfl (.head _) (by k_asm) kN ?_ ?_
  · intro i v u h15 tk15 I oI hv hoff F15 N16
    obtain ⟨k, tv, rfl, hk⟩ : ∃ k tv, v = .int k tv ∧ (k < 0 ∨ (D'.rows.length : Int) ≤ k) := by
      rcases i with _ | _ | i
      · cases hv; exact ⟨_, _, rfl, .inl (by decide)⟩
      · cases hv; exact ⟨_, _, rfl, .inr (by rw [GL.repD.len]; exact Int.le_refl _)⟩
      · simp at hv
    repeat' (first | (k_unfold; (try dsimp only)) | ((fail_if_success (with_reducible show wpAny _ _ (call (Value.ref _) _ _) _ _ _)); (fail_if_success (with_reducible show wpAny _ _ (exec (Stmt.For _ _ _ _ _) _) _ _ _)); (fail_if_success (with_reducible show wpAny _ _ (exec (Stmt.Assign _ (Expr.ListComp _ _ _ _) _) _) _ _ _)); (fail_if_success (with_reducible show wpAny _ _ (eval (Expr.ListComp _ _ _ _) _) _ _ _)); walk1) | (dsimp only; ((fail_if_success (with_reducible show wpAny _ _ (call (Value.ref _) _ _) _ _ _)); (fail_if_success (with_reducible show wpAny _ _ (exec (Stmt.For _ _ _ _ _) _) _ _ _)); (fail_if_success (with_reducible show wpAny _ _ (exec (Stmt.Assign _ (Expr.ListComp _ _ _ _) _) _) _ _ _)); (fail_if_success (with_reducible show wpAny _ _ (eval (Expr.ListComp _ _ _ _) _) _ _ _)); walk1)))
    walk1
    repeat' (first | (k_unfold; (try dsimp only)) | ((fail_if_success (with_reducible show wpAny _ _ (call _ _) _ _ _)); (fail_if_success (with_reducible show wpAny _ _ (pyIter _) _ _ _)); walk1) | (dsimp only; (fail_if_success (with_reducible show wpAny _ _ (call _ _) _ _ _)); (fail_if_success (with_reducible show wpAny _ _ (pyIter _) _ _ _)); walk1))
    rename News _ _ _ _ => kN2
    have ApL2 := apart_news kN2 (by assumption) (Apart.consNe hoff ApL1)
    refine' iter_read [] rfl (.head _) (by k_asm) kN2 ?_ ?_
    · intro i2 v2 u2 h16 tk16 I2 oI2 hv2 hoff2 F16 N17
      obtain ⟨f, rfl, hkf, hR⟩ : ∃ f, v2 = .ref f ∧ keepIn (kz w.params) (.ref f) = true ∧ ∀ t', RCon w f 870 8700 [.ref D'.tr, .int k t'] (fun n => ∀ p ∈ D'.led w, p ∈ n) := by
        rcases i2 with _ | _ | _ | i2
        · cases hv2; exact ⟨_, rfl, hk1, fun t' => (r_is_beside hk hzD).weak (by decide) (by decide)⟩
        · cases hv2; exact ⟨_, rfl, hk2, fun t' => r_ahead hk hzD⟩
        · cases hv2; exact ⟨_, rfl, hk3, fun t' => r_behind hk hzD⟩
        · simp at hv2
      repeat' (first | (k_unfold; (try dsimp only)) | ((fail_if_success (with_reducible show wpAny _ _ (call (Value.ref _) _ _) _ _ _)); walk1) | (dsimp only; ((fail_if_success (with_reducible show wpAny _ _ (call (Value.ref _) _ _) _ _ _)); walk1)))
      refine' c_is_refused (D := D') GL.htr hkf hR ?q1 ?q2 ?q3 ?q4 ?q5 ?q6 ?q7 ?q8 ?q9 ?q10 N17 ?q12 (Apart.consNe hoff2 ApL2) (fun p hp => .tail _ (.tail _ (.tail _ (.tail _ (.tail _ (.tail _ (.tail _ (hXD p hp)))))))) ?_
      case q1 => rfl
      case q2 => exact rfl
      case q3 => exact Nat.le_of_ble_eq_true rfl
      case q4 => exact Nat.le_of_ble_eq_true rfl
      case q5 => rfl
      case q6 => exact B
      case q7 => exact X_
      case q8 => exact T
      case q9 => k_asm
      case q10 => k_asm
      case q12 => k_asm
      intro h17 tk17 F17 N18
      repeat' (first | (k_unfold; (try dsimp only)) | ((fail_if_success (with_reducible show wpAny _ _ (call (Value.ref _) _ _) _ _ _)); walk1) | (dsimp only; ((fail_if_success (with_reducible show wpAny _ _ (call (Value.ref _) _ _) _ _ _)); walk1)))
      exact TEnd.kept F17 N18 hoff2 (fun y e1 _ => (if_neg e1).trans rfl)
    · intro u2 h16 tk16 F16 N17
      dsimp only
      repeat' (first | (k_unfold; (try dsimp only)) | ((fail_if_success (with_reducible show wpAny _ _ (call (Value.ref _) _ _) _ _ _)); walk1) | (dsimp only; ((fail_if_success (with_reducible show wpAny _ _ (call (Value.ref _) _ _) _ _ _)); walk1)))
      refine TEnd.kept F16 (News_subN N17 (fun q hq => .tail _ hq)) hoff (fun y e1 e2 => ?_)
      have g : y ≠ "call" := by rintro rfl; exact absurd e2 (by decide)
      exact (if_neg g).trans ((if_neg (by simp)).trans ((if_neg e1).trans (if_neg (by rw [e2]; decide))))
  · intro u h15 tk15 F15 N16
    repeat' (first | (k_unfold; (try dsimp only)) | ((fail_if_success (with_reducible show wpAny _ _ (call (Value.ref _) _ _) _ _ _)); walk1) | (dsimp only; ((fail_if_success (with_reducible show wpAny _ _ (call (Value.ref _) _ _) _ _ _)); walk1)))
    dsimp only
    repeat' (first | (k_unfold; (try dsimp only)) | ((fail_if_success (with_reducible show wpAny _ _ (call (Value.ref _) _ _) _ _ _)); walk1) | (dsimp only; ((fail_if_success (with_reducible show wpAny _ _ (call (Value.ref _) _ _) _ _ _)); walk1)))
    k_end
    kc_close
end
end Mine
theorem PySem.Challenge.cw_xm0664_01_holds : PySem.Challenge.rw_xm0664_01.Holds :=
  Mine.hdB
