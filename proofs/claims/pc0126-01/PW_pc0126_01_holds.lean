import PyProof.Rows.All
import Wide.All
import OpenK.AllK
import Wide.FinOn
import Lean
import PySem.Challenge.RW_pc0126_01
set_option Elab.async false
open PySem PySem.W PySem.Calls PySem.Spec PyProof.Rows
set_option maxRecDepth 100000
set_option linter.unusedVariables false
namespace Mine
section
open PySem PySem.W PyProof.Rows
set_option linter.unusedVariables false
set_option maxRecDepth 100000
noncomputable def hd.bodyS : { l : List Stmt // PySem.Challenge.pw_pc0126_01.main.body = l } := ⟨[_, _, _, _, _, _, _, _, _, _, _, _, _, _, _, _, _, _, _, _, _, _, _, _, _, _, _, _, _, _], rfl⟩
noncomputable def hd.keep (l : List Stmt) : List Stmt := match l with | [a0, a1, a2, a3, a4, a5, a6, a7, a8, a9, a10, a11, a12, a13, a14, a15, a16, a17, a18, a19, a20, a21, a22, a23, a24, a25, a26, a27, a28, a29] => [a0, a2, a3, a5, a6, a7, a8, a9, a10, a11, a12, a13, a14, a16, a17, a18, a19, a20, a22, a23, a24, a25, a26, a27, a28, a29] | l => l
noncomputable def hd.view_39 : Program := { PySem.Challenge.pw_pc0126_01 with main := { PySem.Challenge.pw_pc0126_01.main with body := hd.keep hd.bodyS.1 } }
noncomputable def hd.top (i : Nat) : Stmt := PySem.Challenge.pw_pc0126_01.main.body.getD i (.Pass ⟨0, 0, 0, 0⟩)
noncomputable def hd.sub (i j : Nat) : Stmt := match hd.top i with | .ClassDef (body := b) .. => b.getD j (.Pass ⟨0, 0, 0, 0⟩) | s => s
noncomputable def hd.parts (s : Stmt) : Arguments × List Stmt × Scope := match s with | .FunctionDef (args := a) (body := b) (scope := c) .. => (a, b, c) | _ => (default, [], default)
noncomputable def hd.heap_39 : Params → Frag := fun P => (fun (a21 : Arguments) (b21 : List Stmt) (s21 : Scope) (_ : hd.parts (hd.top 0) = (a21, b21, s21)) (a37 : Arguments) (b37 : List Stmt) (s37 : Scope) (_ : hd.parts (hd.sub 2 0) = (a37, b37, s37)) (a44 : Arguments) (b44 : List Stmt) (s44 : Scope) (_ : hd.parts (hd.sub 2 1) = (a44, b44, s44)) (a76 : Arguments) (b76 : List Stmt) (s76 : Scope) (_ : hd.parts (hd.sub 6 0) = (a76, b76, s76)) (a83 : Arguments) (b83 : List Stmt) (s83 : Scope) (_ : hd.parts (hd.sub 6 1) = (a83, b83, s83)) (a104 : Arguments) (b104 : List Stmt) (s104 : Scope) (_ : hd.parts (hd.sub 7 0) = (a104, b104, s104)) (a111 : Arguments) (b111 : List Stmt) (s111 : Scope) (_ : hd.parts (hd.sub 7 1) = (a111, b111, s111)) (a118 : Arguments) (b118 : List Stmt) (s118 : Scope) (_ : hd.parts (hd.sub 7 2) = (a118, b118, s118)) (a125 : Arguments) (b125 : List Stmt) (s125 : Scope) (_ : hd.parts (hd.sub 7 3) = (a125, b125, s125)) (a132 : Arguments) (b132 : List Stmt) (s132 : Scope) (_ : hd.parts (hd.sub 7 4) = (a132, b132, s132)) (a153 : Arguments) (b153 : List Stmt) (s153 : Scope) (_ : hd.parts (hd.sub 8 0) = (a153, b153, s153)) (a160 : Arguments) (b160 : List Stmt) (s160 : Scope) (_ : hd.parts (hd.sub 8 1) = (a160, b160, s160)) (a174 : Arguments) (b174 : List Stmt) (s174 : Scope) (_ : hd.parts (hd.top 9) = (a174, b174, s174)) (a181 : Arguments) (b181 : List Stmt) (s181 : Scope) (_ : hd.parts (hd.top 10) = (a181, b181, s181)) (a188 : Arguments) (b188 : List Stmt) (s188 : Scope) (_ : hd.parts (hd.top 11) = (a188, b188, s188)) (a195 : Arguments) (b195 : List Stmt) (s195 : Scope) (_ : hd.parts (hd.top 12) = (a195, b195, s195)) (a202 : Arguments) (b202 : List Stmt) (s202 : Scope) (_ : hd.parts (hd.top 13) = (a202, b202, s202)) (a207 : Arguments) (b207 : List Stmt) (s207 : Scope) (_ : hd.parts (hd.top 14) = (a207, b207, s207)) (a212 : Arguments) (b212 : List Stmt) (s212 : Scope) (_ : hd.parts (hd.top 16) = (a212, b212, s212)) (a219 : Arguments) (b219 : List Stmt) (s219 : Scope) (_ : hd.parts (hd.top 17) = (a219, b219, s219)) (a226 : Arguments) (b226 : List Stmt) (s226 : Scope) (_ : hd.parts (hd.top 18) = (a226, b226, s226)) (a231 : Arguments) (b231 : List Stmt) (s231 : Scope) (_ : hd.parts (hd.top 19) = (a231, b231, s231)) (a238 : Arguments) (b238 : List Stmt) (s238 : Scope) (_ : hd.parts (hd.top 20) = (a238, b238, s238)) (a245 : Arguments) (b245 : List Stmt) (s245 : Scope) (_ : hd.parts (hd.top 22) = (a245, b245, s245)) (a254 : Arguments) (b254 : List Stmt) (s254 : Scope) (_ : hd.parts (hd.top 25) = (a254, b254, s254)) (a261 : Arguments) (b261 : List Stmt) (s261 : Scope) (_ : hd.parts (hd.top 26) = (a261, b261, s261)) (a268 : Arguments) (b268 : List Stmt) (s268 : Scope) (_ : hd.parts (hd.top 27) = (a268, b268, s268)) (a275 : Arguments) (b275 : List Stmt) (s275 : Scope) (_ : hd.parts (hd.top 28) = (a275, b275, s275)) (a280 : Arguments) (b280 : List Stmt) (s280 : Scope) (_ : hd.parts (hd.top 29) = (a280, b280, s280)) => ((nat_lit 2, Obj.mk Value.none none (Data.dict #[DictEntry.mk (PyData.keyHash P (Str.ofString "type.__subclasses__.Exception.0")) (Value.str (Str.ofString "type.__subclasses__.Exception.0") 232) (Value.int 47 0), DictEntry.mk (PyData.keyHash P (Str.ofString "type.__subclasses__.Exception.n")) (Value.str (Str.ofString "type.__subclasses__.Exception.n") 233) (Value.int 1 0)] 2) #[]) ::
  (nat_lit 3, Obj.mk (Value.type "dict") none (Data.dict #[DictEntry.mk (PyData.keyHash P (Str.ofString "__name__")) (Value.str (Str.ofString "__name__") 165) (Value.str (Str.ofString "law_pc0126_01") 507), DictEntry.mk (PyData.keyHash P (Str.ofString "__doc__")) (Value.str (Str.ofString "__doc__") 166) Value.none, DictEntry.mk (PyData.keyHash P (Str.ofString "__package__")) (Value.str (Str.ofString "__package__") 167) Value.none, DictEntry.mk (PyData.keyHash P (Str.ofString "__loader__")) (Value.str (Str.ofString "__loader__") 168) (Value.builtin "__main__.__loader__#\x6fpaque"), DictEntry.mk (PyData.keyHash P (Str.ofString "__spec__")) (Value.str (Str.ofString "__spec__") 169) Value.none, DictEntry.mk (PyData.keyHash P (Str.ofString "__annotations__")) (Value.str (Str.ofString "__annotations__") 170) (Value.ref 6), DictEntry.mk (PyData.keyHash P (Str.ofString "__builtins__")) (Value.str (Str.ofString "__builtins__") 171) (Value.ref 4), DictEntry.mk (PyData.keyHash P (Str.ofString "__file__")) (Value.str (Str.ofString "__file__") 173) (Value.str (Str.ofString "/claim/cut.py") 172), DictEntry.mk (PyData.keyHash P (Str.ofString "__cached__")) (Value.str (Str.ofString "__cached__") 174) Value.none, DictEntry.mk (PyData.keyHash P (Str.ofString "_wall")) (Value.str (Str.ofString "_wall") 193) (Value.ref 21), DictEntry.mk (PyData.keyHash P (Str.ofString "LedgerError")) (Value.str (Str.ofString "LedgerError") 235) (Value.ref 47), DictEntry.mk (PyData.keyHash P (Str.ofString "CheckFault")) (Value.str (Str.ofString "CheckFault") 251) (Value.ref 60), DictEntry.mk (PyData.keyHash P (Str.ofString "FILLER")) (Value.str (Str.ofString "FILLER") 255) (Value.str (Str.ofString "FILLER") 254), DictEntry.mk (PyData.keyHash P (Str.ofString "Named")) (Value.str (Str.ofString "Named") 293) (Value.ref 86), DictEntry.mk (PyData.keyHash P (Str.ofString "Item")) (Value.str (Str.ofString "Item") 370) (Value.ref 135), DictEntry.mk (PyData.keyHash P (Str.ofString "Data")) (Value.str (Str.ofString "Data") 410) (Value.ref 163), DictEntry.mk (PyData.keyHash P (Str.ofString "records")) (Value.str (Str.ofString "records") 419) (Value.ref 174), DictEntry.mk (PyData.keyHash P (Str.ofString "items_under")) (Value.str (Str.ofString "items_under") 429) (Value.ref 181), DictEntry.mk (PyData.keyHash P (Str.ofString "all_items")) (Value.str (Str.ofString "all_items") 438) (Value.ref 188), DictEntry.mk (PyData.keyHash P (Str.ofString "items_around")) (Value.str (Str.ofString "items_around") 447) (Value.ref 195), DictEntry.mk (PyData.keyHash P (Str.ofString "root_of")) (Value.str (Str.ofString "root_of") 455) (Value.ref 202), DictEntry.mk (PyData.keyHash P (Str.ofString "names_around")) (Value.str (Str.ofString "names_around") 461) (Value.ref 207), DictEntry.mk (PyData.keyHash P (Str.ofString "file_of")) (Value.str (Str.ofString "file_of") 469) (Value.ref 212), DictEntry.mk (PyData.keyHash P (Str.ofString "leads_through")) (Value.str (Str.ofString "leads_through") 479) (Value.ref 219), DictEntry.mk (PyData.keyHash P (Str.ofString "only_one")) (Value.str (Str.ofString "only_one") 487) (Value.ref 226), DictEntry.mk (PyData.keyHash P (Str.ofString "find_item")) (Value.str (Str.ofString "find_item") 493) (Value.ref 231), DictEntry.mk (PyData.keyHash P (Str.ofString "find_named")) (Value.str (Str.ofString "find_named") 506) (Value.ref 238), DictEntry.mk (PyData.keyHash P (Str.ofString "_law_draw")) (Value.str (Str.ofString "_law_draw") 519) (Value.ref 245), DictEntry.mk (PyData.keyHash P (Str.ofString "_law_names")) (Value.str (Str.ofString "_law_names") 524) (Value.ref 246), DictEntry.mk (PyData.keyHash P (Str.ofString "_law_qualifiers")) (Value.str (Str.ofString "_law_qualifiers") 530) (Value.ref 247), DictEntry.mk (PyData.keyHash P (Str.ofString "_law_is_on")) (Value.str (Str.ofString "_law_is_on") 539) (Value.ref 254), DictEntry.mk (PyData.keyHash P (Str.ofString "_law_one")) (Value.str (Str.ofString "_law_one") 546) (Value.ref 261), DictEntry.mk (PyData.keyHash P (Str.ofString "_law_item")) (Value.str (Str.ofString "_law_item") 555) (Value.ref 268), DictEntry.mk (PyData.keyHash P (Str.ofString "_law_named")) (Value.str (Str.ofString "_law_named") 566) (Value.ref 275), DictEntry.mk (PyData.keyHash P (Str.ofString "law")) (Value.str (Str.ofString "law") 572) (Value.ref 280)] 35) #[]) ::
  (nat_lit 15, Obj.mk (Value.type "tuple") none (Data.seq #[]) #[]) ::
  (nat_lit 17, Obj.mk (Value.type "tuple") none (Data.seq #[Value.str (Str.ofString "k") 190]) #[]) ::
  (nat_lit 18, Obj.mk (Value.type "tuple") none (Data.seq #[]) #[]) ::
  (nat_lit 20, Obj.mk (Value.type "code") none (Data.fields #[Value.str (Str.ofString "_wall") 187, Value.str (Str.ofString "_wall") 188, Value.str (Str.ofString "/claim/cut.py") 189, Value.int 1 0, Value.int 1 0, Value.int 0 0, Value.int 0 0, Value.int 3 0, Value.ref 15, Value.bool true, Value.int 181 0, Value.ref 16, Value.none, Value.ref 17, Value.ref 18, Value.ref 19, Value.int 191 0, Value.int 1 0, Value.str (Str.ofString "/claim/cut.py") 192]) #[]) ::
  (nat_lit 21, Obj.mk (Value.type "function") (none) (Data.func (FuncData.mk (Str.ofString "_wall") (Str.ofString "_wall") a21 (FuncBody.stmts b21) s21 (3) ([]) (Value.none) (Value.none) (Value.none) (Value.str (Str.ofString "__main__") 164) (none) (Value.ref 20) (Value.none) (0))) (#[])) ::
  (nat_lit 22, Obj.mk (Value.type "tuple") none (Data.seq #[Value.type "Exception"]) #[]) ::
  (nat_lit 29, Obj.mk (Value.type "tuple") none (Data.seq #[Value.int 0 208, Value.int 0 209]) #[]) ::
  (nat_lit 30, Obj.mk (Value.type "tuple") none (Data.seq #[Value.ref 29]) #[]) ::
  (nat_lit 31, Obj.mk (Value.type "tuple") none (Data.seq #[]) #[]) ::
  (nat_lit 33, Obj.mk (Value.type "tuple") none (Data.seq #[Value.str (Str.ofString "self") 213, Value.str (Str.ofString "what") 214, Value.str (Str.ofString "at") 215]) #[]) ::
  (nat_lit 34, Obj.mk (Value.type "tuple") none (Data.seq #[]) #[]) ::
  (nat_lit 36, Obj.mk (Value.type "code") none (Data.fields #[Value.str (Str.ofString "__init__") 210, Value.str (Str.ofString "LedgerError.__init__") 211, Value.str (Str.ofString "/claim/cut.py") 212, Value.int 7 0, Value.int 3 0, Value.int 0 0, Value.int 0 0, Value.int 3 0, Value.ref 31, Value.bool true, Value.int 181 0, Value.ref 32, Value.none, Value.ref 33, Value.ref 34, Value.ref 35, Value.int 216 0, Value.int 7 0, Value.str (Str.ofString "/claim/cut.py") 217]) #[]) ::
  (nat_lit 37, Obj.mk (Value.type "function") (none) (Data.func (FuncData.mk (Str.ofString "__init__") (Str.ofString "LedgerError.__init__") a37 (FuncBody.stmts b37) s37 (3) ([]) (Value.ref 30) (Value.none) (Value.none) (Value.str (Str.ofString "ledgerspeak.errors") 194) (none) (Value.ref 36) (Value.none) (0))) (#[])) ::
  (nat_lit 38, Obj.mk (Value.type "tuple") none (Data.seq #[]) #[]) ::
  (nat_lit 40, Obj.mk (Value.type "tuple") none (Data.seq #[Value.str (Str.ofString "self") 222]) #[]) ::
  (nat_lit 41, Obj.mk (Value.type "tuple") none (Data.seq #[]) #[]) ::
  (nat_lit 43, Obj.mk (Value.type "code") none (Data.fields #[Value.str (Str.ofString "told") 219, Value.str (Str.ofString "LedgerError.told") 220, Value.str (Str.ofString "/claim/cut.py") 221, Value.int 12 0, Value.int 1 0, Value.int 0 0, Value.int 0 0, Value.int 3 0, Value.ref 38, Value.bool true, Value.int 181 0, Value.ref 39, Value.none, Value.ref 40, Value.ref 41, Value.ref 42, Value.int 223 0, Value.int 12 0, Value.str (Str.ofString "/claim/cut.py") 224]) #[]) ::
  (nat_lit 44, Obj.mk (Value.type "function") (none) (Data.func (FuncData.mk (Str.ofString "told") (Str.ofString "LedgerError.told") a44 (FuncBody.stmts b44) s44 (3) ([]) (Value.none) (Value.none) (Value.none) (Value.str (Str.ofString "ledgerspeak.errors") 194) (none) (Value.ref 43) (Value.none) (0))) (#[])) ::
  (nat_lit 45, Obj.mk (Value.type "tuple") none (Data.seq #[Value.str (Str.ofString "at") 226, Value.str (Str.ofString "what") 227]) #[]) ::
  (nat_lit 46, Obj.mk (Value.type "dict") none (Data.dict #[DictEntry.mk (PyData.keyHash P (Str.ofString "__module__")) (Value.str (Str.ofString "__module__") 203) (Value.str (Str.ofString "ledgerspeak.errors") 194), DictEntry.mk (PyData.keyHash P (Str.ofString "__firstlineno__")) (Value.str (Str.ofString "__firstlineno__") 207) (Value.int 5 206), DictEntry.mk (PyData.keyHash P (Str.ofString "__init__")) (Value.str (Str.ofString "__init__") 218) (Value.ref 37), DictEntry.mk (PyData.keyHash P (Str.ofString "told")) (Value.str (Str.ofString "told") 225) (Value.ref 44), DictEntry.mk (PyData.keyHash P (Str.ofString "__static_attributes__")) (Value.str (Str.ofString "__static_attributes__") 228) (Value.ref 45), DictEntry.mk (PyData.keyHash P (Str.ofString "__weakref__")) (Value.str (Str.ofString "__weakref__") 230) (Value.ref 48), DictEntry.mk (PyData.keyHash P (Str.ofString "__doc__")) (Value.str (Str.ofString "__doc__") 231) Value.none] 3) #[]) ::
  (nat_lit 47, Obj.mk (Value.type "type") none (Data.cls (ClassData.mk (Str.ofString "LedgerError") [Value.type "Exception"] [Value.ref 47, Value.type "Exception", Value.type "BaseException", Value.type "object"] 46 (Str.ofString "LedgerError") true [] [Value.ref 60] false none false)) #[some (Value.ref 22), none, some (Value.str (Str.ofString "LedgerError") 196), some (Value.str (Str.ofString "LedgerError") 204), some (Value.builtin "Exception.__new__"), some (Value.bool true)]) ::
  (nat_lit 48, Obj.mk (Value.type "getset_descriptor") none (Data.fields #[Value.str (Str.ofString "__weakref__") 229, Value.ref 47, Value.builtin "ExceptionGroup.__weakref__", Value.none]) #[]) ::
  (nat_lit 51, Obj.mk (Value.type "tuple") none (Data.seq #[Value.ref 47]) #[]) ::
  (nat_lit 58, Obj.mk (Value.type "tuple") none (Data.seq #[]) #[]) ::
  (nat_lit 59, Obj.mk (Value.type "dict") none (Data.dict #[DictEntry.mk (PyData.keyHash P (Str.ofString "__module__")) (Value.str (Str.ofString "__module__") 243) (Value.str (Str.ofString "ledgerspeak.errors") 194), DictEntry.mk (PyData.keyHash P (Str.ofString "__firstlineno__")) (Value.str (Str.ofString "__firstlineno__") 247) (Value.int 14 246), DictEntry.mk (PyData.keyHash P (Str.ofString "__static_attributes__")) (Value.str (Str.ofString "__static_attributes__") 248) (Value.ref 58), DictEntry.mk (PyData.keyHash P (Str.ofString "__doc__")) (Value.str (Str.ofString "__doc__") 249) Value.none] 2) #[]) ::
  (nat_lit 60, Obj.mk (Value.type "type") none (Data.cls (ClassData.mk (Str.ofString "CheckFault") [Value.ref 47] [Value.ref 60, Value.ref 47, Value.type "Exception", Value.type "BaseException", Value.type "object"] 59 (Str.ofString "CheckFault") true [] [] false none false)) #[some (Value.ref 51), none, some (Value.str (Str.ofString "CheckFault") 236), some (Value.str (Str.ofString "CheckFault") 244), some (Value.builtin "Exception.__new__"), some (Value.bool true)]) ::
  (nat_lit 70, Obj.mk (Value.type "tuple") none (Data.seq #[]) #[]) ::
  (nat_lit 72, Obj.mk (Value.type "tuple") none (Data.seq #[Value.str (Str.ofString "self") 271, Value.str (Str.ofString "name") 272, Value.str (Str.ofString "rows") 273]) #[]) ::
  (nat_lit 73, Obj.mk (Value.type "tuple") none (Data.seq #[]) #[]) ::
  (nat_lit 75, Obj.mk (Value.type "code") none (Data.fields #[Value.str (Str.ofString "__init__") 268, Value.str (Str.ofString "Named.__init__") 269, Value.str (Str.ofString "/claim/cut.py") 270, Value.int 20 0, Value.int 3 0, Value.int 0 0, Value.int 0 0, Value.int 3 0, Value.ref 70, Value.bool true, Value.int 181 0, Value.ref 71, Value.none, Value.ref 72, Value.ref 73, Value.ref 74, Value.int 274 0, Value.int 20 0, Value.str (Str.ofString "/claim/cut.py") 275]) #[]) ::
  (nat_lit 76, Obj.mk (Value.type "function") (none) (Data.func (FuncData.mk (Str.ofString "__init__") (Str.ofString "Named.__init__") a76 (FuncBody.stmts b76) s76 (3) ([]) (Value.none) (Value.none) (Value.none) (Value.str (Str.ofString "ledgerspeak.items") 252) (none) (Value.ref 75) (Value.none) (0))) (#[])) ::
  (nat_lit 77, Obj.mk (Value.type "tuple") none (Data.seq #[]) #[]) ::
  (nat_lit 79, Obj.mk (Value.type "tuple") none (Data.seq #[Value.str (Str.ofString "self") 280]) #[]) ::
  (nat_lit 80, Obj.mk (Value.type "tuple") none (Data.seq #[]) #[]) ::
  (nat_lit 82, Obj.mk (Value.type "code") none (Data.fields #[Value.str (Str.ofString "told") 277, Value.str (Str.ofString "Named.told") 278, Value.str (Str.ofString "/claim/cut.py") 279, Value.int 24 0, Value.int 1 0, Value.int 0 0, Value.int 0 0, Value.int 3 0, Value.ref 77, Value.bool true, Value.int 181 0, Value.ref 78, Value.none, Value.ref 79, Value.ref 80, Value.ref 81, Value.int 281 0, Value.int 24 0, Value.str (Str.ofString "/claim/cut.py") 282]) #[]) ::
  (nat_lit 83, Obj.mk (Value.type "function") (none) (Data.func (FuncData.mk (Str.ofString "told") (Str.ofString "Named.told") a83 (FuncBody.stmts b83) s83 (3) ([]) (Value.none) (Value.none) (Value.none) (Value.str (Str.ofString "ledgerspeak.items") 252) (none) (Value.ref 82) (Value.none) (0))) (#[])) ::
  (nat_lit 84, Obj.mk (Value.type "tuple") none (Data.seq #[Value.str (Str.ofString "name") 284, Value.str (Str.ofString "rows") 285]) #[]) ::
  (nat_lit 85, Obj.mk (Value.type "dict") none (Data.dict #[DictEntry.mk (PyData.keyHash P (Str.ofString "__module__")) (Value.str (Str.ofString "__module__") 263) (Value.str (Str.ofString "ledgerspeak.items") 252), DictEntry.mk (PyData.keyHash P (Str.ofString "__firstlineno__")) (Value.str (Str.ofString "__firstlineno__") 267) (Value.int 18 266), DictEntry.mk (PyData.keyHash P (Str.ofString "__init__")) (Value.str (Str.ofString "__init__") 276) (Value.ref 76), DictEntry.mk (PyData.keyHash P (Str.ofString "told")) (Value.str (Str.ofString "told") 283) (Value.ref 83), DictEntry.mk (PyData.keyHash P (Str.ofString "__static_attributes__")) (Value.str (Str.ofString "__static_attributes__") 286) (Value.ref 84), DictEntry.mk (PyData.keyHash P (Str.ofString "__dict__")) (Value.str (Str.ofString "__dict__") 288) (Value.ref 87), DictEntry.mk (PyData.keyHash P (Str.ofString "__weakref__")) (Value.str (Str.ofString "__weakref__") 290) (Value.ref 88), DictEntry.mk (PyData.keyHash P (Str.ofString "__doc__")) (Value.str (Str.ofString "__doc__") 291) Value.none] 4) #[]) ::
  (nat_lit 86, Obj.mk (Value.type "type") none (Data.cls (ClassData.mk (Str.ofString "Named") [Value.type "object"] [Value.ref 86, Value.type "object"] 85 (Str.ofString "Named") true [] [] false none false)) #[none, none, some (Value.str (Str.ofString "Named") 256), some (Value.str (Str.ofString "Named") 264), some (Value.builtin "object.__new__"), some (Value.bool true)]) ::
  (nat_lit 87, Obj.mk (Value.type "getset_descriptor") none (Data.fields #[Value.str (Str.ofString "__dict__") 287, Value.ref 86, Value.builtin "function.__dict__", Value.builtin "function.__dict__#set"]) #[]) ::
  (nat_lit 88, Obj.mk (Value.type "getset_descriptor") none (Data.fields #[Value.str (Str.ofString "__weakref__") 289, Value.ref 86, Value.builtin "ExceptionGroup.__weakref__", Value.none]) #[]) ::
  (nat_lit 98, Obj.mk (Value.type "tuple") none (Data.seq #[]) #[]) ::
  (nat_lit 100, Obj.mk (Value.type "tuple") none (Data.seq #[Value.str (Str.ofString "self") 309, Value.str (Str.ofString "level") 310, Value.str (Str.ofString "name") 311]) #[]) ::
  (nat_lit 101, Obj.mk (Value.type "tuple") none (Data.seq #[]) #[]) ::
  (nat_lit 103, Obj.mk (Value.type "code") none (Data.fields #[Value.str (Str.ofString "__init__") 306, Value.str (Str.ofString "Item.__init__") 307, Value.str (Str.ofString "/claim/cut.py") 308, Value.int 28 0, Value.int 3 0, Value.int 0 0, Value.int 0 0, Value.int 3 0, Value.ref 98, Value.bool true, Value.int 181 0, Value.ref 99, Value.none, Value.ref 100, Value.ref 101, Value.ref 102, Value.int 312 0, Value.int 28 0, Value.str (Str.ofString "/claim/cut.py") 313]) #[]) ::
  (nat_lit 104, Obj.mk (Value.type "function") (none) (Data.func (FuncData.mk (Str.ofString "__init__") (Str.ofString "Item.__init__") a104 (FuncBody.stmts b104) s104 (3) ([]) (Value.none) (Value.none) (Value.none) (Value.str (Str.ofString "ledgerspeak.items") 252) (none) (Value.ref 103) (Value.none) (0))) (#[])) ::
  (nat_lit 105, Obj.mk (Value.type "tuple") none (Data.seq #[]) #[]) ::
  (nat_lit 107, Obj.mk (Value.type "tuple") none (Data.seq #[Value.str (Str.ofString "self") 318, Value.str (Str.ofString "kid") 319]) #[]) ::
  (nat_lit 108, Obj.mk (Value.type "tuple") none (Data.seq #[]) #[]) ::
  (nat_lit 110, Obj.mk (Value.type "code") none (Data.fields #[Value.str (Str.ofString "add") 315, Value.str (Str.ofString "Item.add") 316, Value.str (Str.ofString "/claim/cut.py") 317, Value.int 49 0, Value.int 2 0, Value.int 0 0, Value.int 0 0, Value.int 3 0, Value.ref 105, Value.bool true, Value.int 181 0, Value.ref 106, Value.none, Value.ref 107, Value.ref 108, Value.ref 109, Value.int 320 0, Value.int 49 0, Value.str (Str.ofString "/claim/cut.py") 321]) #[]) ::
  (nat_lit 111, Obj.mk (Value.type "function") (none) (Data.func (FuncData.mk (Str.ofString "add") (Str.ofString "Item.add") a111 (FuncBody.stmts b111) s111 (3) ([]) (Value.none) (Value.none) (Value.none) (Value.str (Str.ofString "ledgerspeak.items") 252) (none) (Value.ref 110) (Value.none) (0))) (#[])) ::
  (nat_lit 112, Obj.mk (Value.type "tuple") none (Data.seq #[]) #[]) ::
  (nat_lit 114, Obj.mk (Value.type "tuple") none (Data.seq #[Value.str (Str.ofString "self") 326]) #[]) ::
  (nat_lit 115, Obj.mk (Value.type "tuple") none (Data.seq #[]) #[]) ::
  (nat_lit 117, Obj.mk (Value.type "code") none (Data.fields #[Value.str (Str.ofString "count") 323, Value.str (Str.ofString "Item.count") 324, Value.str (Str.ofString "/claim/cut.py") 325, Value.int 53 0, Value.int 1 0, Value.int 0 0, Value.int 0 0, Value.int 3 0, Value.ref 112, Value.bool true, Value.int 181 0, Value.ref 113, Value.none, Value.ref 114, Value.ref 115, Value.ref 116, Value.int 327 0, Value.int 53 0, Value.str (Str.ofString "/claim/cut.py") 328]) #[]) ::
  (nat_lit 118, Obj.mk (Value.type "function") (none) (Data.func (FuncData.mk (Str.ofString "count") (Str.ofString "Item.count") a118 (FuncBody.stmts b118) s118 (3) ([]) (Value.none) (Value.none) (Value.none) (Value.str (Str.ofString "ledgerspeak.items") 252) (none) (Value.ref 117) (Value.none) (0))) (#[])) ::
  (nat_lit 119, Obj.mk (Value.type "tuple") none (Data.seq #[]) #[]) ::
  (nat_lit 121, Obj.mk (Value.type "tuple") none (Data.seq #[Value.str (Str.ofString "self") 333]) #[]) ::
  (nat_lit 122, Obj.mk (Value.type "tuple") none (Data.seq #[]) #[]) ::
  (nat_lit 124, Obj.mk (Value.type "code") none (Data.fields #[Value.str (Str.ofString "clauses") 330, Value.str (Str.ofString "Item.clauses") 331, Value.str (Str.ofString "/claim/cut.py") 332, Value.int 56 0, Value.int 1 0, Value.int 0 0, Value.int 0 0, Value.int 3 0, Value.ref 119, Value.bool true, Value.int 181 0, Value.ref 120, Value.none, Value.ref 121, Value.ref 122, Value.ref 123, Value.int 334 0, Value.int 56 0, Value.str (Str.ofString "/claim/cut.py") 335]) #[]) ::
  (nat_lit 125, Obj.mk (Value.type "function") (none) (Data.func (FuncData.mk (Str.ofString "clauses") (Str.ofString "Item.clauses") a125 (FuncBody.stmts b125) s125 (3) ([]) (Value.none) (Value.none) (Value.none) (Value.str (Str.ofString "ledgerspeak.items") 252) (none) (Value.ref 124) (Value.none) (0))) (#[])) ::
  (nat_lit 126, Obj.mk (Value.type "tuple") none (Data.seq #[]) #[]) ::
  (nat_lit 128, Obj.mk (Value.type "tuple") none (Data.seq #[Value.str (Str.ofString "self") 340]) #[]) ::
  (nat_lit 129, Obj.mk (Value.type "tuple") none (Data.seq #[]) #[]) ::
  (nat_lit 131, Obj.mk (Value.type "code") none (Data.fields #[Value.str (Str.ofString "told") 337, Value.str (Str.ofString "Item.told") 338, Value.str (Str.ofString "/claim/cut.py") 339, Value.int 59 0, Value.int 1 0, Value.int 0 0, Value.int 0 0, Value.int 3 0, Value.ref 126, Value.bool true, Value.int 181 0, Value.ref 127, Value.none, Value.ref 128, Value.ref 129, Value.ref 130, Value.int 341 0, Value.int 59 0, Value.str (Str.ofString "/claim/cut.py") 342]) #[]) ::
  (nat_lit 132, Obj.mk (Value.type "function") (none) (Data.func (FuncData.mk (Str.ofString "told") (Str.ofString "Item.told") a132 (FuncBody.stmts b132) s132 (3) ([]) (Value.none) (Value.none) (Value.none) (Value.str (Str.ofString "ledgerspeak.items") 252) (none) (Value.ref 131) (Value.none) (0))) (#[])) ::
  (nat_lit 133, Obj.mk (Value.type "tuple") none (Data.seq #[Value.str (Str.ofString "base") 344, Value.str (Str.ofString "conditions") 345, Value.str (Str.ofString "is_blank_zero") 346, Value.str (Str.ofString "is_justified") 347, Value.str (Str.ofString "is_separate") 348, Value.str (Str.ofString "kids") 349, Value.str (Str.ofString "level") 350, Value.str (Str.ofString "name") 351, Value.str (Str.ofString "occurs") 352, Value.str (Str.ofString "offset") 353, Value.str (Str.ofString "parent") 354, Value.str (Str.ofString "picture_text") 355, Value.str (Str.ofString "redefines") 356, Value.str (Str.ofString "renames") 357, Value.str (Str.ofString "shape") 358, Value.str (Str.ofString "sign") 359, Value.str (Str.ofString "size") 360, Value.str (Str.ofString "usage") 361, Value.str (Str.ofString "value") 362]) #[]) ::
  (nat_lit 134, Obj.mk (Value.type "dict") none (Data.dict #[DictEntry.mk (PyData.keyHash P (Str.ofString "__module__")) (Value.str (Str.ofString "__module__") 301) (Value.str (Str.ofString "ledgerspeak.items") 252), DictEntry.mk (PyData.keyHash P (Str.ofString "__firstlineno__")) (Value.str (Str.ofString "__firstlineno__") 305) (Value.int 26 304), DictEntry.mk (PyData.keyHash P (Str.ofString "__init__")) (Value.str (Str.ofString "__init__") 314) (Value.ref 104), DictEntry.mk (PyData.keyHash P (Str.ofString "add")) (Value.str (Str.ofString "add") 322) (Value.ref 111), DictEntry.mk (PyData.keyHash P (Str.ofString "count")) (Value.str (Str.ofString "count") 329) (Value.ref 118), DictEntry.mk (PyData.keyHash P (Str.ofString "clauses")) (Value.str (Str.ofString "clauses") 336) (Value.ref 125), DictEntry.mk (PyData.keyHash P (Str.ofString "told")) (Value.str (Str.ofString "told") 343) (Value.ref 132), DictEntry.mk (PyData.keyHash P (Str.ofString "__static_attributes__")) (Value.str (Str.ofString "__static_attributes__") 363) (Value.ref 133), DictEntry.mk (PyData.keyHash P (Str.ofString "__dict__")) (Value.str (Str.ofString "__dict__") 365) (Value.ref 136), DictEntry.mk (PyData.keyHash P (Str.ofString "__weakref__")) (Value.str (Str.ofString "__weakref__") 367) (Value.ref 137), DictEntry.mk (PyData.keyHash P (Str.ofString "__doc__")) (Value.str (Str.ofString "__doc__") 368) Value.none] 4) #[]) ::
  (nat_lit 135, Obj.mk (Value.type "type") none (Data.cls (ClassData.mk (Str.ofString "Item") [Value.type "object"] [Value.ref 135, Value.type "object"] 134 (Str.ofString "Item") true [] [] false none false)) #[none, none, some (Value.str (Str.ofString "Item") 294), some (Value.str (Str.ofString "Item") 302), some (Value.builtin "object.__new__"), some (Value.bool true)]) ::
  (nat_lit 136, Obj.mk (Value.type "getset_descriptor") none (Data.fields #[Value.str (Str.ofString "__dict__") 364, Value.ref 135, Value.builtin "function.__dict__", Value.builtin "function.__dict__#set"]) #[]) ::
  (nat_lit 137, Obj.mk (Value.type "getset_descriptor") none (Data.fields #[Value.str (Str.ofString "__weakref__") 366, Value.ref 135, Value.builtin "ExceptionGroup.__weakref__", Value.none]) #[]) ::
  (nat_lit 147, Obj.mk (Value.type "tuple") none (Data.seq #[]) #[]) ::
  (nat_lit 149, Obj.mk (Value.type "tuple") none (Data.seq #[Value.str (Str.ofString "self") 386]) #[]) ::
  (nat_lit 150, Obj.mk (Value.type "tuple") none (Data.seq #[]) #[]) ::
  (nat_lit 152, Obj.mk (Value.type "code") none (Data.fields #[Value.str (Str.ofString "__init__") 383, Value.str (Str.ofString "Data.__init__") 384, Value.str (Str.ofString "/claim/cut.py") 385, Value.int 63 0, Value.int 1 0, Value.int 0 0, Value.int 0 0, Value.int 3 0, Value.ref 147, Value.bool true, Value.int 181 0, Value.ref 148, Value.none, Value.ref 149, Value.ref 150, Value.ref 151, Value.int 387 0, Value.int 63 0, Value.str (Str.ofString "/claim/cut.py") 388]) #[]) ::
  (nat_lit 153, Obj.mk (Value.type "function") (none) (Data.func (FuncData.mk (Str.ofString "__init__") (Str.ofString "Data.__init__") a153 (FuncBody.stmts b153) s153 (3) ([]) (Value.none) (Value.none) (Value.none) (Value.str (Str.ofString "ledgerspeak.items") 252) (none) (Value.ref 152) (Value.none) (0))) (#[])) ::
  (nat_lit 154, Obj.mk (Value.type "tuple") none (Data.seq #[]) #[]) ::
  (nat_lit 156, Obj.mk (Value.type "tuple") none (Data.seq #[Value.str (Str.ofString "self") 393]) #[]) ::
  (nat_lit 157, Obj.mk (Value.type "tuple") none (Data.seq #[]) #[]) ::
  (nat_lit 159, Obj.mk (Value.type "code") none (Data.fields #[Value.str (Str.ofString "told") 390, Value.str (Str.ofString "Data.told") 391, Value.str (Str.ofString "/claim/cut.py") 392, Value.int 71 0, Value.int 1 0, Value.int 0 0, Value.int 0 0, Value.int 3 0, Value.ref 154, Value.bool true, Value.int 181 0, Value.ref 155, Value.none, Value.ref 156, Value.ref 157, Value.ref 158, Value.int 394 0, Value.int 71 0, Value.str (Str.ofString "/claim/cut.py") 395]) #[]) ::
  (nat_lit 160, Obj.mk (Value.type "function") (none) (Data.func (FuncData.mk (Str.ofString "told") (Str.ofString "Data.told") a160 (FuncBody.stmts b160) s160 (3) ([]) (Value.none) (Value.none) (Value.none) (Value.str (Str.ofString "ledgerspeak.items") 252) (none) (Value.ref 159) (Value.none) (0))) (#[])) ::
  (nat_lit 161, Obj.mk (Value.type "tuple") none (Data.seq #[Value.str (Str.ofString "files") 397, Value.str (Str.ofString "indexes") 398, Value.str (Str.ofString "linkage") 399, Value.str (Str.ofString "size") 400, Value.str (Str.ofString "sorts") 401, Value.str (Str.ofString "working") 402]) #[]) ::
  (nat_lit 162, Obj.mk (Value.type "dict") none (Data.dict #[DictEntry.mk (PyData.keyHash P (Str.ofString "__module__")) (Value.str (Str.ofString "__module__") 378) (Value.str (Str.ofString "ledgerspeak.items") 252), DictEntry.mk (PyData.keyHash P (Str.ofString "__firstlineno__")) (Value.str (Str.ofString "__firstlineno__") 382) (Value.int 61 381), DictEntry.mk (PyData.keyHash P (Str.ofString "__init__")) (Value.str (Str.ofString "__init__") 389) (Value.ref 153), DictEntry.mk (PyData.keyHash P (Str.ofString "told")) (Value.str (Str.ofString "told") 396) (Value.ref 160), DictEntry.mk (PyData.keyHash P (Str.ofString "__static_attributes__")) (Value.str (Str.ofString "__static_attributes__") 403) (Value.ref 161), DictEntry.mk (PyData.keyHash P (Str.ofString "__dict__")) (Value.str (Str.ofString "__dict__") 405) (Value.ref 164), DictEntry.mk (PyData.keyHash P (Str.ofString "__weakref__")) (Value.str (Str.ofString "__weakref__") 407) (Value.ref 165), DictEntry.mk (PyData.keyHash P (Str.ofString "__doc__")) (Value.str (Str.ofString "__doc__") 408) Value.none] 4) #[]) ::
  (nat_lit 163, Obj.mk (Value.type "type") none (Data.cls (ClassData.mk (Str.ofString "Data") [Value.type "object"] [Value.ref 163, Value.type "object"] 162 (Str.ofString "Data") true [] [] false none false)) #[none, none, some (Value.str (Str.ofString "Data") 371), some (Value.str (Str.ofString "Data") 379), some (Value.builtin "object.__new__"), some (Value.bool true)]) ::
  (nat_lit 164, Obj.mk (Value.type "getset_descriptor") none (Data.fields #[Value.str (Str.ofString "__dict__") 404, Value.ref 163, Value.builtin "function.__dict__", Value.builtin "function.__dict__#set"]) #[]) ::
  (nat_lit 165, Obj.mk (Value.type "getset_descriptor") none (Data.fields #[Value.str (Str.ofString "__weakref__") 406, Value.ref 163, Value.builtin "ExceptionGroup.__weakref__", Value.none]) #[]) ::
  (nat_lit 168, Obj.mk (Value.type "tuple") none (Data.seq #[]) #[]) ::
  (nat_lit 170, Obj.mk (Value.type "tuple") none (Data.seq #[Value.str (Str.ofString "data") 414, Value.str (Str.ofString "found") 415, Value.str (Str.ofString "name") 416]) #[]) ::
  (nat_lit 171, Obj.mk (Value.type "tuple") none (Data.seq #[]) #[]) ::
  (nat_lit 173, Obj.mk (Value.type "code") none (Data.fields #[Value.str (Str.ofString "records") 411, Value.str (Str.ofString "records") 412, Value.str (Str.ofString "/claim/cut.py") 413, Value.int 73 0, Value.int 1 0, Value.int 0 0, Value.int 0 0, Value.int 3 0, Value.ref 168, Value.bool true, Value.int 181 0, Value.ref 169, Value.none, Value.ref 170, Value.ref 171, Value.ref 172, Value.int 417 0, Value.int 73 0, Value.str (Str.ofString "/claim/cut.py") 418]) #[]) ::
  (nat_lit 174, Obj.mk (Value.type "function") (none) (Data.func (FuncData.mk (Str.ofString "records") (Str.ofString "records") a174 (FuncBody.stmts b174) s174 (3) ([]) (Value.none) (Value.none) (Value.none) (Value.str (Str.ofString "ledgerspeak.items") 252) (none) (Value.ref 173) (Value.none) (0))) (#[])) ::
  (nat_lit 175, Obj.mk (Value.type "tuple") none (Data.seq #[]) #[]) ::
  (nat_lit 177, Obj.mk (Value.type "tuple") none (Data.seq #[Value.str (Str.ofString "item") 423, Value.str (Str.ofString "found") 424, Value.str (Str.ofString "line") 425, Value.str (Str.ofString "one") 426]) #[]) ::
  (nat_lit 178, Obj.mk (Value.type "tuple") none (Data.seq #[]) #[]) ::
  (nat_lit 180, Obj.mk (Value.type "code") none (Data.fields #[Value.str (Str.ofString "items_under") 420, Value.str (Str.ofString "items_under") 421, Value.str (Str.ofString "/claim/cut.py") 422, Value.int 78 0, Value.int 1 0, Value.int 0 0, Value.int 0 0, Value.int 3 0, Value.ref 175, Value.bool true, Value.int 181 0, Value.ref 176, Value.none, Value.ref 177, Value.ref 178, Value.ref 179, Value.int 427 0, Value.int 78 0, Value.str (Str.ofString "/claim/cut.py") 428]) #[]) ::
  (nat_lit 181, Obj.mk (Value.type "function") (none) (Data.func (FuncData.mk (Str.ofString "items_under") (Str.ofString "items_under") a181 (FuncBody.stmts b181) s181 (3) ([]) (Value.none) (Value.none) (Value.none) (Value.str (Str.ofString "ledgerspeak.items") 252) (none) (Value.ref 180) (Value.none) (0))) (#[])) ::
  (nat_lit 182, Obj.mk (Value.type "tuple") none (Data.seq #[]) #[]) ::
  (nat_lit 184, Obj.mk (Value.type "tuple") none (Data.seq #[Value.str (Str.ofString "data") 433, Value.str (Str.ofString "found") 434, Value.str (Str.ofString "root") 435]) #[]) ::
  (nat_lit 185, Obj.mk (Value.type "tuple") none (Data.seq #[]) #[]) ::
  (nat_lit 187, Obj.mk (Value.type "code") none (Data.fields #[Value.str (Str.ofString "all_items") 430, Value.str (Str.ofString "all_items") 431, Value.str (Str.ofString "/claim/cut.py") 432, Value.int 86 0, Value.int 1 0, Value.int 0 0, Value.int 0 0, Value.int 3 0, Value.ref 182, Value.bool true, Value.int 181 0, Value.ref 183, Value.none, Value.ref 184, Value.ref 185, Value.ref 186, Value.int 436 0, Value.int 86 0, Value.str (Str.ofString "/claim/cut.py") 437]) #[]) ::
  (nat_lit 188, Obj.mk (Value.type "function") (none) (Data.func (FuncData.mk (Str.ofString "all_items") (Str.ofString "all_items") a188 (FuncBody.stmts b188) s188 (3) ([]) (Value.none) (Value.none) (Value.none) (Value.str (Str.ofString "ledgerspeak.items") 252) (none) (Value.ref 187) (Value.none) (0))) (#[])) ::
  (nat_lit 189, Obj.mk (Value.type "tuple") none (Data.seq #[]) #[]) ::
  (nat_lit 191, Obj.mk (Value.type "tuple") none (Data.seq #[Value.str (Str.ofString "item") 442, Value.str (Str.ofString "found") 443, Value.str (Str.ofString "above") 444]) #[]) ::
  (nat_lit 192, Obj.mk (Value.type "tuple") none (Data.seq #[]) #[]) ::
  (nat_lit 194, Obj.mk (Value.type "code") none (Data.fields #[Value.str (Str.ofString "items_around") 439, Value.str (Str.ofString "items_around") 440, Value.str (Str.ofString "/claim/cut.py") 441, Value.int 91 0, Value.int 1 0, Value.int 0 0, Value.int 0 0, Value.int 3 0, Value.ref 189, Value.bool true, Value.int 181 0, Value.ref 190, Value.none, Value.ref 191, Value.ref 192, Value.ref 193, Value.int 445 0, Value.int 91 0, Value.str (Str.ofString "/claim/cut.py") 446]) #[]) ::
  (nat_lit 195, Obj.mk (Value.type "function") (none) (Data.func (FuncData.mk (Str.ofString "items_around") (Str.ofString "items_around") a195 (FuncBody.stmts b195) s195 (3) ([]) (Value.none) (Value.none) (Value.none) (Value.str (Str.ofString "ledgerspeak.items") 252) (none) (Value.ref 194) (Value.none) (0))) (#[])) ::
  (nat_lit 196, Obj.mk (Value.type "tuple") none (Data.seq #[]) #[]) ::
  (nat_lit 198, Obj.mk (Value.type "tuple") none (Data.seq #[Value.str (Str.ofString "item") 451, Value.str (Str.ofString "around") 452]) #[]) ::
  (nat_lit 199, Obj.mk (Value.type "tuple") none (Data.seq #[]) #[]) ::
  (nat_lit 201, Obj.mk (Value.type "code") none (Data.fields #[Value.str (Str.ofString "root_of") 448, Value.str (Str.ofString "root_of") 449, Value.str (Str.ofString "/claim/cut.py") 450, Value.int 98 0, Value.int 1 0, Value.int 0 0, Value.int 0 0, Value.int 3 0, Value.ref 196, Value.bool true, Value.int 181 0, Value.ref 197, Value.none, Value.ref 198, Value.ref 199, Value.ref 200, Value.int 453 0, Value.int 98 0, Value.str (Str.ofString "/claim/cut.py") 454]) #[]) ::
  (nat_lit 202, Obj.mk (Value.type "function") (none) (Data.func (FuncData.mk (Str.ofString "root_of") (Str.ofString "root_of") a202 (FuncBody.stmts b202) s202 (3) ([]) (Value.none) (Value.none) (Value.none) (Value.str (Str.ofString "ledgerspeak.items") 252) (none) (Value.ref 201) (Value.none) (0))) (#[])) ::
  (nat_lit 203, Obj.mk (Value.type "tuple") none (Data.seq #[]) #[]) ::
  (nat_lit 206, Obj.mk (Value.type "code") none (Data.fields #[Value.str (Str.ofString "names_around") 456, Value.str (Str.ofString "names_around") 457, Value.str (Str.ofString "/claim/cut.py") 458, Value.int 101 0, Value.int 1 0, Value.int 0 0, Value.int 0 0, Value.int 3 0, Value.ref 203, Value.bool true, Value.int 181 0, Value.ref 204, Value.none, Value.none, Value.none, Value.ref 205, Value.int 459 0, Value.int 101 0, Value.str (Str.ofString "/claim/cut.py") 460]) #[]) ::
  (nat_lit 207, Obj.mk (Value.type "function") (none) (Data.func (FuncData.mk (Str.ofString "names_around") (Str.ofString "names_around") a207 (FuncBody.stmts b207) s207 (3) ([]) (Value.none) (Value.none) (Value.none) (Value.str (Str.ofString "ledgerspeak.items") 252) (none) (Value.ref 206) (Value.none) (0))) (#[])) ::
  (nat_lit 208, Obj.mk (Value.type "tuple") none (Data.seq #[]) #[]) ::
  (nat_lit 211, Obj.mk (Value.type "code") none (Data.fields #[Value.str (Str.ofString "file_of") 464, Value.str (Str.ofString "file_of") 465, Value.str (Str.ofString "/claim/cut.py") 466, Value.int 104 0, Value.int 2 0, Value.int 0 0, Value.int 0 0, Value.int 3 0, Value.ref 208, Value.bool true, Value.int 181 0, Value.ref 209, Value.none, Value.none, Value.none, Value.ref 210, Value.int 467 0, Value.int 104 0, Value.str (Str.ofString "/claim/cut.py") 468]) #[]) ::
  (nat_lit 212, Obj.mk (Value.type "function") (none) (Data.func (FuncData.mk (Str.ofString "file_of") (Str.ofString "file_of") a212 (FuncBody.stmts b212) s212 (3) ([]) (Value.none) (Value.none) (Value.none) (Value.str (Str.ofString "ledgerspeak.references") 462) (none) (Value.ref 211) (Value.none) (0))) (#[])) ::
  (nat_lit 213, Obj.mk (Value.type "tuple") none (Data.seq #[]) #[]) ::
  (nat_lit 215, Obj.mk (Value.type "tuple") none (Data.seq #[Value.str (Str.ofString "around") 473, Value.str (Str.ofString "qualifiers") 474, Value.str (Str.ofString "at") 475, Value.str (Str.ofString "name") 476]) #[]) ::
  (nat_lit 216, Obj.mk (Value.type "tuple") none (Data.seq #[]) #[]) ::
  (nat_lit 218, Obj.mk (Value.type "code") none (Data.fields #[Value.str (Str.ofString "leads_through") 470, Value.str (Str.ofString "leads_through") 471, Value.str (Str.ofString "/claim/cut.py") 472, Value.int 110 0, Value.int 2 0, Value.int 0 0, Value.int 0 0, Value.int 3 0, Value.ref 213, Value.bool true, Value.int 181 0, Value.ref 214, Value.none, Value.ref 215, Value.ref 216, Value.ref 217, Value.int 477 0, Value.int 110 0, Value.str (Str.ofString "/claim/cut.py") 478]) #[]) ::
  (nat_lit 219, Obj.mk (Value.type "function") (none) (Data.func (FuncData.mk (Str.ofString "leads_through") (Str.ofString "leads_through") a219 (FuncBody.stmts b219) s219 (3) ([]) (Value.none) (Value.none) (Value.none) (Value.str (Str.ofString "ledgerspeak.references") 462) (none) (Value.ref 218) (Value.none) (0))) (#[])) ::
  (nat_lit 220, Obj.mk (Value.type "tuple") none (Data.seq #[]) #[]) ::
  (nat_lit 222, Obj.mk (Value.type "tuple") none (Data.seq #[Value.str (Str.ofString "found") 483, Value.str (Str.ofString "name") 484]) #[]) ::
  (nat_lit 223, Obj.mk (Value.type "tuple") none (Data.seq #[]) #[]) ::
  (nat_lit 225, Obj.mk (Value.type "code") none (Data.fields #[Value.str (Str.ofString "only_one") 480, Value.str (Str.ofString "only_one") 481, Value.str (Str.ofString "/claim/cut.py") 482, Value.int 116 0, Value.int 2 0, Value.int 0 0, Value.int 0 0, Value.int 3 0, Value.ref 220, Value.bool true, Value.int 181 0, Value.ref 221, Value.none, Value.ref 222, Value.ref 223, Value.ref 224, Value.int 485 0, Value.int 116 0, Value.str (Str.ofString "/claim/cut.py") 486]) #[]) ::
  (nat_lit 226, Obj.mk (Value.type "function") (none) (Data.func (FuncData.mk (Str.ofString "only_one") (Str.ofString "only_one") a226 (FuncBody.stmts b226) s226 (3) ([]) (Value.none) (Value.none) (Value.none) (Value.str (Str.ofString "ledgerspeak.references") 462) (none) (Value.ref 225) (Value.none) (0))) (#[])) ::
  (nat_lit 227, Obj.mk (Value.type "tuple") none (Data.seq #[]) #[]) ::
  (nat_lit 230, Obj.mk (Value.type "code") none (Data.fields #[Value.str (Str.ofString "find_item") 488, Value.str (Str.ofString "find_item") 489, Value.str (Str.ofString "/claim/cut.py") 490, Value.int 122 0, Value.int 3 0, Value.int 0 0, Value.int 0 0, Value.int 3 0, Value.ref 227, Value.bool true, Value.int 181 0, Value.ref 228, Value.none, Value.none, Value.none, Value.ref 229, Value.int 491 0, Value.int 122 0, Value.str (Str.ofString "/claim/cut.py") 492]) #[]) ::
  (nat_lit 231, Obj.mk (Value.type "function") (none) (Data.func (FuncData.mk (Str.ofString "find_item") (Str.ofString "find_item") a231 (FuncBody.stmts b231) s231 (3) ([]) (Value.none) (Value.none) (Value.none) (Value.str (Str.ofString "ledgerspeak.references") 462) (none) (Value.ref 230) (Value.none) (0))) (#[])) ::
  (nat_lit 232, Obj.mk (Value.type "tuple") none (Data.seq #[]) #[]) ::
  (nat_lit 234, Obj.mk (Value.type "tuple") none (Data.seq #[Value.str (Str.ofString "data") 497, Value.str (Str.ofString "name") 498, Value.str (Str.ofString "qualifiers") 499, Value.str (Str.ofString "found") 500, Value.str (Str.ofString "item") 501, Value.str (Str.ofString "around") 502, Value.str (Str.ofString "named") 503]) #[]) ::
  (nat_lit 235, Obj.mk (Value.type "tuple") none (Data.seq #[]) #[]) ::
  (nat_lit 237, Obj.mk (Value.type "code") none (Data.fields #[Value.str (Str.ofString "find_named") 494, Value.str (Str.ofString "find_named") 495, Value.str (Str.ofString "/claim/cut.py") 496, Value.int 125 0, Value.int 3 0, Value.int 0 0, Value.int 0 0, Value.int 3 0, Value.ref 232, Value.bool true, Value.int 181 0, Value.ref 233, Value.none, Value.ref 234, Value.ref 235, Value.ref 236, Value.int 504 0, Value.int 125 0, Value.str (Str.ofString "/claim/cut.py") 505]) #[]) ::
  (nat_lit 238, Obj.mk (Value.type "function") (none) (Data.func (FuncData.mk (Str.ofString "find_named") (Str.ofString "find_named") a238 (FuncBody.stmts b238) s238 (3) ([]) (Value.none) (Value.none) (Value.none) (Value.str (Str.ofString "ledgerspeak.references") 462) (none) (Value.ref 237) (Value.none) (0))) (#[])) ::
  (nat_lit 239, Obj.mk (Value.type "tuple") none (Data.seq #[]) #[]) ::
  (nat_lit 241, Obj.mk (Value.type "tuple") none (Data.seq #[Value.str (Str.ofString "tape") 512, Value.str (Str.ofString "limit") 513, Value.str (Str.ofString "cells") 514, Value.str (Str.ofString "spot") 515, Value.str (Str.ofString "cell") 516]) #[]) ::
  (nat_lit 242, Obj.mk (Value.type "tuple") none (Data.seq #[]) #[]) ::
  (nat_lit 244, Obj.mk (Value.type "code") none (Data.fields #[Value.str (Str.ofString "_law_draw") 509, Value.str (Str.ofString "_law_draw") 510, Value.str (Str.ofString "/claim/cut.py") 511, Value.int 134 0, Value.int 2 0, Value.int 0 0, Value.int 0 0, Value.int 3 0, Value.ref 239, Value.bool true, Value.int 181 0, Value.ref 240, Value.none, Value.ref 241, Value.ref 242, Value.ref 243, Value.int 517 0, Value.int 134 0, Value.str (Str.ofString "/claim/cut.py") 518]) #[]) ::
  (nat_lit 245, Obj.mk (Value.type "function") (none) (Data.func (FuncData.mk (Str.ofString "_law_draw") (Str.ofString "_law_draw") a245 (FuncBody.stmts b245) s245 (3) ([]) (Value.none) (Value.none) (Value.none) (Value.str (Str.ofString "law_pc0126_01") 507) (none) (Value.ref 244) (Value.none) (0))) (#[])) ::
  (nat_lit 246, Obj.mk (Value.type "tuple") none (Data.seq #[Value.str (Str.ofString "A") 520, Value.str (Str.ofString "B") 521, Value.str (Str.ofString "C") 522, Value.str (Str.ofString "FILLER") 523]) #[]) ::
  (nat_lit 247, Obj.mk (Value.type "tuple") none (Data.seq #[Value.str (Str.ofString "A") 525, Value.str (Str.ofString "B") 526, Value.str (Str.ofString "C") 527, Value.str (Str.ofString "F") 528, Value.str (Str.ofString "G") 529]) #[]) ::
  (nat_lit 248, Obj.mk (Value.type "tuple") none (Data.seq #[]) #[]) ::
  (nat_lit 250, Obj.mk (Value.type "tuple") none (Data.seq #[Value.str (Str.ofString "way") 534, Value.str (Str.ofString "qualifiers") 535, Value.str (Str.ofString "wanted") 536]) #[]) ::
  (nat_lit 251, Obj.mk (Value.type "tuple") none (Data.seq #[]) #[]) ::
  (nat_lit 253, Obj.mk (Value.type "code") none (Data.fields #[Value.str (Str.ofString "_law_is_on") 531, Value.str (Str.ofString "_law_is_on") 532, Value.str (Str.ofString "/claim/cut.py") 533, Value.int 143 0, Value.int 2 0, Value.int 0 0, Value.int 0 0, Value.int 3 0, Value.ref 248, Value.bool true, Value.int 181 0, Value.ref 249, Value.none, Value.ref 250, Value.ref 251, Value.ref 252, Value.int 537 0, Value.int 143 0, Value.str (Str.ofString "/claim/cut.py") 538]) #[]) ::
  (nat_lit 254, Obj.mk (Value.type "function") (none) (Data.func (FuncData.mk (Str.ofString "_law_is_on") (Str.ofString "_law_is_on") a254 (FuncBody.stmts b254) s254 (3) ([]) (Value.none) (Value.none) (Value.none) (Value.str (Str.ofString "law_pc0126_01") 507) (none) (Value.ref 253) (Value.none) (0))) (#[])) ::
  (nat_lit 255, Obj.mk (Value.type "tuple") none (Data.seq #[]) #[]) ::
  (nat_lit 257, Obj.mk (Value.type "tuple") none (Data.seq #[Value.str (Str.ofString "spots") 543]) #[]) ::
  (nat_lit 258, Obj.mk (Value.type "tuple") none (Data.seq #[]) #[]) ::
  (nat_lit 260, Obj.mk (Value.type "code") none (Data.fields #[Value.str (Str.ofString "_law_one") 540, Value.str (Str.ofString "_law_one") 541, Value.str (Str.ofString "/claim/cut.py") 542, Value.int 149 0, Value.int 1 0, Value.int 0 0, Value.int 0 0, Value.int 3 0, Value.ref 255, Value.bool true, Value.int 181 0, Value.ref 256, Value.none, Value.ref 257, Value.ref 258, Value.ref 259, Value.int 544 0, Value.int 149 0, Value.str (Str.ofString "/claim/cut.py") 545]) #[]) ::
  (nat_lit 261, Obj.mk (Value.type "function") (none) (Data.func (FuncData.mk (Str.ofString "_law_one") (Str.ofString "_law_one") a261 (FuncBody.stmts b261) s261 (3) ([]) (Value.none) (Value.none) (Value.none) (Value.str (Str.ofString "law_pc0126_01") 507) (none) (Value.ref 260) (Value.none) (0))) (#[])) ::
  (nat_lit 262, Obj.mk (Value.type "tuple") none (Data.seq #[]) #[]) ::
  (nat_lit 264, Obj.mk (Value.type "tuple") none (Data.seq #[Value.str (Str.ofString "data") 550, Value.str (Str.ofString "who") 551, Value.str (Str.ofString "qualifiers") 552]) #[]) ::
  (nat_lit 265, Obj.mk (Value.type "tuple") none (Data.seq #[]) #[]) ::
  (nat_lit 267, Obj.mk (Value.type "code") none (Data.fields #[Value.str (Str.ofString "_law_item") 547, Value.str (Str.ofString "_law_item") 548, Value.str (Str.ofString "/claim/cut.py") 549, Value.int 151 0, Value.int 3 0, Value.int 0 0, Value.int 0 0, Value.int 3 0, Value.ref 262, Value.bool true, Value.int 181 0, Value.ref 263, Value.none, Value.ref 264, Value.ref 265, Value.ref 266, Value.int 553 0, Value.int 151 0, Value.str (Str.ofString "/claim/cut.py") 554]) #[]) ::
  (nat_lit 268, Obj.mk (Value.type "function") (none) (Data.func (FuncData.mk (Str.ofString "_law_item") (Str.ofString "_law_item") a268 (FuncBody.stmts b268) s268 (3) ([]) (Value.none) (Value.none) (Value.none) (Value.str (Str.ofString "law_pc0126_01") 507) (none) (Value.ref 267) (Value.none) (0))) (#[])) ::
  (nat_lit 269, Obj.mk (Value.type "tuple") none (Data.seq #[]) #[]) ::
  (nat_lit 271, Obj.mk (Value.type "tuple") none (Data.seq #[Value.str (Str.ofString "data") 559, Value.str (Str.ofString "who") 560, Value.str (Str.ofString "qualifiers") 561, Value.str (Str.ofString "item") 562, Value.str (Str.ofString "named") 563]) #[]) ::
  (nat_lit 272, Obj.mk (Value.type "tuple") none (Data.seq #[]) #[]) ::
  (nat_lit 274, Obj.mk (Value.type "code") none (Data.fields #[Value.str (Str.ofString "_law_named") 556, Value.str (Str.ofString "_law_named") 557, Value.str (Str.ofString "/claim/cut.py") 558, Value.int 156 0, Value.int 3 0, Value.int 0 0, Value.int 0 0, Value.int 3 0, Value.ref 269, Value.bool true, Value.int 181 0, Value.ref 270, Value.none, Value.ref 271, Value.ref 272, Value.ref 273, Value.int 564 0, Value.int 156 0, Value.str (Str.ofString "/claim/cut.py") 565]) #[]) ::
  (nat_lit 275, Obj.mk (Value.type "function") (none) (Data.func (FuncData.mk (Str.ofString "_law_named") (Str.ofString "_law_named") a275 (FuncBody.stmts b275) s275 (3) ([]) (Value.none) (Value.none) (Value.none) (Value.str (Str.ofString "law_pc0126_01") 507) (none) (Value.ref 274) (Value.none) (0))) (#[])) ::
  (nat_lit 276, Obj.mk (Value.type "tuple") none (Data.seq #[]) #[]) ::
  (nat_lit 279, Obj.mk (Value.type "code") none (Data.fields #[Value.str (Str.ofString "law") 567, Value.str (Str.ofString "law") 568, Value.str (Str.ofString "/claim/cut.py") 569, Value.int 162 0, Value.int 1 0, Value.int 0 0, Value.int 0 0, Value.int 3 0, Value.ref 276, Value.bool true, Value.int 181 0, Value.ref 277, Value.none, Value.none, Value.none, Value.ref 278, Value.int 570 0, Value.int 162 0, Value.str (Str.ofString "/claim/cut.py") 571]) #[]) ::
  (nat_lit 280, Obj.mk (Value.type "function") (none) (Data.func (FuncData.mk (Str.ofString "law") (Str.ofString "law") a280 (FuncBody.stmts b280) s280 (3) ([]) (Value.none) (Value.none) (Value.none) (Value.str (Str.ofString "law_pc0126_01") 507) (none) (Value.ref 279) (Value.none) (0))) (#[])) :: [] : Frag)) _ _ _ rfl _ _ _ rfl _ _ _ rfl _ _ _ rfl _ _ _ rfl _ _ _ rfl _ _ _ rfl _ _ _ rfl _ _ _ rfl _ _ _ rfl _ _ _ rfl _ _ _ rfl _ _ _ rfl _ _ _ rfl _ _ _ rfl _ _ _ rfl _ _ _ rfl _ _ _ rfl _ _ _ rfl _ _ _ rfl _ _ _ rfl _ _ _ rfl _ _ _ rfl _ _ _ rfl _ _ _ rfl _ _ _ rfl _ _ _ rfl _ _ _ rfl _ _ _ rfl
noncomputable abbrev hd.H : Hook := kHook hd.heap_39 [2, 3, 15, 17, 18, 20, 21, 22, 29, 30, 31, 33, 34, 36, 37, 38, 40, 41, 43, 44, 45, 46, 47, 48, 51, 58, 59, 60, 70, 72, 73, 75, 76, 77, 79, 80, 82, 83, 84, 85, 86, 87, 88, 98, 100, 101, 103, 104, 105, 107, 108, 110, 111, 112, 114, 115, 117, 118, 119, 121, 122, 124, 125, 126, 128, 129, 131, 132, 133, 134, 135, 136, 137, 147, 149, 150, 152, 153, 154, 156, 157, 159, 160, 161, 162, 163, 164, 165, 168, 170, 171, 173, 174, 175, 177, 178, 180, 181, 182, 184, 185, 187, 188, 189, 191, 192, 194, 195, 196, 198, 199, 201, 202, 203, 206, 207, 208, 211, 212, 213, 215, 216, 218, 219, 220, 222, 223, 225, 226, 227, 230, 231, 232, 234, 235, 237, 238, 239, 241, 242, 244, 245, 246, 247, 248, 250, 251, 253, 254, 255, 257, 258, 260, 261, 262, 264, 265, 267, 268, 269, 271, 272, 274, 275, 276, 279, 280] (fun _ => by kernel_rfl)
end
section
open PySem PySem.W PyProof.Rows
set_option linter.unusedVariables false
set_option maxRecDepth 100000
noncomputable abbrev hd.pg : Program := PySem.Challenge.rw_pc0126_01.row.prog
noncomputable abbrev hd.bd : List Stmt := behindTheImports hd.pg
noncomputable abbrev hd.env : Env := { scope := hd.pg.main.scope, locals := mainNs, globals := mainNs, cells := [], code := .ref 13, frame := some 14 }
noncomputable def hd.hPRE : Params → Heap := fun P => (fun (a21 : Arguments) (b21 : List Stmt) (s21 : Scope) (_ : hd.parts (hd.top 0) = (a21, b21, s21)) (a37 : Arguments) (b37 : List Stmt) (s37 : Scope) (_ : hd.parts (hd.sub 2 0) = (a37, b37, s37)) (a44 : Arguments) (b44 : List Stmt) (s44 : Scope) (_ : hd.parts (hd.sub 2 1) = (a44, b44, s44)) (a76 : Arguments) (b76 : List Stmt) (s76 : Scope) (_ : hd.parts (hd.sub 6 0) = (a76, b76, s76)) (a83 : Arguments) (b83 : List Stmt) (s83 : Scope) (_ : hd.parts (hd.sub 6 1) = (a83, b83, s83)) (a104 : Arguments) (b104 : List Stmt) (s104 : Scope) (_ : hd.parts (hd.sub 7 0) = (a104, b104, s104)) (a111 : Arguments) (b111 : List Stmt) (s111 : Scope) (_ : hd.parts (hd.sub 7 1) = (a111, b111, s111)) (a118 : Arguments) (b118 : List Stmt) (s118 : Scope) (_ : hd.parts (hd.sub 7 2) = (a118, b118, s118)) (a125 : Arguments) (b125 : List Stmt) (s125 : Scope) (_ : hd.parts (hd.sub 7 3) = (a125, b125, s125)) (a132 : Arguments) (b132 : List Stmt) (s132 : Scope) (_ : hd.parts (hd.sub 7 4) = (a132, b132, s132)) (a153 : Arguments) (b153 : List Stmt) (s153 : Scope) (_ : hd.parts (hd.sub 8 0) = (a153, b153, s153)) (a160 : Arguments) (b160 : List Stmt) (s160 : Scope) (_ : hd.parts (hd.sub 8 1) = (a160, b160, s160)) (a174 : Arguments) (b174 : List Stmt) (s174 : Scope) (_ : hd.parts (hd.top 9) = (a174, b174, s174)) (a181 : Arguments) (b181 : List Stmt) (s181 : Scope) (_ : hd.parts (hd.top 10) = (a181, b181, s181)) (a188 : Arguments) (b188 : List Stmt) (s188 : Scope) (_ : hd.parts (hd.top 11) = (a188, b188, s188)) (a195 : Arguments) (b195 : List Stmt) (s195 : Scope) (_ : hd.parts (hd.top 12) = (a195, b195, s195)) (a202 : Arguments) (b202 : List Stmt) (s202 : Scope) (_ : hd.parts (hd.top 13) = (a202, b202, s202)) (a207 : Arguments) (b207 : List Stmt) (s207 : Scope) (_ : hd.parts (hd.top 14) = (a207, b207, s207)) (a212 : Arguments) (b212 : List Stmt) (s212 : Scope) (_ : hd.parts (hd.top 16) = (a212, b212, s212)) (a219 : Arguments) (b219 : List Stmt) (s219 : Scope) (_ : hd.parts (hd.top 17) = (a219, b219, s219)) (a226 : Arguments) (b226 : List Stmt) (s226 : Scope) (_ : hd.parts (hd.top 18) = (a226, b226, s226)) (a231 : Arguments) (b231 : List Stmt) (s231 : Scope) (_ : hd.parts (hd.top 19) = (a231, b231, s231)) (a238 : Arguments) (b238 : List Stmt) (s238 : Scope) (_ : hd.parts (hd.top 20) = (a238, b238, s238)) (a245 : Arguments) (b245 : List Stmt) (s245 : Scope) (_ : hd.parts (hd.top 22) = (a245, b245, s245)) (a254 : Arguments) (b254 : List Stmt) (s254 : Scope) (_ : hd.parts (hd.top 25) = (a254, b254, s254)) (a261 : Arguments) (b261 : List Stmt) (s261 : Scope) (_ : hd.parts (hd.top 26) = (a261, b261, s261)) (a268 : Arguments) (b268 : List Stmt) (s268 : Scope) (_ : hd.parts (hd.top 27) = (a268, b268, s268)) (a275 : Arguments) (b275 : List Stmt) (s275 : Scope) (_ : hd.parts (hd.top 28) = (a275, b275, s275)) (a280 : Arguments) (b280 : List Stmt) (s280 : Scope) (_ : hd.parts (hd.top 29) = (a280, b280, s280)) => Heap.mk (Array.mk [boot_o_0 P,
  boot_o_1 P,
  boot_o_2 P,
  boot_o_3 P,
  boot_o_4 P,
  boot_o_5 P,
  boot_o_6 P,
  boot_o_7 P,
  boot_o_8 P,
  boot_o_9 P,
  boot_o_10 P,
  Obj.mk (Value.type "tuple") none (Data.seq #[]) #[],
  Obj.mk Value.none none (Data.fields #[]) #[],
  Obj.mk (Value.type "code") none (Data.fields #[Value.str (Str.ofString "<module>") 182, Value.str (Str.ofString "<module>") 183, Value.str (Str.ofString "/claim/cut.py") 184, Value.int 1 0, Value.int 0 0, Value.int 0 0, Value.int 0 0, Value.int 0 0, Value.ref 11, Value.bool false, Value.int 181 0, Value.ref 12, Value.none, Value.none, Value.none, Value.none, Value.int 185 0, Value.int 1 0, Value.str (Str.ofString "/claim/cut.py") 186]) #[],
  Obj.mk (Value.type "frame") none Data.plain #[some (Value.ref 13), some (Value.ref 3), some (Value.ref 3), none, some (Value.str (Str.ofString "__main__") 164), none, some (Value.ref 0)]]) (Life.mk [] [] [] 0 [] [] false #[] [] 0 false false false 0 [2000, 10, 10] false 0 true [] [] 0 false)) _ _ _ rfl _ _ _ rfl _ _ _ rfl _ _ _ rfl _ _ _ rfl _ _ _ rfl _ _ _ rfl _ _ _ rfl _ _ _ rfl _ _ _ rfl _ _ _ rfl _ _ _ rfl _ _ _ rfl _ _ _ rfl _ _ _ rfl _ _ _ rfl _ _ _ rfl _ _ _ rfl _ _ _ rfl _ _ _ rfl _ _ _ rfl _ _ _ rfl _ _ _ rfl _ _ _ rfl _ _ _ rfl _ _ _ rfl _ _ _ rfl _ _ _ rfl _ _ _ rfl
noncomputable def hd.hM4 : Params → Heap := fun P => (fun (a21 : Arguments) (b21 : List Stmt) (s21 : Scope) (_ : hd.parts (hd.top 0) = (a21, b21, s21)) (a37 : Arguments) (b37 : List Stmt) (s37 : Scope) (_ : hd.parts (hd.sub 2 0) = (a37, b37, s37)) (a44 : Arguments) (b44 : List Stmt) (s44 : Scope) (_ : hd.parts (hd.sub 2 1) = (a44, b44, s44)) (a76 : Arguments) (b76 : List Stmt) (s76 : Scope) (_ : hd.parts (hd.sub 6 0) = (a76, b76, s76)) (a83 : Arguments) (b83 : List Stmt) (s83 : Scope) (_ : hd.parts (hd.sub 6 1) = (a83, b83, s83)) (a104 : Arguments) (b104 : List Stmt) (s104 : Scope) (_ : hd.parts (hd.sub 7 0) = (a104, b104, s104)) (a111 : Arguments) (b111 : List Stmt) (s111 : Scope) (_ : hd.parts (hd.sub 7 1) = (a111, b111, s111)) (a118 : Arguments) (b118 : List Stmt) (s118 : Scope) (_ : hd.parts (hd.sub 7 2) = (a118, b118, s118)) (a125 : Arguments) (b125 : List Stmt) (s125 : Scope) (_ : hd.parts (hd.sub 7 3) = (a125, b125, s125)) (a132 : Arguments) (b132 : List Stmt) (s132 : Scope) (_ : hd.parts (hd.sub 7 4) = (a132, b132, s132)) (a153 : Arguments) (b153 : List Stmt) (s153 : Scope) (_ : hd.parts (hd.sub 8 0) = (a153, b153, s153)) (a160 : Arguments) (b160 : List Stmt) (s160 : Scope) (_ : hd.parts (hd.sub 8 1) = (a160, b160, s160)) (a174 : Arguments) (b174 : List Stmt) (s174 : Scope) (_ : hd.parts (hd.top 9) = (a174, b174, s174)) (a181 : Arguments) (b181 : List Stmt) (s181 : Scope) (_ : hd.parts (hd.top 10) = (a181, b181, s181)) (a188 : Arguments) (b188 : List Stmt) (s188 : Scope) (_ : hd.parts (hd.top 11) = (a188, b188, s188)) (a195 : Arguments) (b195 : List Stmt) (s195 : Scope) (_ : hd.parts (hd.top 12) = (a195, b195, s195)) (a202 : Arguments) (b202 : List Stmt) (s202 : Scope) (_ : hd.parts (hd.top 13) = (a202, b202, s202)) (a207 : Arguments) (b207 : List Stmt) (s207 : Scope) (_ : hd.parts (hd.top 14) = (a207, b207, s207)) (a212 : Arguments) (b212 : List Stmt) (s212 : Scope) (_ : hd.parts (hd.top 16) = (a212, b212, s212)) (a219 : Arguments) (b219 : List Stmt) (s219 : Scope) (_ : hd.parts (hd.top 17) = (a219, b219, s219)) (a226 : Arguments) (b226 : List Stmt) (s226 : Scope) (_ : hd.parts (hd.top 18) = (a226, b226, s226)) (a231 : Arguments) (b231 : List Stmt) (s231 : Scope) (_ : hd.parts (hd.top 19) = (a231, b231, s231)) (a238 : Arguments) (b238 : List Stmt) (s238 : Scope) (_ : hd.parts (hd.top 20) = (a238, b238, s238)) (a245 : Arguments) (b245 : List Stmt) (s245 : Scope) (_ : hd.parts (hd.top 22) = (a245, b245, s245)) (a254 : Arguments) (b254 : List Stmt) (s254 : Scope) (_ : hd.parts (hd.top 25) = (a254, b254, s254)) (a261 : Arguments) (b261 : List Stmt) (s261 : Scope) (_ : hd.parts (hd.top 26) = (a261, b261, s261)) (a268 : Arguments) (b268 : List Stmt) (s268 : Scope) (_ : hd.parts (hd.top 27) = (a268, b268, s268)) (a275 : Arguments) (b275 : List Stmt) (s275 : Scope) (_ : hd.parts (hd.top 28) = (a275, b275, s275)) (a280 : Arguments) (b280 : List Stmt) (s280 : Scope) (_ : hd.parts (hd.top 29) = (a280, b280, s280)) => Heap.mk (Array.mk [boot_o_0 P,
  boot_o_1 P,
  Obj.mk Value.none none (Data.dict #[DictEntry.mk (PyData.keyHash P (Str.ofString "type.__subclasses__.Exception.0")) (Value.str (Str.ofString "type.__subclasses__.Exception.0") 232) (Value.int 47 0), DictEntry.mk (PyData.keyHash P (Str.ofString "type.__subclasses__.Exception.n")) (Value.str (Str.ofString "type.__subclasses__.Exception.n") 233) (Value.int 1 0)] 2) #[],
  Obj.mk (Value.type "dict") none (Data.dict #[DictEntry.mk (PyData.keyHash P (Str.ofString "__name__")) (Value.str (Str.ofString "__name__") 165) (Value.str (Str.ofString "ledgerspeak.errors") 194), DictEntry.mk (PyData.keyHash P (Str.ofString "__doc__")) (Value.str (Str.ofString "__doc__") 166) Value.none, DictEntry.mk (PyData.keyHash P (Str.ofString "__package__")) (Value.str (Str.ofString "__package__") 167) Value.none, DictEntry.mk (PyData.keyHash P (Str.ofString "__loader__")) (Value.str (Str.ofString "__loader__") 168) (Value.builtin "__main__.__loader__#\x6fpaque"), DictEntry.mk (PyData.keyHash P (Str.ofString "__spec__")) (Value.str (Str.ofString "__spec__") 169) Value.none, DictEntry.mk (PyData.keyHash P (Str.ofString "__annotations__")) (Value.str (Str.ofString "__annotations__") 170) (Value.ref 6), DictEntry.mk (PyData.keyHash P (Str.ofString "__builtins__")) (Value.str (Str.ofString "__builtins__") 171) (Value.ref 4), DictEntry.mk (PyData.keyHash P (Str.ofString "__file__")) (Value.str (Str.ofString "__file__") 173) (Value.str (Str.ofString "/claim/cut.py") 172), DictEntry.mk (PyData.keyHash P (Str.ofString "__cached__")) (Value.str (Str.ofString "__cached__") 174) Value.none, DictEntry.mk (PyData.keyHash P (Str.ofString "_wall")) (Value.str (Str.ofString "_wall") 193) (Value.ref 21), DictEntry.mk (PyData.keyHash P (Str.ofString "LedgerError")) (Value.str (Str.ofString "LedgerError") 235) (Value.ref 47), DictEntry.mk (PyData.keyHash P (Str.ofString "CheckFault")) (Value.str (Str.ofString "CheckFault") 251) (Value.ref 60)] 12) #[],
  boot_o_4 P,
  boot_o_5 P,
  boot_o_6 P,
  boot_o_7 P,
  boot_o_8 P,
  boot_o_9 P,
  boot_o_10 P,
  Obj.mk (Value.type "tuple") none (Data.seq #[]) #[],
  Obj.mk Value.none none (Data.fields #[Value.int 1 0, Value.int 0 0, Value.ref 20, Value.int 5 0, Value.int 0 0, Value.ref 27, Value.int 14 0, Value.int 0 0, Value.ref 56]) #[],
  Obj.mk (Value.type "code") none (Data.fields #[Value.str (Str.ofString "<module>") 182, Value.str (Str.ofString "<module>") 183, Value.str (Str.ofString "/claim/cut.py") 184, Value.int 1 0, Value.int 0 0, Value.int 0 0, Value.int 0 0, Value.int 0 0, Value.ref 11, Value.bool false, Value.int 181 0, Value.ref 12, Value.none, Value.none, Value.none, Value.none, Value.int 185 0, Value.int 1 0, Value.str (Str.ofString "/claim/cut.py") 186]) #[],
  Obj.mk (Value.type "frame") none Data.plain #[some (Value.ref 13), some (Value.ref 3), some (Value.ref 3), none, some (Value.str (Str.ofString "__main__") 164), none, some (Value.ref 0)],
  Obj.mk (Value.type "tuple") none (Data.seq #[]) #[],
  Obj.mk Value.none none (Data.fields #[]) #[],
  Obj.mk (Value.type "tuple") none (Data.seq #[Value.str (Str.ofString "k") 190]) #[],
  Obj.mk (Value.type "tuple") none (Data.seq #[]) #[],
  Obj.mk (Value.none) (none) (Data.func (FuncData.mk (Str.ofString "_wall") (Str.ofString "_wall") a21 (FuncBody.stmts b21) s21 (0) ([]) (Value.none) (Value.none) (Value.none) (Value.none) (none) (Value.none) (Value.none) (0))) (#[]),
  Obj.mk (Value.type "code") none (Data.fields #[Value.str (Str.ofString "_wall") 187, Value.str (Str.ofString "_wall") 188, Value.str (Str.ofString "/claim/cut.py") 189, Value.int 1 0, Value.int 1 0, Value.int 0 0, Value.int 0 0, Value.int 3 0, Value.ref 15, Value.bool true, Value.int 181 0, Value.ref 16, Value.none, Value.ref 17, Value.ref 18, Value.ref 19, Value.int 191 0, Value.int 1 0, Value.str (Str.ofString "/claim/cut.py") 192]) #[],
  Obj.mk (Value.type "function") (none) (Data.func (FuncData.mk (Str.ofString "_wall") (Str.ofString "_wall") a21 (FuncBody.stmts b21) s21 (3) ([]) (Value.none) (Value.none) (Value.none) (Value.str (Str.ofString "__main__") 164) (none) (Value.ref 20) (Value.none) (0))) (#[]),
  Obj.mk (Value.type "tuple") none (Data.seq #[Value.type "Exception"]) #[],
  Obj.mk (Value.type "builtin_function_or_method") none (Data.fields #[Value.builtin "type.__prepare__", Value.type "type"]) #[],
  Obj.mk (Value.type "dict") none (Data.dict #[DictEntry.mk (PyData.keyHash P (Str.ofString "__module__")) (Value.str (Str.ofString "__module__") 203) (Value.str (Str.ofString "ledgerspeak.errors") 194), DictEntry.mk (PyData.keyHash P (Str.ofString "__qualname__")) (Value.str (Str.ofString "__qualname__") 205) (Value.str (Str.ofString "LedgerError") 204), DictEntry.mk (PyData.keyHash P (Str.ofString "__firstlineno__")) (Value.str (Str.ofString "__firstlineno__") 207) (Value.int 5 206), DictEntry.mk (PyData.keyHash P (Str.ofString "__init__")) (Value.str (Str.ofString "__init__") 218) (Value.ref 37), DictEntry.mk (PyData.keyHash P (Str.ofString "told")) (Value.str (Str.ofString "told") 225) (Value.ref 44), DictEntry.mk (PyData.keyHash P (Str.ofString "__static_attributes__")) (Value.str (Str.ofString "__static_attributes__") 228) (Value.ref 45)] 6) #[],
  Obj.mk (Value.type "tuple") none (Data.seq #[]) #[],
  Obj.mk Value.none none (Data.fields #[Value.int 7 0, Value.int 4 0, Value.ref 36, Value.int 12 0, Value.int 4 0, Value.ref 43]) #[],
  Obj.mk (Value.type "code") none (Data.fields #[Value.str (Str.ofString "LedgerError") 198, Value.str (Str.ofString "LedgerError") 199, Value.str (Str.ofString "/claim/cut.py") 200, Value.int 5 0, Value.int 0 0, Value.int 0 0, Value.int 0 0, Value.int 0 0, Value.ref 25, Value.bool false, Value.int 181 0, Value.ref 26, Value.none, Value.none, Value.none, Value.none, Value.int 201 0, Value.int 5 0, Value.str (Str.ofString "/claim/cut.py") 202]) #[],
  Obj.mk (Value.type "frame") none Data.plain #[some (Value.ref 27), some (Value.ref 3), some (Value.ref 24), none, some (Value.str (Str.ofString "ledgerspeak.errors") 194), none, some (Value.ref 0)],
  Obj.mk (Value.type "tuple") none (Data.seq #[Value.int 0 208, Value.int 0 209]) #[],
  Obj.mk (Value.type "tuple") none (Data.seq #[Value.ref 29]) #[],
  Obj.mk (Value.type "tuple") none (Data.seq #[]) #[],
  Obj.mk Value.none none (Data.fields #[]) #[],
  Obj.mk (Value.type "tuple") none (Data.seq #[Value.str (Str.ofString "self") 213, Value.str (Str.ofString "what") 214, Value.str (Str.ofString "at") 215]) #[],
  Obj.mk (Value.type "tuple") none (Data.seq #[]) #[],
  Obj.mk (Value.none) (none) (Data.func (FuncData.mk (Str.ofString "__init__") (Str.ofString "LedgerError.__init__") a37 (FuncBody.stmts b37) s37 (0) ([]) (Value.none) (Value.none) (Value.none) (Value.none) (none) (Value.none) (Value.none) (0))) (#[]),
  Obj.mk (Value.type "code") none (Data.fields #[Value.str (Str.ofString "__init__") 210, Value.str (Str.ofString "LedgerError.__init__") 211, Value.str (Str.ofString "/claim/cut.py") 212, Value.int 7 0, Value.int 3 0, Value.int 0 0, Value.int 0 0, Value.int 3 0, Value.ref 31, Value.bool true, Value.int 181 0, Value.ref 32, Value.none, Value.ref 33, Value.ref 34, Value.ref 35, Value.int 216 0, Value.int 7 0, Value.str (Str.ofString "/claim/cut.py") 217]) #[],
  Obj.mk (Value.type "function") (none) (Data.func (FuncData.mk (Str.ofString "__init__") (Str.ofString "LedgerError.__init__") a37 (FuncBody.stmts b37) s37 (3) ([]) (Value.ref 30) (Value.none) (Value.none) (Value.str (Str.ofString "ledgerspeak.errors") 194) (none) (Value.ref 36) (Value.none) (0))) (#[]),
  Obj.mk (Value.type "tuple") none (Data.seq #[]) #[],
  Obj.mk Value.none none (Data.fields #[]) #[],
  Obj.mk (Value.type "tuple") none (Data.seq #[Value.str (Str.ofString "self") 222]) #[],
  Obj.mk (Value.type "tuple") none (Data.seq #[]) #[],
  Obj.mk (Value.none) (none) (Data.func (FuncData.mk (Str.ofString "told") (Str.ofString "LedgerError.told") a44 (FuncBody.stmts b44) s44 (0) ([]) (Value.none) (Value.none) (Value.none) (Value.none) (none) (Value.none) (Value.none) (0))) (#[]),
  Obj.mk (Value.type "code") none (Data.fields #[Value.str (Str.ofString "told") 219, Value.str (Str.ofString "LedgerError.told") 220, Value.str (Str.ofString "/claim/cut.py") 221, Value.int 12 0, Value.int 1 0, Value.int 0 0, Value.int 0 0, Value.int 3 0, Value.ref 38, Value.bool true, Value.int 181 0, Value.ref 39, Value.none, Value.ref 40, Value.ref 41, Value.ref 42, Value.int 223 0, Value.int 12 0, Value.str (Str.ofString "/claim/cut.py") 224]) #[],
  Obj.mk (Value.type "function") (none) (Data.func (FuncData.mk (Str.ofString "told") (Str.ofString "LedgerError.told") a44 (FuncBody.stmts b44) s44 (3) ([]) (Value.none) (Value.none) (Value.none) (Value.str (Str.ofString "ledgerspeak.errors") 194) (none) (Value.ref 43) (Value.none) (0))) (#[]),
  Obj.mk (Value.type "tuple") none (Data.seq #[Value.str (Str.ofString "at") 226, Value.str (Str.ofString "what") 227]) #[],
  Obj.mk (Value.type "dict") none (Data.dict #[DictEntry.mk (PyData.keyHash P (Str.ofString "__module__")) (Value.str (Str.ofString "__module__") 203) (Value.str (Str.ofString "ledgerspeak.errors") 194), DictEntry.mk (PyData.keyHash P (Str.ofString "__firstlineno__")) (Value.str (Str.ofString "__firstlineno__") 207) (Value.int 5 206), DictEntry.mk (PyData.keyHash P (Str.ofString "__init__")) (Value.str (Str.ofString "__init__") 218) (Value.ref 37), DictEntry.mk (PyData.keyHash P (Str.ofString "told")) (Value.str (Str.ofString "told") 225) (Value.ref 44), DictEntry.mk (PyData.keyHash P (Str.ofString "__static_attributes__")) (Value.str (Str.ofString "__static_attributes__") 228) (Value.ref 45), DictEntry.mk (PyData.keyHash P (Str.ofString "__weakref__")) (Value.str (Str.ofString "__weakref__") 230) (Value.ref 48), DictEntry.mk (PyData.keyHash P (Str.ofString "__doc__")) (Value.str (Str.ofString "__doc__") 231) Value.none] 3) #[],
  Obj.mk (Value.type "type") none (Data.cls (ClassData.mk (Str.ofString "LedgerError") [Value.type "Exception"] [Value.ref 47, Value.type "Exception", Value.type "BaseException", Value.type "object"] 46 (Str.ofString "LedgerError") true [] [Value.ref 60] false none false)) #[some (Value.ref 22), none, some (Value.str (Str.ofString "LedgerError") 196), some (Value.str (Str.ofString "LedgerError") 204), some (Value.builtin "Exception.__new__"), some (Value.bool true)],
  Obj.mk (Value.type "getset_descriptor") none (Data.fields #[Value.str (Str.ofString "__weakref__") 229, Value.ref 47, Value.builtin "ExceptionGroup.__weakref__", Value.none]) #[],
  Obj.mk (Value.type "super") none (Data.fields #[Value.ref 47, Value.ref 47, Value.ref 47]) #[],
  Obj.mk (Value.type "builtin_function_or_method") none (Data.fields #[Value.builtin "object.__init_subclass__", Value.ref 47]) #[],
  Obj.mk (Value.type "tuple") none (Data.seq #[Value.ref 47]) #[],
  Obj.mk (Value.type "builtin_function_or_method") none (Data.fields #[Value.builtin "type.__prepare__", Value.type "type"]) #[],
  Obj.mk (Value.type "dict") none (Data.dict #[DictEntry.mk (PyData.keyHash P (Str.ofString "__module__")) (Value.str (Str.ofString "__module__") 243) (Value.str (Str.ofString "ledgerspeak.errors") 194), DictEntry.mk (PyData.keyHash P (Str.ofString "__qualname__")) (Value.str (Str.ofString "__qualname__") 245) (Value.str (Str.ofString "CheckFault") 244), DictEntry.mk (PyData.keyHash P (Str.ofString "__firstlineno__")) (Value.str (Str.ofString "__firstlineno__") 247) (Value.int 14 246), DictEntry.mk (PyData.keyHash P (Str.ofString "__static_attributes__")) (Value.str (Str.ofString "__static_attributes__") 248) (Value.ref 58)] 4) #[],
  Obj.mk (Value.type "tuple") none (Data.seq #[]) #[],
  Obj.mk Value.none none (Data.fields #[]) #[],
  Obj.mk (Value.type "code") none (Data.fields #[Value.str (Str.ofString "CheckFault") 238, Value.str (Str.ofString "CheckFault") 239, Value.str (Str.ofString "/claim/cut.py") 240, Value.int 14 0, Value.int 0 0, Value.int 0 0, Value.int 0 0, Value.int 0 0, Value.ref 54, Value.bool false, Value.int 181 0, Value.ref 55, Value.none, Value.none, Value.none, Value.none, Value.int 241 0, Value.int 14 0, Value.str (Str.ofString "/claim/cut.py") 242]) #[],
  Obj.mk (Value.type "frame") none Data.plain #[some (Value.ref 56), some (Value.ref 3), some (Value.ref 53), none, some (Value.str (Str.ofString "ledgerspeak.errors") 194), none, some (Value.ref 0)],
  Obj.mk (Value.type "tuple") none (Data.seq #[]) #[],
  Obj.mk (Value.type "dict") none (Data.dict #[DictEntry.mk (PyData.keyHash P (Str.ofString "__module__")) (Value.str (Str.ofString "__module__") 243) (Value.str (Str.ofString "ledgerspeak.errors") 194), DictEntry.mk (PyData.keyHash P (Str.ofString "__firstlineno__")) (Value.str (Str.ofString "__firstlineno__") 247) (Value.int 14 246), DictEntry.mk (PyData.keyHash P (Str.ofString "__static_attributes__")) (Value.str (Str.ofString "__static_attributes__") 248) (Value.ref 58), DictEntry.mk (PyData.keyHash P (Str.ofString "__doc__")) (Value.str (Str.ofString "__doc__") 249) Value.none] 2) #[],
  Obj.mk (Value.type "type") none (Data.cls (ClassData.mk (Str.ofString "CheckFault") [Value.ref 47] [Value.ref 60, Value.ref 47, Value.type "Exception", Value.type "BaseException", Value.type "object"] 59 (Str.ofString "CheckFault") true [] [] false none false)) #[some (Value.ref 51), none, some (Value.str (Str.ofString "CheckFault") 236), some (Value.str (Str.ofString "CheckFault") 244), some (Value.builtin "Exception.__new__"), some (Value.bool true)],
  Obj.mk (Value.type "super") none (Data.fields #[Value.ref 60, Value.ref 60, Value.ref 60]) #[],
  Obj.mk (Value.type "builtin_function_or_method") none (Data.fields #[Value.builtin "object.__init_subclass__", Value.ref 60]) #[]]) (Life.mk [] [] [] 0 [] [] false #[] [] 0 false false false 0 [2000, 10, 10] false 0 true [] [] 0 false)) _ _ _ rfl _ _ _ rfl _ _ _ rfl _ _ _ rfl _ _ _ rfl _ _ _ rfl _ _ _ rfl _ _ _ rfl _ _ _ rfl _ _ _ rfl _ _ _ rfl _ _ _ rfl _ _ _ rfl _ _ _ rfl _ _ _ rfl _ _ _ rfl _ _ _ rfl _ _ _ rfl _ _ _ rfl _ _ _ rfl _ _ _ rfl _ _ _ rfl _ _ _ rfl _ _ _ rfl _ _ _ rfl _ _ _ rfl _ _ _ rfl _ _ _ rfl _ _ _ rfl
noncomputable def hd.hM8 : Params → Heap := fun P => (fun (a21 : Arguments) (b21 : List Stmt) (s21 : Scope) (_ : hd.parts (hd.top 0) = (a21, b21, s21)) (a37 : Arguments) (b37 : List Stmt) (s37 : Scope) (_ : hd.parts (hd.sub 2 0) = (a37, b37, s37)) (a44 : Arguments) (b44 : List Stmt) (s44 : Scope) (_ : hd.parts (hd.sub 2 1) = (a44, b44, s44)) (a76 : Arguments) (b76 : List Stmt) (s76 : Scope) (_ : hd.parts (hd.sub 6 0) = (a76, b76, s76)) (a83 : Arguments) (b83 : List Stmt) (s83 : Scope) (_ : hd.parts (hd.sub 6 1) = (a83, b83, s83)) (a104 : Arguments) (b104 : List Stmt) (s104 : Scope) (_ : hd.parts (hd.sub 7 0) = (a104, b104, s104)) (a111 : Arguments) (b111 : List Stmt) (s111 : Scope) (_ : hd.parts (hd.sub 7 1) = (a111, b111, s111)) (a118 : Arguments) (b118 : List Stmt) (s118 : Scope) (_ : hd.parts (hd.sub 7 2) = (a118, b118, s118)) (a125 : Arguments) (b125 : List Stmt) (s125 : Scope) (_ : hd.parts (hd.sub 7 3) = (a125, b125, s125)) (a132 : Arguments) (b132 : List Stmt) (s132 : Scope) (_ : hd.parts (hd.sub 7 4) = (a132, b132, s132)) (a153 : Arguments) (b153 : List Stmt) (s153 : Scope) (_ : hd.parts (hd.sub 8 0) = (a153, b153, s153)) (a160 : Arguments) (b160 : List Stmt) (s160 : Scope) (_ : hd.parts (hd.sub 8 1) = (a160, b160, s160)) (a174 : Arguments) (b174 : List Stmt) (s174 : Scope) (_ : hd.parts (hd.top 9) = (a174, b174, s174)) (a181 : Arguments) (b181 : List Stmt) (s181 : Scope) (_ : hd.parts (hd.top 10) = (a181, b181, s181)) (a188 : Arguments) (b188 : List Stmt) (s188 : Scope) (_ : hd.parts (hd.top 11) = (a188, b188, s188)) (a195 : Arguments) (b195 : List Stmt) (s195 : Scope) (_ : hd.parts (hd.top 12) = (a195, b195, s195)) (a202 : Arguments) (b202 : List Stmt) (s202 : Scope) (_ : hd.parts (hd.top 13) = (a202, b202, s202)) (a207 : Arguments) (b207 : List Stmt) (s207 : Scope) (_ : hd.parts (hd.top 14) = (a207, b207, s207)) (a212 : Arguments) (b212 : List Stmt) (s212 : Scope) (_ : hd.parts (hd.top 16) = (a212, b212, s212)) (a219 : Arguments) (b219 : List Stmt) (s219 : Scope) (_ : hd.parts (hd.top 17) = (a219, b219, s219)) (a226 : Arguments) (b226 : List Stmt) (s226 : Scope) (_ : hd.parts (hd.top 18) = (a226, b226, s226)) (a231 : Arguments) (b231 : List Stmt) (s231 : Scope) (_ : hd.parts (hd.top 19) = (a231, b231, s231)) (a238 : Arguments) (b238 : List Stmt) (s238 : Scope) (_ : hd.parts (hd.top 20) = (a238, b238, s238)) (a245 : Arguments) (b245 : List Stmt) (s245 : Scope) (_ : hd.parts (hd.top 22) = (a245, b245, s245)) (a254 : Arguments) (b254 : List Stmt) (s254 : Scope) (_ : hd.parts (hd.top 25) = (a254, b254, s254)) (a261 : Arguments) (b261 : List Stmt) (s261 : Scope) (_ : hd.parts (hd.top 26) = (a261, b261, s261)) (a268 : Arguments) (b268 : List Stmt) (s268 : Scope) (_ : hd.parts (hd.top 27) = (a268, b268, s268)) (a275 : Arguments) (b275 : List Stmt) (s275 : Scope) (_ : hd.parts (hd.top 28) = (a275, b275, s275)) (a280 : Arguments) (b280 : List Stmt) (s280 : Scope) (_ : hd.parts (hd.top 29) = (a280, b280, s280)) => Heap.mk (Array.mk [boot_o_0 P,
  boot_o_1 P,
  Obj.mk Value.none none (Data.dict #[DictEntry.mk (PyData.keyHash P (Str.ofString "type.__subclasses__.Exception.0")) (Value.str (Str.ofString "type.__subclasses__.Exception.0") 232) (Value.int 47 0), DictEntry.mk (PyData.keyHash P (Str.ofString "type.__subclasses__.Exception.n")) (Value.str (Str.ofString "type.__subclasses__.Exception.n") 233) (Value.int 1 0)] 2) #[],
  Obj.mk (Value.type "dict") none (Data.dict #[DictEntry.mk (PyData.keyHash P (Str.ofString "__name__")) (Value.str (Str.ofString "__name__") 165) (Value.str (Str.ofString "ledgerspeak.items") 252), DictEntry.mk (PyData.keyHash P (Str.ofString "__doc__")) (Value.str (Str.ofString "__doc__") 166) Value.none, DictEntry.mk (PyData.keyHash P (Str.ofString "__package__")) (Value.str (Str.ofString "__package__") 167) Value.none, DictEntry.mk (PyData.keyHash P (Str.ofString "__loader__")) (Value.str (Str.ofString "__loader__") 168) (Value.builtin "__main__.__loader__#\x6fpaque"), DictEntry.mk (PyData.keyHash P (Str.ofString "__spec__")) (Value.str (Str.ofString "__spec__") 169) Value.none, DictEntry.mk (PyData.keyHash P (Str.ofString "__annotations__")) (Value.str (Str.ofString "__annotations__") 170) (Value.ref 6), DictEntry.mk (PyData.keyHash P (Str.ofString "__builtins__")) (Value.str (Str.ofString "__builtins__") 171) (Value.ref 4), DictEntry.mk (PyData.keyHash P (Str.ofString "__file__")) (Value.str (Str.ofString "__file__") 173) (Value.str (Str.ofString "/claim/cut.py") 172), DictEntry.mk (PyData.keyHash P (Str.ofString "__cached__")) (Value.str (Str.ofString "__cached__") 174) Value.none, DictEntry.mk (PyData.keyHash P (Str.ofString "_wall")) (Value.str (Str.ofString "_wall") 193) (Value.ref 21), DictEntry.mk (PyData.keyHash P (Str.ofString "LedgerError")) (Value.str (Str.ofString "LedgerError") 235) (Value.ref 47), DictEntry.mk (PyData.keyHash P (Str.ofString "CheckFault")) (Value.str (Str.ofString "CheckFault") 251) (Value.ref 60), DictEntry.mk (PyData.keyHash P (Str.ofString "FILLER")) (Value.str (Str.ofString "FILLER") 255) (Value.str (Str.ofString "FILLER") 254), DictEntry.mk (PyData.keyHash P (Str.ofString "Named")) (Value.str (Str.ofString "Named") 293) (Value.ref 86), DictEntry.mk (PyData.keyHash P (Str.ofString "Item")) (Value.str (Str.ofString "Item") 370) (Value.ref 135)] 15) #[],
  boot_o_4 P,
  boot_o_5 P,
  boot_o_6 P,
  boot_o_7 P,
  boot_o_8 P,
  boot_o_9 P,
  boot_o_10 P,
  Obj.mk (Value.type "tuple") none (Data.seq #[]) #[],
  Obj.mk Value.none none (Data.fields #[Value.int 1 0, Value.int 0 0, Value.ref 20, Value.int 5 0, Value.int 0 0, Value.ref 27, Value.int 14 0, Value.int 0 0, Value.ref 56, Value.int 18 0, Value.int 0 0, Value.ref 68, Value.int 26 0, Value.int 0 0, Value.ref 96]) #[],
  Obj.mk (Value.type "code") none (Data.fields #[Value.str (Str.ofString "<module>") 182, Value.str (Str.ofString "<module>") 183, Value.str (Str.ofString "/claim/cut.py") 184, Value.int 1 0, Value.int 0 0, Value.int 0 0, Value.int 0 0, Value.int 0 0, Value.ref 11, Value.bool false, Value.int 181 0, Value.ref 12, Value.none, Value.none, Value.none, Value.none, Value.int 185 0, Value.int 1 0, Value.str (Str.ofString "/claim/cut.py") 186]) #[],
  Obj.mk (Value.type "frame") none Data.plain #[some (Value.ref 13), some (Value.ref 3), some (Value.ref 3), none, some (Value.str (Str.ofString "__main__") 164), none, some (Value.ref 0)],
  Obj.mk (Value.type "tuple") none (Data.seq #[]) #[],
  Obj.mk Value.none none (Data.fields #[]) #[],
  Obj.mk (Value.type "tuple") none (Data.seq #[Value.str (Str.ofString "k") 190]) #[],
  Obj.mk (Value.type "tuple") none (Data.seq #[]) #[],
  Obj.mk (Value.none) (none) (Data.func (FuncData.mk (Str.ofString "_wall") (Str.ofString "_wall") a21 (FuncBody.stmts b21) s21 (0) ([]) (Value.none) (Value.none) (Value.none) (Value.none) (none) (Value.none) (Value.none) (0))) (#[]),
  Obj.mk (Value.type "code") none (Data.fields #[Value.str (Str.ofString "_wall") 187, Value.str (Str.ofString "_wall") 188, Value.str (Str.ofString "/claim/cut.py") 189, Value.int 1 0, Value.int 1 0, Value.int 0 0, Value.int 0 0, Value.int 3 0, Value.ref 15, Value.bool true, Value.int 181 0, Value.ref 16, Value.none, Value.ref 17, Value.ref 18, Value.ref 19, Value.int 191 0, Value.int 1 0, Value.str (Str.ofString "/claim/cut.py") 192]) #[],
  Obj.mk (Value.type "function") (none) (Data.func (FuncData.mk (Str.ofString "_wall") (Str.ofString "_wall") a21 (FuncBody.stmts b21) s21 (3) ([]) (Value.none) (Value.none) (Value.none) (Value.str (Str.ofString "__main__") 164) (none) (Value.ref 20) (Value.none) (0))) (#[]),
  Obj.mk (Value.type "tuple") none (Data.seq #[Value.type "Exception"]) #[],
  Obj.mk (Value.type "builtin_function_or_method") none (Data.fields #[Value.builtin "type.__prepare__", Value.type "type"]) #[],
  Obj.mk (Value.type "dict") none (Data.dict #[DictEntry.mk (PyData.keyHash P (Str.ofString "__module__")) (Value.str (Str.ofString "__module__") 203) (Value.str (Str.ofString "ledgerspeak.errors") 194), DictEntry.mk (PyData.keyHash P (Str.ofString "__qualname__")) (Value.str (Str.ofString "__qualname__") 205) (Value.str (Str.ofString "LedgerError") 204), DictEntry.mk (PyData.keyHash P (Str.ofString "__firstlineno__")) (Value.str (Str.ofString "__firstlineno__") 207) (Value.int 5 206), DictEntry.mk (PyData.keyHash P (Str.ofString "__init__")) (Value.str (Str.ofString "__init__") 218) (Value.ref 37), DictEntry.mk (PyData.keyHash P (Str.ofString "told")) (Value.str (Str.ofString "told") 225) (Value.ref 44), DictEntry.mk (PyData.keyHash P (Str.ofString "__static_attributes__")) (Value.str (Str.ofString "__static_attributes__") 228) (Value.ref 45)] 6) #[],
  Obj.mk (Value.type "tuple") none (Data.seq #[]) #[],
  Obj.mk Value.none none (Data.fields #[Value.int 7 0, Value.int 4 0, Value.ref 36, Value.int 12 0, Value.int 4 0, Value.ref 43]) #[],
  Obj.mk (Value.type "code") none (Data.fields #[Value.str (Str.ofString "LedgerError") 198, Value.str (Str.ofString "LedgerError") 199, Value.str (Str.ofString "/claim/cut.py") 200, Value.int 5 0, Value.int 0 0, Value.int 0 0, Value.int 0 0, Value.int 0 0, Value.ref 25, Value.bool false, Value.int 181 0, Value.ref 26, Value.none, Value.none, Value.none, Value.none, Value.int 201 0, Value.int 5 0, Value.str (Str.ofString "/claim/cut.py") 202]) #[],
  Obj.mk (Value.type "frame") none Data.plain #[some (Value.ref 27), some (Value.ref 3), some (Value.ref 24), none, some (Value.str (Str.ofString "ledgerspeak.errors") 194), none, some (Value.ref 0)],
  Obj.mk (Value.type "tuple") none (Data.seq #[Value.int 0 208, Value.int 0 209]) #[],
  Obj.mk (Value.type "tuple") none (Data.seq #[Value.ref 29]) #[],
  Obj.mk (Value.type "tuple") none (Data.seq #[]) #[],
  Obj.mk Value.none none (Data.fields #[]) #[],
  Obj.mk (Value.type "tuple") none (Data.seq #[Value.str (Str.ofString "self") 213, Value.str (Str.ofString "what") 214, Value.str (Str.ofString "at") 215]) #[],
  Obj.mk (Value.type "tuple") none (Data.seq #[]) #[],
  Obj.mk (Value.none) (none) (Data.func (FuncData.mk (Str.ofString "__init__") (Str.ofString "LedgerError.__init__") a37 (FuncBody.stmts b37) s37 (0) ([]) (Value.none) (Value.none) (Value.none) (Value.none) (none) (Value.none) (Value.none) (0))) (#[]),
  Obj.mk (Value.type "code") none (Data.fields #[Value.str (Str.ofString "__init__") 210, Value.str (Str.ofString "LedgerError.__init__") 211, Value.str (Str.ofString "/claim/cut.py") 212, Value.int 7 0, Value.int 3 0, Value.int 0 0, Value.int 0 0, Value.int 3 0, Value.ref 31, Value.bool true, Value.int 181 0, Value.ref 32, Value.none, Value.ref 33, Value.ref 34, Value.ref 35, Value.int 216 0, Value.int 7 0, Value.str (Str.ofString "/claim/cut.py") 217]) #[],
  Obj.mk (Value.type "function") (none) (Data.func (FuncData.mk (Str.ofString "__init__") (Str.ofString "LedgerError.__init__") a37 (FuncBody.stmts b37) s37 (3) ([]) (Value.ref 30) (Value.none) (Value.none) (Value.str (Str.ofString "ledgerspeak.errors") 194) (none) (Value.ref 36) (Value.none) (0))) (#[]),
  Obj.mk (Value.type "tuple") none (Data.seq #[]) #[],
  Obj.mk Value.none none (Data.fields #[]) #[],
  Obj.mk (Value.type "tuple") none (Data.seq #[Value.str (Str.ofString "self") 222]) #[],
  Obj.mk (Value.type "tuple") none (Data.seq #[]) #[],
  Obj.mk (Value.none) (none) (Data.func (FuncData.mk (Str.ofString "told") (Str.ofString "LedgerError.told") a44 (FuncBody.stmts b44) s44 (0) ([]) (Value.none) (Value.none) (Value.none) (Value.none) (none) (Value.none) (Value.none) (0))) (#[]),
  Obj.mk (Value.type "code") none (Data.fields #[Value.str (Str.ofString "told") 219, Value.str (Str.ofString "LedgerError.told") 220, Value.str (Str.ofString "/claim/cut.py") 221, Value.int 12 0, Value.int 1 0, Value.int 0 0, Value.int 0 0, Value.int 3 0, Value.ref 38, Value.bool true, Value.int 181 0, Value.ref 39, Value.none, Value.ref 40, Value.ref 41, Value.ref 42, Value.int 223 0, Value.int 12 0, Value.str (Str.ofString "/claim/cut.py") 224]) #[],
  Obj.mk (Value.type "function") (none) (Data.func (FuncData.mk (Str.ofString "told") (Str.ofString "LedgerError.told") a44 (FuncBody.stmts b44) s44 (3) ([]) (Value.none) (Value.none) (Value.none) (Value.str (Str.ofString "ledgerspeak.errors") 194) (none) (Value.ref 43) (Value.none) (0))) (#[]),
  Obj.mk (Value.type "tuple") none (Data.seq #[Value.str (Str.ofString "at") 226, Value.str (Str.ofString "what") 227]) #[],
  Obj.mk (Value.type "dict") none (Data.dict #[DictEntry.mk (PyData.keyHash P (Str.ofString "__module__")) (Value.str (Str.ofString "__module__") 203) (Value.str (Str.ofString "ledgerspeak.errors") 194), DictEntry.mk (PyData.keyHash P (Str.ofString "__firstlineno__")) (Value.str (Str.ofString "__firstlineno__") 207) (Value.int 5 206), DictEntry.mk (PyData.keyHash P (Str.ofString "__init__")) (Value.str (Str.ofString "__init__") 218) (Value.ref 37), DictEntry.mk (PyData.keyHash P (Str.ofString "told")) (Value.str (Str.ofString "told") 225) (Value.ref 44), DictEntry.mk (PyData.keyHash P (Str.ofString "__static_attributes__")) (Value.str (Str.ofString "__static_attributes__") 228) (Value.ref 45), DictEntry.mk (PyData.keyHash P (Str.ofString "__weakref__")) (Value.str (Str.ofString "__weakref__") 230) (Value.ref 48), DictEntry.mk (PyData.keyHash P (Str.ofString "__doc__")) (Value.str (Str.ofString "__doc__") 231) Value.none] 3) #[],
  Obj.mk (Value.type "type") none (Data.cls (ClassData.mk (Str.ofString "LedgerError") [Value.type "Exception"] [Value.ref 47, Value.type "Exception", Value.type "BaseException", Value.type "object"] 46 (Str.ofString "LedgerError") true [] [Value.ref 60] false none false)) #[some (Value.ref 22), none, some (Value.str (Str.ofString "LedgerError") 196), some (Value.str (Str.ofString "LedgerError") 204), some (Value.builtin "Exception.__new__"), some (Value.bool true)],
  Obj.mk (Value.type "getset_descriptor") none (Data.fields #[Value.str (Str.ofString "__weakref__") 229, Value.ref 47, Value.builtin "ExceptionGroup.__weakref__", Value.none]) #[],
  Obj.mk (Value.type "super") none (Data.fields #[Value.ref 47, Value.ref 47, Value.ref 47]) #[],
  Obj.mk (Value.type "builtin_function_or_method") none (Data.fields #[Value.builtin "object.__init_subclass__", Value.ref 47]) #[],
  Obj.mk (Value.type "tuple") none (Data.seq #[Value.ref 47]) #[],
  Obj.mk (Value.type "builtin_function_or_method") none (Data.fields #[Value.builtin "type.__prepare__", Value.type "type"]) #[],
  Obj.mk (Value.type "dict") none (Data.dict #[DictEntry.mk (PyData.keyHash P (Str.ofString "__module__")) (Value.str (Str.ofString "__module__") 243) (Value.str (Str.ofString "ledgerspeak.errors") 194), DictEntry.mk (PyData.keyHash P (Str.ofString "__qualname__")) (Value.str (Str.ofString "__qualname__") 245) (Value.str (Str.ofString "CheckFault") 244), DictEntry.mk (PyData.keyHash P (Str.ofString "__firstlineno__")) (Value.str (Str.ofString "__firstlineno__") 247) (Value.int 14 246), DictEntry.mk (PyData.keyHash P (Str.ofString "__static_attributes__")) (Value.str (Str.ofString "__static_attributes__") 248) (Value.ref 58)] 4) #[],
  Obj.mk (Value.type "tuple") none (Data.seq #[]) #[],
  Obj.mk Value.none none (Data.fields #[]) #[],
  Obj.mk (Value.type "code") none (Data.fields #[Value.str (Str.ofString "CheckFault") 238, Value.str (Str.ofString "CheckFault") 239, Value.str (Str.ofString "/claim/cut.py") 240, Value.int 14 0, Value.int 0 0, Value.int 0 0, Value.int 0 0, Value.int 0 0, Value.ref 54, Value.bool false, Value.int 181 0, Value.ref 55, Value.none, Value.none, Value.none, Value.none, Value.int 241 0, Value.int 14 0, Value.str (Str.ofString "/claim/cut.py") 242]) #[],
  Obj.mk (Value.type "frame") none Data.plain #[some (Value.ref 56), some (Value.ref 3), some (Value.ref 53), none, some (Value.str (Str.ofString "ledgerspeak.errors") 194), none, some (Value.ref 0)],
  Obj.mk (Value.type "tuple") none (Data.seq #[]) #[],
  Obj.mk (Value.type "dict") none (Data.dict #[DictEntry.mk (PyData.keyHash P (Str.ofString "__module__")) (Value.str (Str.ofString "__module__") 243) (Value.str (Str.ofString "ledgerspeak.errors") 194), DictEntry.mk (PyData.keyHash P (Str.ofString "__firstlineno__")) (Value.str (Str.ofString "__firstlineno__") 247) (Value.int 14 246), DictEntry.mk (PyData.keyHash P (Str.ofString "__static_attributes__")) (Value.str (Str.ofString "__static_attributes__") 248) (Value.ref 58), DictEntry.mk (PyData.keyHash P (Str.ofString "__doc__")) (Value.str (Str.ofString "__doc__") 249) Value.none] 2) #[],
  Obj.mk (Value.type "type") none (Data.cls (ClassData.mk (Str.ofString "CheckFault") [Value.ref 47] [Value.ref 60, Value.ref 47, Value.type "Exception", Value.type "BaseException", Value.type "object"] 59 (Str.ofString "CheckFault") true [] [] false none false)) #[some (Value.ref 51), none, some (Value.str (Str.ofString "CheckFault") 236), some (Value.str (Str.ofString "CheckFault") 244), some (Value.builtin "Exception.__new__"), some (Value.bool true)],
  Obj.mk (Value.type "super") none (Data.fields #[Value.ref 60, Value.ref 60, Value.ref 60]) #[],
  Obj.mk (Value.type "builtin_function_or_method") none (Data.fields #[Value.builtin "object.__init_subclass__", Value.ref 60]) #[],
  Obj.mk (Value.type "tuple") none (Data.seq #[]) #[],
  Obj.mk (Value.type "builtin_function_or_method") none (Data.fields #[Value.builtin "type.__prepare__", Value.type "type"]) #[],
  Obj.mk (Value.type "dict") none (Data.dict #[DictEntry.mk (PyData.keyHash P (Str.ofString "__module__")) (Value.str (Str.ofString "__module__") 263) (Value.str (Str.ofString "ledgerspeak.items") 252), DictEntry.mk (PyData.keyHash P (Str.ofString "__qualname__")) (Value.str (Str.ofString "__qualname__") 265) (Value.str (Str.ofString "Named") 264), DictEntry.mk (PyData.keyHash P (Str.ofString "__firstlineno__")) (Value.str (Str.ofString "__firstlineno__") 267) (Value.int 18 266), DictEntry.mk (PyData.keyHash P (Str.ofString "__init__")) (Value.str (Str.ofString "__init__") 276) (Value.ref 76), DictEntry.mk (PyData.keyHash P (Str.ofString "told")) (Value.str (Str.ofString "told") 283) (Value.ref 83), DictEntry.mk (PyData.keyHash P (Str.ofString "__static_attributes__")) (Value.str (Str.ofString "__static_attributes__") 286) (Value.ref 84)] 6) #[],
  Obj.mk (Value.type "tuple") none (Data.seq #[]) #[],
  Obj.mk Value.none none (Data.fields #[Value.int 20 0, Value.int 4 0, Value.ref 75, Value.int 24 0, Value.int 4 0, Value.ref 82]) #[],
  Obj.mk (Value.type "code") none (Data.fields #[Value.str (Str.ofString "Named") 258, Value.str (Str.ofString "Named") 259, Value.str (Str.ofString "/claim/cut.py") 260, Value.int 18 0, Value.int 0 0, Value.int 0 0, Value.int 0 0, Value.int 0 0, Value.ref 66, Value.bool false, Value.int 181 0, Value.ref 67, Value.none, Value.none, Value.none, Value.none, Value.int 261 0, Value.int 18 0, Value.str (Str.ofString "/claim/cut.py") 262]) #[],
  Obj.mk (Value.type "frame") none Data.plain #[some (Value.ref 68), some (Value.ref 3), some (Value.ref 65), none, some (Value.str (Str.ofString "ledgerspeak.items") 252), none, some (Value.ref 0)],
  Obj.mk (Value.type "tuple") none (Data.seq #[]) #[],
  Obj.mk Value.none none (Data.fields #[]) #[],
  Obj.mk (Value.type "tuple") none (Data.seq #[Value.str (Str.ofString "self") 271, Value.str (Str.ofString "name") 272, Value.str (Str.ofString "rows") 273]) #[],
  Obj.mk (Value.type "tuple") none (Data.seq #[]) #[],
  Obj.mk (Value.none) (none) (Data.func (FuncData.mk (Str.ofString "__init__") (Str.ofString "Named.__init__") a76 (FuncBody.stmts b76) s76 (0) ([]) (Value.none) (Value.none) (Value.none) (Value.none) (none) (Value.none) (Value.none) (0))) (#[]),
  Obj.mk (Value.type "code") none (Data.fields #[Value.str (Str.ofString "__init__") 268, Value.str (Str.ofString "Named.__init__") 269, Value.str (Str.ofString "/claim/cut.py") 270, Value.int 20 0, Value.int 3 0, Value.int 0 0, Value.int 0 0, Value.int 3 0, Value.ref 70, Value.bool true, Value.int 181 0, Value.ref 71, Value.none, Value.ref 72, Value.ref 73, Value.ref 74, Value.int 274 0, Value.int 20 0, Value.str (Str.ofString "/claim/cut.py") 275]) #[],
  Obj.mk (Value.type "function") (none) (Data.func (FuncData.mk (Str.ofString "__init__") (Str.ofString "Named.__init__") a76 (FuncBody.stmts b76) s76 (3) ([]) (Value.none) (Value.none) (Value.none) (Value.str (Str.ofString "ledgerspeak.items") 252) (none) (Value.ref 75) (Value.none) (0))) (#[]),
  Obj.mk (Value.type "tuple") none (Data.seq #[]) #[],
  Obj.mk Value.none none (Data.fields #[]) #[],
  Obj.mk (Value.type "tuple") none (Data.seq #[Value.str (Str.ofString "self") 280]) #[],
  Obj.mk (Value.type "tuple") none (Data.seq #[]) #[],
  Obj.mk (Value.none) (none) (Data.func (FuncData.mk (Str.ofString "told") (Str.ofString "Named.told") a83 (FuncBody.stmts b83) s83 (0) ([]) (Value.none) (Value.none) (Value.none) (Value.none) (none) (Value.none) (Value.none) (0))) (#[]),
  Obj.mk (Value.type "code") none (Data.fields #[Value.str (Str.ofString "told") 277, Value.str (Str.ofString "Named.told") 278, Value.str (Str.ofString "/claim/cut.py") 279, Value.int 24 0, Value.int 1 0, Value.int 0 0, Value.int 0 0, Value.int 3 0, Value.ref 77, Value.bool true, Value.int 181 0, Value.ref 78, Value.none, Value.ref 79, Value.ref 80, Value.ref 81, Value.int 281 0, Value.int 24 0, Value.str (Str.ofString "/claim/cut.py") 282]) #[],
  Obj.mk (Value.type "function") (none) (Data.func (FuncData.mk (Str.ofString "told") (Str.ofString "Named.told") a83 (FuncBody.stmts b83) s83 (3) ([]) (Value.none) (Value.none) (Value.none) (Value.str (Str.ofString "ledgerspeak.items") 252) (none) (Value.ref 82) (Value.none) (0))) (#[]),
  Obj.mk (Value.type "tuple") none (Data.seq #[Value.str (Str.ofString "name") 284, Value.str (Str.ofString "rows") 285]) #[],
  Obj.mk (Value.type "dict") none (Data.dict #[DictEntry.mk (PyData.keyHash P (Str.ofString "__module__")) (Value.str (Str.ofString "__module__") 263) (Value.str (Str.ofString "ledgerspeak.items") 252), DictEntry.mk (PyData.keyHash P (Str.ofString "__firstlineno__")) (Value.str (Str.ofString "__firstlineno__") 267) (Value.int 18 266), DictEntry.mk (PyData.keyHash P (Str.ofString "__init__")) (Value.str (Str.ofString "__init__") 276) (Value.ref 76), DictEntry.mk (PyData.keyHash P (Str.ofString "told")) (Value.str (Str.ofString "told") 283) (Value.ref 83), DictEntry.mk (PyData.keyHash P (Str.ofString "__static_attributes__")) (Value.str (Str.ofString "__static_attributes__") 286) (Value.ref 84), DictEntry.mk (PyData.keyHash P (Str.ofString "__dict__")) (Value.str (Str.ofString "__dict__") 288) (Value.ref 87), DictEntry.mk (PyData.keyHash P (Str.ofString "__weakref__")) (Value.str (Str.ofString "__weakref__") 290) (Value.ref 88), DictEntry.mk (PyData.keyHash P (Str.ofString "__doc__")) (Value.str (Str.ofString "__doc__") 291) Value.none] 4) #[],
  Obj.mk (Value.type "type") none (Data.cls (ClassData.mk (Str.ofString "Named") [Value.type "object"] [Value.ref 86, Value.type "object"] 85 (Str.ofString "Named") true [] [] false none false)) #[none, none, some (Value.str (Str.ofString "Named") 256), some (Value.str (Str.ofString "Named") 264), some (Value.builtin "object.__new__"), some (Value.bool true)],
  Obj.mk (Value.type "getset_descriptor") none (Data.fields #[Value.str (Str.ofString "__dict__") 287, Value.ref 86, Value.builtin "function.__dict__", Value.builtin "function.__dict__#set"]) #[],
  Obj.mk (Value.type "getset_descriptor") none (Data.fields #[Value.str (Str.ofString "__weakref__") 289, Value.ref 86, Value.builtin "ExceptionGroup.__weakref__", Value.none]) #[],
  Obj.mk (Value.type "super") none (Data.fields #[Value.ref 86, Value.ref 86, Value.ref 86]) #[],
  Obj.mk (Value.type "builtin_function_or_method") none (Data.fields #[Value.builtin "object.__init_subclass__", Value.ref 86]) #[],
  Obj.mk (Value.type "tuple") none (Data.seq #[]) #[],
  Obj.mk (Value.type "builtin_function_or_method") none (Data.fields #[Value.builtin "type.__prepare__", Value.type "type"]) #[],
  Obj.mk (Value.type "dict") none (Data.dict #[DictEntry.mk (PyData.keyHash P (Str.ofString "__module__")) (Value.str (Str.ofString "__module__") 301) (Value.str (Str.ofString "ledgerspeak.items") 252), DictEntry.mk (PyData.keyHash P (Str.ofString "__qualname__")) (Value.str (Str.ofString "__qualname__") 303) (Value.str (Str.ofString "Item") 302), DictEntry.mk (PyData.keyHash P (Str.ofString "__firstlineno__")) (Value.str (Str.ofString "__firstlineno__") 305) (Value.int 26 304), DictEntry.mk (PyData.keyHash P (Str.ofString "__init__")) (Value.str (Str.ofString "__init__") 314) (Value.ref 104), DictEntry.mk (PyData.keyHash P (Str.ofString "add")) (Value.str (Str.ofString "add") 322) (Value.ref 111), DictEntry.mk (PyData.keyHash P (Str.ofString "count")) (Value.str (Str.ofString "count") 329) (Value.ref 118), DictEntry.mk (PyData.keyHash P (Str.ofString "clauses")) (Value.str (Str.ofString "clauses") 336) (Value.ref 125), DictEntry.mk (PyData.keyHash P (Str.ofString "told")) (Value.str (Str.ofString "told") 343) (Value.ref 132), DictEntry.mk (PyData.keyHash P (Str.ofString "__static_attributes__")) (Value.str (Str.ofString "__static_attributes__") 363) (Value.ref 133)] 9) #[],
  Obj.mk (Value.type "tuple") none (Data.seq #[]) #[],
  Obj.mk Value.none none (Data.fields #[Value.int 28 0, Value.int 4 0, Value.ref 103, Value.int 49 0, Value.int 4 0, Value.ref 110, Value.int 53 0, Value.int 4 0, Value.ref 117, Value.int 56 0, Value.int 4 0, Value.ref 124, Value.int 59 0, Value.int 4 0, Value.ref 131]) #[],
  Obj.mk (Value.type "code") none (Data.fields #[Value.str (Str.ofString "Item") 296, Value.str (Str.ofString "Item") 297, Value.str (Str.ofString "/claim/cut.py") 298, Value.int 26 0, Value.int 0 0, Value.int 0 0, Value.int 0 0, Value.int 0 0, Value.ref 94, Value.bool false, Value.int 181 0, Value.ref 95, Value.none, Value.none, Value.none, Value.none, Value.int 299 0, Value.int 26 0, Value.str (Str.ofString "/claim/cut.py") 300]) #[],
  Obj.mk (Value.type "frame") none Data.plain #[some (Value.ref 96), some (Value.ref 3), some (Value.ref 93), none, some (Value.str (Str.ofString "ledgerspeak.items") 252), none, some (Value.ref 0)],
  Obj.mk (Value.type "tuple") none (Data.seq #[]) #[],
  Obj.mk Value.none none (Data.fields #[]) #[],
  Obj.mk (Value.type "tuple") none (Data.seq #[Value.str (Str.ofString "self") 309, Value.str (Str.ofString "level") 310, Value.str (Str.ofString "name") 311]) #[],
  Obj.mk (Value.type "tuple") none (Data.seq #[]) #[],
  Obj.mk (Value.none) (none) (Data.func (FuncData.mk (Str.ofString "__init__") (Str.ofString "Item.__init__") a104 (FuncBody.stmts b104) s104 (0) ([]) (Value.none) (Value.none) (Value.none) (Value.none) (none) (Value.none) (Value.none) (0))) (#[]),
  Obj.mk (Value.type "code") none (Data.fields #[Value.str (Str.ofString "__init__") 306, Value.str (Str.ofString "Item.__init__") 307, Value.str (Str.ofString "/claim/cut.py") 308, Value.int 28 0, Value.int 3 0, Value.int 0 0, Value.int 0 0, Value.int 3 0, Value.ref 98, Value.bool true, Value.int 181 0, Value.ref 99, Value.none, Value.ref 100, Value.ref 101, Value.ref 102, Value.int 312 0, Value.int 28 0, Value.str (Str.ofString "/claim/cut.py") 313]) #[],
  Obj.mk (Value.type "function") (none) (Data.func (FuncData.mk (Str.ofString "__init__") (Str.ofString "Item.__init__") a104 (FuncBody.stmts b104) s104 (3) ([]) (Value.none) (Value.none) (Value.none) (Value.str (Str.ofString "ledgerspeak.items") 252) (none) (Value.ref 103) (Value.none) (0))) (#[]),
  Obj.mk (Value.type "tuple") none (Data.seq #[]) #[],
  Obj.mk Value.none none (Data.fields #[]) #[],
  Obj.mk (Value.type "tuple") none (Data.seq #[Value.str (Str.ofString "self") 318, Value.str (Str.ofString "kid") 319]) #[],
  Obj.mk (Value.type "tuple") none (Data.seq #[]) #[],
  Obj.mk (Value.none) (none) (Data.func (FuncData.mk (Str.ofString "add") (Str.ofString "Item.add") a111 (FuncBody.stmts b111) s111 (0) ([]) (Value.none) (Value.none) (Value.none) (Value.none) (none) (Value.none) (Value.none) (0))) (#[]),
  Obj.mk (Value.type "code") none (Data.fields #[Value.str (Str.ofString "add") 315, Value.str (Str.ofString "Item.add") 316, Value.str (Str.ofString "/claim/cut.py") 317, Value.int 49 0, Value.int 2 0, Value.int 0 0, Value.int 0 0, Value.int 3 0, Value.ref 105, Value.bool true, Value.int 181 0, Value.ref 106, Value.none, Value.ref 107, Value.ref 108, Value.ref 109, Value.int 320 0, Value.int 49 0, Value.str (Str.ofString "/claim/cut.py") 321]) #[],
  Obj.mk (Value.type "function") (none) (Data.func (FuncData.mk (Str.ofString "add") (Str.ofString "Item.add") a111 (FuncBody.stmts b111) s111 (3) ([]) (Value.none) (Value.none) (Value.none) (Value.str (Str.ofString "ledgerspeak.items") 252) (none) (Value.ref 110) (Value.none) (0))) (#[]),
  Obj.mk (Value.type "tuple") none (Data.seq #[]) #[],
  Obj.mk Value.none none (Data.fields #[]) #[],
  Obj.mk (Value.type "tuple") none (Data.seq #[Value.str (Str.ofString "self") 326]) #[],
  Obj.mk (Value.type "tuple") none (Data.seq #[]) #[],
  Obj.mk (Value.none) (none) (Data.func (FuncData.mk (Str.ofString "count") (Str.ofString "Item.count") a118 (FuncBody.stmts b118) s118 (0) ([]) (Value.none) (Value.none) (Value.none) (Value.none) (none) (Value.none) (Value.none) (0))) (#[]),
  Obj.mk (Value.type "code") none (Data.fields #[Value.str (Str.ofString "count") 323, Value.str (Str.ofString "Item.count") 324, Value.str (Str.ofString "/claim/cut.py") 325, Value.int 53 0, Value.int 1 0, Value.int 0 0, Value.int 0 0, Value.int 3 0, Value.ref 112, Value.bool true, Value.int 181 0, Value.ref 113, Value.none, Value.ref 114, Value.ref 115, Value.ref 116, Value.int 327 0, Value.int 53 0, Value.str (Str.ofString "/claim/cut.py") 328]) #[],
  Obj.mk (Value.type "function") (none) (Data.func (FuncData.mk (Str.ofString "count") (Str.ofString "Item.count") a118 (FuncBody.stmts b118) s118 (3) ([]) (Value.none) (Value.none) (Value.none) (Value.str (Str.ofString "ledgerspeak.items") 252) (none) (Value.ref 117) (Value.none) (0))) (#[]),
  Obj.mk (Value.type "tuple") none (Data.seq #[]) #[],
  Obj.mk Value.none none (Data.fields #[]) #[],
  Obj.mk (Value.type "tuple") none (Data.seq #[Value.str (Str.ofString "self") 333]) #[],
  Obj.mk (Value.type "tuple") none (Data.seq #[]) #[],
  Obj.mk (Value.none) (none) (Data.func (FuncData.mk (Str.ofString "clauses") (Str.ofString "Item.clauses") a125 (FuncBody.stmts b125) s125 (0) ([]) (Value.none) (Value.none) (Value.none) (Value.none) (none) (Value.none) (Value.none) (0))) (#[]),
  Obj.mk (Value.type "code") none (Data.fields #[Value.str (Str.ofString "clauses") 330, Value.str (Str.ofString "Item.clauses") 331, Value.str (Str.ofString "/claim/cut.py") 332, Value.int 56 0, Value.int 1 0, Value.int 0 0, Value.int 0 0, Value.int 3 0, Value.ref 119, Value.bool true, Value.int 181 0, Value.ref 120, Value.none, Value.ref 121, Value.ref 122, Value.ref 123, Value.int 334 0, Value.int 56 0, Value.str (Str.ofString "/claim/cut.py") 335]) #[],
  Obj.mk (Value.type "function") (none) (Data.func (FuncData.mk (Str.ofString "clauses") (Str.ofString "Item.clauses") a125 (FuncBody.stmts b125) s125 (3) ([]) (Value.none) (Value.none) (Value.none) (Value.str (Str.ofString "ledgerspeak.items") 252) (none) (Value.ref 124) (Value.none) (0))) (#[]),
  Obj.mk (Value.type "tuple") none (Data.seq #[]) #[],
  Obj.mk Value.none none (Data.fields #[]) #[],
  Obj.mk (Value.type "tuple") none (Data.seq #[Value.str (Str.ofString "self") 340]) #[],
  Obj.mk (Value.type "tuple") none (Data.seq #[]) #[],
  Obj.mk (Value.none) (none) (Data.func (FuncData.mk (Str.ofString "told") (Str.ofString "Item.told") a132 (FuncBody.stmts b132) s132 (0) ([]) (Value.none) (Value.none) (Value.none) (Value.none) (none) (Value.none) (Value.none) (0))) (#[]),
  Obj.mk (Value.type "code") none (Data.fields #[Value.str (Str.ofString "told") 337, Value.str (Str.ofString "Item.told") 338, Value.str (Str.ofString "/claim/cut.py") 339, Value.int 59 0, Value.int 1 0, Value.int 0 0, Value.int 0 0, Value.int 3 0, Value.ref 126, Value.bool true, Value.int 181 0, Value.ref 127, Value.none, Value.ref 128, Value.ref 129, Value.ref 130, Value.int 341 0, Value.int 59 0, Value.str (Str.ofString "/claim/cut.py") 342]) #[],
  Obj.mk (Value.type "function") (none) (Data.func (FuncData.mk (Str.ofString "told") (Str.ofString "Item.told") a132 (FuncBody.stmts b132) s132 (3) ([]) (Value.none) (Value.none) (Value.none) (Value.str (Str.ofString "ledgerspeak.items") 252) (none) (Value.ref 131) (Value.none) (0))) (#[]),
  Obj.mk (Value.type "tuple") none (Data.seq #[Value.str (Str.ofString "base") 344, Value.str (Str.ofString "conditions") 345, Value.str (Str.ofString "is_blank_zero") 346, Value.str (Str.ofString "is_justified") 347, Value.str (Str.ofString "is_separate") 348, Value.str (Str.ofString "kids") 349, Value.str (Str.ofString "level") 350, Value.str (Str.ofString "name") 351, Value.str (Str.ofString "occurs") 352, Value.str (Str.ofString "offset") 353, Value.str (Str.ofString "parent") 354, Value.str (Str.ofString "picture_text") 355, Value.str (Str.ofString "redefines") 356, Value.str (Str.ofString "renames") 357, Value.str (Str.ofString "shape") 358, Value.str (Str.ofString "sign") 359, Value.str (Str.ofString "size") 360, Value.str (Str.ofString "usage") 361, Value.str (Str.ofString "value") 362]) #[],
  Obj.mk (Value.type "dict") none (Data.dict #[DictEntry.mk (PyData.keyHash P (Str.ofString "__module__")) (Value.str (Str.ofString "__module__") 301) (Value.str (Str.ofString "ledgerspeak.items") 252), DictEntry.mk (PyData.keyHash P (Str.ofString "__firstlineno__")) (Value.str (Str.ofString "__firstlineno__") 305) (Value.int 26 304), DictEntry.mk (PyData.keyHash P (Str.ofString "__init__")) (Value.str (Str.ofString "__init__") 314) (Value.ref 104), DictEntry.mk (PyData.keyHash P (Str.ofString "add")) (Value.str (Str.ofString "add") 322) (Value.ref 111), DictEntry.mk (PyData.keyHash P (Str.ofString "count")) (Value.str (Str.ofString "count") 329) (Value.ref 118), DictEntry.mk (PyData.keyHash P (Str.ofString "clauses")) (Value.str (Str.ofString "clauses") 336) (Value.ref 125), DictEntry.mk (PyData.keyHash P (Str.ofString "told")) (Value.str (Str.ofString "told") 343) (Value.ref 132), DictEntry.mk (PyData.keyHash P (Str.ofString "__static_attributes__")) (Value.str (Str.ofString "__static_attributes__") 363) (Value.ref 133), DictEntry.mk (PyData.keyHash P (Str.ofString "__dict__")) (Value.str (Str.ofString "__dict__") 365) (Value.ref 136), DictEntry.mk (PyData.keyHash P (Str.ofString "__weakref__")) (Value.str (Str.ofString "__weakref__") 367) (Value.ref 137), DictEntry.mk (PyData.keyHash P (Str.ofString "__doc__")) (Value.str (Str.ofString "__doc__") 368) Value.none] 4) #[],
  Obj.mk (Value.type "type") none (Data.cls (ClassData.mk (Str.ofString "Item") [Value.type "object"] [Value.ref 135, Value.type "object"] 134 (Str.ofString "Item") true [] [] false none false)) #[none, none, some (Value.str (Str.ofString "Item") 294), some (Value.str (Str.ofString "Item") 302), some (Value.builtin "object.__new__"), some (Value.bool true)],
  Obj.mk (Value.type "getset_descriptor") none (Data.fields #[Value.str (Str.ofString "__dict__") 364, Value.ref 135, Value.builtin "function.__dict__", Value.builtin "function.__dict__#set"]) #[],
  Obj.mk (Value.type "getset_descriptor") none (Data.fields #[Value.str (Str.ofString "__weakref__") 366, Value.ref 135, Value.builtin "ExceptionGroup.__weakref__", Value.none]) #[],
  Obj.mk (Value.type "super") none (Data.fields #[Value.ref 135, Value.ref 135, Value.ref 135]) #[],
  Obj.mk (Value.type "builtin_function_or_method") none (Data.fields #[Value.builtin "object.__init_subclass__", Value.ref 135]) #[]]) (Life.mk [] [] [] 0 [] [] false #[] [] 0 false false false 0 [2000, 10, 10] false 0 true [] [] 0 false)) _ _ _ rfl _ _ _ rfl _ _ _ rfl _ _ _ rfl _ _ _ rfl _ _ _ rfl _ _ _ rfl _ _ _ rfl _ _ _ rfl _ _ _ rfl _ _ _ rfl _ _ _ rfl _ _ _ rfl _ _ _ rfl _ _ _ rfl _ _ _ rfl _ _ _ rfl _ _ _ rfl _ _ _ rfl _ _ _ rfl _ _ _ rfl _ _ _ rfl _ _ _ rfl _ _ _ rfl _ _ _ rfl _ _ _ rfl _ _ _ rfl _ _ _ rfl _ _ _ rfl
noncomputable def hd.hM15 : Params → Heap := fun P => (fun (a21 : Arguments) (b21 : List Stmt) (s21 : Scope) (_ : hd.parts (hd.top 0) = (a21, b21, s21)) (a37 : Arguments) (b37 : List Stmt) (s37 : Scope) (_ : hd.parts (hd.sub 2 0) = (a37, b37, s37)) (a44 : Arguments) (b44 : List Stmt) (s44 : Scope) (_ : hd.parts (hd.sub 2 1) = (a44, b44, s44)) (a76 : Arguments) (b76 : List Stmt) (s76 : Scope) (_ : hd.parts (hd.sub 6 0) = (a76, b76, s76)) (a83 : Arguments) (b83 : List Stmt) (s83 : Scope) (_ : hd.parts (hd.sub 6 1) = (a83, b83, s83)) (a104 : Arguments) (b104 : List Stmt) (s104 : Scope) (_ : hd.parts (hd.sub 7 0) = (a104, b104, s104)) (a111 : Arguments) (b111 : List Stmt) (s111 : Scope) (_ : hd.parts (hd.sub 7 1) = (a111, b111, s111)) (a118 : Arguments) (b118 : List Stmt) (s118 : Scope) (_ : hd.parts (hd.sub 7 2) = (a118, b118, s118)) (a125 : Arguments) (b125 : List Stmt) (s125 : Scope) (_ : hd.parts (hd.sub 7 3) = (a125, b125, s125)) (a132 : Arguments) (b132 : List Stmt) (s132 : Scope) (_ : hd.parts (hd.sub 7 4) = (a132, b132, s132)) (a153 : Arguments) (b153 : List Stmt) (s153 : Scope) (_ : hd.parts (hd.sub 8 0) = (a153, b153, s153)) (a160 : Arguments) (b160 : List Stmt) (s160 : Scope) (_ : hd.parts (hd.sub 8 1) = (a160, b160, s160)) (a174 : Arguments) (b174 : List Stmt) (s174 : Scope) (_ : hd.parts (hd.top 9) = (a174, b174, s174)) (a181 : Arguments) (b181 : List Stmt) (s181 : Scope) (_ : hd.parts (hd.top 10) = (a181, b181, s181)) (a188 : Arguments) (b188 : List Stmt) (s188 : Scope) (_ : hd.parts (hd.top 11) = (a188, b188, s188)) (a195 : Arguments) (b195 : List Stmt) (s195 : Scope) (_ : hd.parts (hd.top 12) = (a195, b195, s195)) (a202 : Arguments) (b202 : List Stmt) (s202 : Scope) (_ : hd.parts (hd.top 13) = (a202, b202, s202)) (a207 : Arguments) (b207 : List Stmt) (s207 : Scope) (_ : hd.parts (hd.top 14) = (a207, b207, s207)) (a212 : Arguments) (b212 : List Stmt) (s212 : Scope) (_ : hd.parts (hd.top 16) = (a212, b212, s212)) (a219 : Arguments) (b219 : List Stmt) (s219 : Scope) (_ : hd.parts (hd.top 17) = (a219, b219, s219)) (a226 : Arguments) (b226 : List Stmt) (s226 : Scope) (_ : hd.parts (hd.top 18) = (a226, b226, s226)) (a231 : Arguments) (b231 : List Stmt) (s231 : Scope) (_ : hd.parts (hd.top 19) = (a231, b231, s231)) (a238 : Arguments) (b238 : List Stmt) (s238 : Scope) (_ : hd.parts (hd.top 20) = (a238, b238, s238)) (a245 : Arguments) (b245 : List Stmt) (s245 : Scope) (_ : hd.parts (hd.top 22) = (a245, b245, s245)) (a254 : Arguments) (b254 : List Stmt) (s254 : Scope) (_ : hd.parts (hd.top 25) = (a254, b254, s254)) (a261 : Arguments) (b261 : List Stmt) (s261 : Scope) (_ : hd.parts (hd.top 26) = (a261, b261, s261)) (a268 : Arguments) (b268 : List Stmt) (s268 : Scope) (_ : hd.parts (hd.top 27) = (a268, b268, s268)) (a275 : Arguments) (b275 : List Stmt) (s275 : Scope) (_ : hd.parts (hd.top 28) = (a275, b275, s275)) (a280 : Arguments) (b280 : List Stmt) (s280 : Scope) (_ : hd.parts (hd.top 29) = (a280, b280, s280)) => Heap.mk (Array.mk [boot_o_0 P,
  boot_o_1 P,
  Obj.mk Value.none none (Data.dict #[DictEntry.mk (PyData.keyHash P (Str.ofString "type.__subclasses__.Exception.0")) (Value.str (Str.ofString "type.__subclasses__.Exception.0") 232) (Value.int 47 0), DictEntry.mk (PyData.keyHash P (Str.ofString "type.__subclasses__.Exception.n")) (Value.str (Str.ofString "type.__subclasses__.Exception.n") 233) (Value.int 1 0)] 2) #[],
  Obj.mk (Value.type "dict") none (Data.dict #[DictEntry.mk (PyData.keyHash P (Str.ofString "__name__")) (Value.str (Str.ofString "__name__") 165) (Value.str (Str.ofString "ledgerspeak.items") 252), DictEntry.mk (PyData.keyHash P (Str.ofString "__doc__")) (Value.str (Str.ofString "__doc__") 166) Value.none, DictEntry.mk (PyData.keyHash P (Str.ofString "__package__")) (Value.str (Str.ofString "__package__") 167) Value.none, DictEntry.mk (PyData.keyHash P (Str.ofString "__loader__")) (Value.str (Str.ofString "__loader__") 168) (Value.builtin "__main__.__loader__#\x6fpaque"), DictEntry.mk (PyData.keyHash P (Str.ofString "__spec__")) (Value.str (Str.ofString "__spec__") 169) Value.none, DictEntry.mk (PyData.keyHash P (Str.ofString "__annotations__")) (Value.str (Str.ofString "__annotations__") 170) (Value.ref 6), DictEntry.mk (PyData.keyHash P (Str.ofString "__builtins__")) (Value.str (Str.ofString "__builtins__") 171) (Value.ref 4), DictEntry.mk (PyData.keyHash P (Str.ofString "__file__")) (Value.str (Str.ofString "__file__") 173) (Value.str (Str.ofString "/claim/cut.py") 172), DictEntry.mk (PyData.keyHash P (Str.ofString "__cached__")) (Value.str (Str.ofString "__cached__") 174) Value.none, DictEntry.mk (PyData.keyHash P (Str.ofString "_wall")) (Value.str (Str.ofString "_wall") 193) (Value.ref 21), DictEntry.mk (PyData.keyHash P (Str.ofString "LedgerError")) (Value.str (Str.ofString "LedgerError") 235) (Value.ref 47), DictEntry.mk (PyData.keyHash P (Str.ofString "CheckFault")) (Value.str (Str.ofString "CheckFault") 251) (Value.ref 60), DictEntry.mk (PyData.keyHash P (Str.ofString "FILLER")) (Value.str (Str.ofString "FILLER") 255) (Value.str (Str.ofString "FILLER") 254), DictEntry.mk (PyData.keyHash P (Str.ofString "Named")) (Value.str (Str.ofString "Named") 293) (Value.ref 86), DictEntry.mk (PyData.keyHash P (Str.ofString "Item")) (Value.str (Str.ofString "Item") 370) (Value.ref 135), DictEntry.mk (PyData.keyHash P (Str.ofString "Data")) (Value.str (Str.ofString "Data") 410) (Value.ref 163), DictEntry.mk (PyData.keyHash P (Str.ofString "records")) (Value.str (Str.ofString "records") 419) (Value.ref 174), DictEntry.mk (PyData.keyHash P (Str.ofString "items_under")) (Value.str (Str.ofString "items_under") 429) (Value.ref 181), DictEntry.mk (PyData.keyHash P (Str.ofString "all_items")) (Value.str (Str.ofString "all_items") 438) (Value.ref 188), DictEntry.mk (PyData.keyHash P (Str.ofString "items_around")) (Value.str (Str.ofString "items_around") 447) (Value.ref 195), DictEntry.mk (PyData.keyHash P (Str.ofString "root_of")) (Value.str (Str.ofString "root_of") 455) (Value.ref 202), DictEntry.mk (PyData.keyHash P (Str.ofString "names_around")) (Value.str (Str.ofString "names_around") 461) (Value.ref 207)] 22) #[],
  boot_o_4 P,
  boot_o_5 P,
  boot_o_6 P,
  boot_o_7 P,
  boot_o_8 P,
  boot_o_9 P,
  boot_o_10 P,
  Obj.mk (Value.type "tuple") none (Data.seq #[]) #[],
  Obj.mk Value.none none (Data.fields #[Value.int 1 0, Value.int 0 0, Value.ref 20, Value.int 5 0, Value.int 0 0, Value.ref 27, Value.int 14 0, Value.int 0 0, Value.ref 56, Value.int 18 0, Value.int 0 0, Value.ref 68, Value.int 26 0, Value.int 0 0, Value.ref 96, Value.int 61 0, Value.int 0 0, Value.ref 145, Value.int 73 0, Value.int 0 0, Value.ref 173, Value.int 78 0, Value.int 0 0, Value.ref 180, Value.int 86 0, Value.int 0 0, Value.ref 187, Value.int 91 0, Value.int 0 0, Value.ref 194, Value.int 98 0, Value.int 0 0, Value.ref 201, Value.int 101 0, Value.int 0 0, Value.ref 206]) #[],
  Obj.mk (Value.type "code") none (Data.fields #[Value.str (Str.ofString "<module>") 182, Value.str (Str.ofString "<module>") 183, Value.str (Str.ofString "/claim/cut.py") 184, Value.int 1 0, Value.int 0 0, Value.int 0 0, Value.int 0 0, Value.int 0 0, Value.ref 11, Value.bool false, Value.int 181 0, Value.ref 12, Value.none, Value.none, Value.none, Value.none, Value.int 185 0, Value.int 1 0, Value.str (Str.ofString "/claim/cut.py") 186]) #[],
  Obj.mk (Value.type "frame") none Data.plain #[some (Value.ref 13), some (Value.ref 3), some (Value.ref 3), none, some (Value.str (Str.ofString "__main__") 164), none, some (Value.ref 0)],
  Obj.mk (Value.type "tuple") none (Data.seq #[]) #[],
  Obj.mk Value.none none (Data.fields #[]) #[],
  Obj.mk (Value.type "tuple") none (Data.seq #[Value.str (Str.ofString "k") 190]) #[],
  Obj.mk (Value.type "tuple") none (Data.seq #[]) #[],
  Obj.mk (Value.none) (none) (Data.func (FuncData.mk (Str.ofString "_wall") (Str.ofString "_wall") a21 (FuncBody.stmts b21) s21 (0) ([]) (Value.none) (Value.none) (Value.none) (Value.none) (none) (Value.none) (Value.none) (0))) (#[]),
  Obj.mk (Value.type "code") none (Data.fields #[Value.str (Str.ofString "_wall") 187, Value.str (Str.ofString "_wall") 188, Value.str (Str.ofString "/claim/cut.py") 189, Value.int 1 0, Value.int 1 0, Value.int 0 0, Value.int 0 0, Value.int 3 0, Value.ref 15, Value.bool true, Value.int 181 0, Value.ref 16, Value.none, Value.ref 17, Value.ref 18, Value.ref 19, Value.int 191 0, Value.int 1 0, Value.str (Str.ofString "/claim/cut.py") 192]) #[],
  Obj.mk (Value.type "function") (none) (Data.func (FuncData.mk (Str.ofString "_wall") (Str.ofString "_wall") a21 (FuncBody.stmts b21) s21 (3) ([]) (Value.none) (Value.none) (Value.none) (Value.str (Str.ofString "__main__") 164) (none) (Value.ref 20) (Value.none) (0))) (#[]),
  Obj.mk (Value.type "tuple") none (Data.seq #[Value.type "Exception"]) #[],
  Obj.mk (Value.type "builtin_function_or_method") none (Data.fields #[Value.builtin "type.__prepare__", Value.type "type"]) #[],
  Obj.mk (Value.type "dict") none (Data.dict #[DictEntry.mk (PyData.keyHash P (Str.ofString "__module__")) (Value.str (Str.ofString "__module__") 203) (Value.str (Str.ofString "ledgerspeak.errors") 194), DictEntry.mk (PyData.keyHash P (Str.ofString "__qualname__")) (Value.str (Str.ofString "__qualname__") 205) (Value.str (Str.ofString "LedgerError") 204), DictEntry.mk (PyData.keyHash P (Str.ofString "__firstlineno__")) (Value.str (Str.ofString "__firstlineno__") 207) (Value.int 5 206), DictEntry.mk (PyData.keyHash P (Str.ofString "__init__")) (Value.str (Str.ofString "__init__") 218) (Value.ref 37), DictEntry.mk (PyData.keyHash P (Str.ofString "told")) (Value.str (Str.ofString "told") 225) (Value.ref 44), DictEntry.mk (PyData.keyHash P (Str.ofString "__static_attributes__")) (Value.str (Str.ofString "__static_attributes__") 228) (Value.ref 45)] 6) #[],
  Obj.mk (Value.type "tuple") none (Data.seq #[]) #[],
  Obj.mk Value.none none (Data.fields #[Value.int 7 0, Value.int 4 0, Value.ref 36, Value.int 12 0, Value.int 4 0, Value.ref 43]) #[],
  Obj.mk (Value.type "code") none (Data.fields #[Value.str (Str.ofString "LedgerError") 198, Value.str (Str.ofString "LedgerError") 199, Value.str (Str.ofString "/claim/cut.py") 200, Value.int 5 0, Value.int 0 0, Value.int 0 0, Value.int 0 0, Value.int 0 0, Value.ref 25, Value.bool false, Value.int 181 0, Value.ref 26, Value.none, Value.none, Value.none, Value.none, Value.int 201 0, Value.int 5 0, Value.str (Str.ofString "/claim/cut.py") 202]) #[],
  Obj.mk (Value.type "frame") none Data.plain #[some (Value.ref 27), some (Value.ref 3), some (Value.ref 24), none, some (Value.str (Str.ofString "ledgerspeak.errors") 194), none, some (Value.ref 0)],
  Obj.mk (Value.type "tuple") none (Data.seq #[Value.int 0 208, Value.int 0 209]) #[],
  Obj.mk (Value.type "tuple") none (Data.seq #[Value.ref 29]) #[],
  Obj.mk (Value.type "tuple") none (Data.seq #[]) #[],
  Obj.mk Value.none none (Data.fields #[]) #[],
  Obj.mk (Value.type "tuple") none (Data.seq #[Value.str (Str.ofString "self") 213, Value.str (Str.ofString "what") 214, Value.str (Str.ofString "at") 215]) #[],
  Obj.mk (Value.type "tuple") none (Data.seq #[]) #[],
  Obj.mk (Value.none) (none) (Data.func (FuncData.mk (Str.ofString "__init__") (Str.ofString "LedgerError.__init__") a37 (FuncBody.stmts b37) s37 (0) ([]) (Value.none) (Value.none) (Value.none) (Value.none) (none) (Value.none) (Value.none) (0))) (#[]),
  Obj.mk (Value.type "code") none (Data.fields #[Value.str (Str.ofString "__init__") 210, Value.str (Str.ofString "LedgerError.__init__") 211, Value.str (Str.ofString "/claim/cut.py") 212, Value.int 7 0, Value.int 3 0, Value.int 0 0, Value.int 0 0, Value.int 3 0, Value.ref 31, Value.bool true, Value.int 181 0, Value.ref 32, Value.none, Value.ref 33, Value.ref 34, Value.ref 35, Value.int 216 0, Value.int 7 0, Value.str (Str.ofString "/claim/cut.py") 217]) #[],
  Obj.mk (Value.type "function") (none) (Data.func (FuncData.mk (Str.ofString "__init__") (Str.ofString "LedgerError.__init__") a37 (FuncBody.stmts b37) s37 (3) ([]) (Value.ref 30) (Value.none) (Value.none) (Value.str (Str.ofString "ledgerspeak.errors") 194) (none) (Value.ref 36) (Value.none) (0))) (#[]),
  Obj.mk (Value.type "tuple") none (Data.seq #[]) #[],
  Obj.mk Value.none none (Data.fields #[]) #[],
  Obj.mk (Value.type "tuple") none (Data.seq #[Value.str (Str.ofString "self") 222]) #[],
  Obj.mk (Value.type "tuple") none (Data.seq #[]) #[],
  Obj.mk (Value.none) (none) (Data.func (FuncData.mk (Str.ofString "told") (Str.ofString "LedgerError.told") a44 (FuncBody.stmts b44) s44 (0) ([]) (Value.none) (Value.none) (Value.none) (Value.none) (none) (Value.none) (Value.none) (0))) (#[]),
  Obj.mk (Value.type "code") none (Data.fields #[Value.str (Str.ofString "told") 219, Value.str (Str.ofString "LedgerError.told") 220, Value.str (Str.ofString "/claim/cut.py") 221, Value.int 12 0, Value.int 1 0, Value.int 0 0, Value.int 0 0, Value.int 3 0, Value.ref 38, Value.bool true, Value.int 181 0, Value.ref 39, Value.none, Value.ref 40, Value.ref 41, Value.ref 42, Value.int 223 0, Value.int 12 0, Value.str (Str.ofString "/claim/cut.py") 224]) #[],
  Obj.mk (Value.type "function") (none) (Data.func (FuncData.mk (Str.ofString "told") (Str.ofString "LedgerError.told") a44 (FuncBody.stmts b44) s44 (3) ([]) (Value.none) (Value.none) (Value.none) (Value.str (Str.ofString "ledgerspeak.errors") 194) (none) (Value.ref 43) (Value.none) (0))) (#[]),
  Obj.mk (Value.type "tuple") none (Data.seq #[Value.str (Str.ofString "at") 226, Value.str (Str.ofString "what") 227]) #[],
  Obj.mk (Value.type "dict") none (Data.dict #[DictEntry.mk (PyData.keyHash P (Str.ofString "__module__")) (Value.str (Str.ofString "__module__") 203) (Value.str (Str.ofString "ledgerspeak.errors") 194), DictEntry.mk (PyData.keyHash P (Str.ofString "__firstlineno__")) (Value.str (Str.ofString "__firstlineno__") 207) (Value.int 5 206), DictEntry.mk (PyData.keyHash P (Str.ofString "__init__")) (Value.str (Str.ofString "__init__") 218) (Value.ref 37), DictEntry.mk (PyData.keyHash P (Str.ofString "told")) (Value.str (Str.ofString "told") 225) (Value.ref 44), DictEntry.mk (PyData.keyHash P (Str.ofString "__static_attributes__")) (Value.str (Str.ofString "__static_attributes__") 228) (Value.ref 45), DictEntry.mk (PyData.keyHash P (Str.ofString "__weakref__")) (Value.str (Str.ofString "__weakref__") 230) (Value.ref 48), DictEntry.mk (PyData.keyHash P (Str.ofString "__doc__")) (Value.str (Str.ofString "__doc__") 231) Value.none] 3) #[],
  Obj.mk (Value.type "type") none (Data.cls (ClassData.mk (Str.ofString "LedgerError") [Value.type "Exception"] [Value.ref 47, Value.type "Exception", Value.type "BaseException", Value.type "object"] 46 (Str.ofString "LedgerError") true [] [Value.ref 60] false none false)) #[some (Value.ref 22), none, some (Value.str (Str.ofString "LedgerError") 196), some (Value.str (Str.ofString "LedgerError") 204), some (Value.builtin "Exception.__new__"), some (Value.bool true)],
  Obj.mk (Value.type "getset_descriptor") none (Data.fields #[Value.str (Str.ofString "__weakref__") 229, Value.ref 47, Value.builtin "ExceptionGroup.__weakref__", Value.none]) #[],
  Obj.mk (Value.type "super") none (Data.fields #[Value.ref 47, Value.ref 47, Value.ref 47]) #[],
  Obj.mk (Value.type "builtin_function_or_method") none (Data.fields #[Value.builtin "object.__init_subclass__", Value.ref 47]) #[],
  Obj.mk (Value.type "tuple") none (Data.seq #[Value.ref 47]) #[],
  Obj.mk (Value.type "builtin_function_or_method") none (Data.fields #[Value.builtin "type.__prepare__", Value.type "type"]) #[],
  Obj.mk (Value.type "dict") none (Data.dict #[DictEntry.mk (PyData.keyHash P (Str.ofString "__module__")) (Value.str (Str.ofString "__module__") 243) (Value.str (Str.ofString "ledgerspeak.errors") 194), DictEntry.mk (PyData.keyHash P (Str.ofString "__qualname__")) (Value.str (Str.ofString "__qualname__") 245) (Value.str (Str.ofString "CheckFault") 244), DictEntry.mk (PyData.keyHash P (Str.ofString "__firstlineno__")) (Value.str (Str.ofString "__firstlineno__") 247) (Value.int 14 246), DictEntry.mk (PyData.keyHash P (Str.ofString "__static_attributes__")) (Value.str (Str.ofString "__static_attributes__") 248) (Value.ref 58)] 4) #[],
  Obj.mk (Value.type "tuple") none (Data.seq #[]) #[],
  Obj.mk Value.none none (Data.fields #[]) #[],
  Obj.mk (Value.type "code") none (Data.fields #[Value.str (Str.ofString "CheckFault") 238, Value.str (Str.ofString "CheckFault") 239, Value.str (Str.ofString "/claim/cut.py") 240, Value.int 14 0, Value.int 0 0, Value.int 0 0, Value.int 0 0, Value.int 0 0, Value.ref 54, Value.bool false, Value.int 181 0, Value.ref 55, Value.none, Value.none, Value.none, Value.none, Value.int 241 0, Value.int 14 0, Value.str (Str.ofString "/claim/cut.py") 242]) #[],
  Obj.mk (Value.type "frame") none Data.plain #[some (Value.ref 56), some (Value.ref 3), some (Value.ref 53), none, some (Value.str (Str.ofString "ledgerspeak.errors") 194), none, some (Value.ref 0)],
  Obj.mk (Value.type "tuple") none (Data.seq #[]) #[],
  Obj.mk (Value.type "dict") none (Data.dict #[DictEntry.mk (PyData.keyHash P (Str.ofString "__module__")) (Value.str (Str.ofString "__module__") 243) (Value.str (Str.ofString "ledgerspeak.errors") 194), DictEntry.mk (PyData.keyHash P (Str.ofString "__firstlineno__")) (Value.str (Str.ofString "__firstlineno__") 247) (Value.int 14 246), DictEntry.mk (PyData.keyHash P (Str.ofString "__static_attributes__")) (Value.str (Str.ofString "__static_attributes__") 248) (Value.ref 58), DictEntry.mk (PyData.keyHash P (Str.ofString "__doc__")) (Value.str (Str.ofString "__doc__") 249) Value.none] 2) #[],
  Obj.mk (Value.type "type") none (Data.cls (ClassData.mk (Str.ofString "CheckFault") [Value.ref 47] [Value.ref 60, Value.ref 47, Value.type "Exception", Value.type "BaseException", Value.type "object"] 59 (Str.ofString "CheckFault") true [] [] false none false)) #[some (Value.ref 51), none, some (Value.str (Str.ofString "CheckFault") 236), some (Value.str (Str.ofString "CheckFault") 244), some (Value.builtin "Exception.__new__"), some (Value.bool true)],
  Obj.mk (Value.type "super") none (Data.fields #[Value.ref 60, Value.ref 60, Value.ref 60]) #[],
  Obj.mk (Value.type "builtin_function_or_method") none (Data.fields #[Value.builtin "object.__init_subclass__", Value.ref 60]) #[],
  Obj.mk (Value.type "tuple") none (Data.seq #[]) #[],
  Obj.mk (Value.type "builtin_function_or_method") none (Data.fields #[Value.builtin "type.__prepare__", Value.type "type"]) #[],
  Obj.mk (Value.type "dict") none (Data.dict #[DictEntry.mk (PyData.keyHash P (Str.ofString "__module__")) (Value.str (Str.ofString "__module__") 263) (Value.str (Str.ofString "ledgerspeak.items") 252), DictEntry.mk (PyData.keyHash P (Str.ofString "__qualname__")) (Value.str (Str.ofString "__qualname__") 265) (Value.str (Str.ofString "Named") 264), DictEntry.mk (PyData.keyHash P (Str.ofString "__firstlineno__")) (Value.str (Str.ofString "__firstlineno__") 267) (Value.int 18 266), DictEntry.mk (PyData.keyHash P (Str.ofString "__init__")) (Value.str (Str.ofString "__init__") 276) (Value.ref 76), DictEntry.mk (PyData.keyHash P (Str.ofString "told")) (Value.str (Str.ofString "told") 283) (Value.ref 83), DictEntry.mk (PyData.keyHash P (Str.ofString "__static_attributes__")) (Value.str (Str.ofString "__static_attributes__") 286) (Value.ref 84)] 6) #[],
  Obj.mk (Value.type "tuple") none (Data.seq #[]) #[],
  Obj.mk Value.none none (Data.fields #[Value.int 20 0, Value.int 4 0, Value.ref 75, Value.int 24 0, Value.int 4 0, Value.ref 82]) #[],
  Obj.mk (Value.type "code") none (Data.fields #[Value.str (Str.ofString "Named") 258, Value.str (Str.ofString "Named") 259, Value.str (Str.ofString "/claim/cut.py") 260, Value.int 18 0, Value.int 0 0, Value.int 0 0, Value.int 0 0, Value.int 0 0, Value.ref 66, Value.bool false, Value.int 181 0, Value.ref 67, Value.none, Value.none, Value.none, Value.none, Value.int 261 0, Value.int 18 0, Value.str (Str.ofString "/claim/cut.py") 262]) #[],
  Obj.mk (Value.type "frame") none Data.plain #[some (Value.ref 68), some (Value.ref 3), some (Value.ref 65), none, some (Value.str (Str.ofString "ledgerspeak.items") 252), none, some (Value.ref 0)],
  Obj.mk (Value.type "tuple") none (Data.seq #[]) #[],
  Obj.mk Value.none none (Data.fields #[]) #[],
  Obj.mk (Value.type "tuple") none (Data.seq #[Value.str (Str.ofString "self") 271, Value.str (Str.ofString "name") 272, Value.str (Str.ofString "rows") 273]) #[],
  Obj.mk (Value.type "tuple") none (Data.seq #[]) #[],
  Obj.mk (Value.none) (none) (Data.func (FuncData.mk (Str.ofString "__init__") (Str.ofString "Named.__init__") a76 (FuncBody.stmts b76) s76 (0) ([]) (Value.none) (Value.none) (Value.none) (Value.none) (none) (Value.none) (Value.none) (0))) (#[]),
  Obj.mk (Value.type "code") none (Data.fields #[Value.str (Str.ofString "__init__") 268, Value.str (Str.ofString "Named.__init__") 269, Value.str (Str.ofString "/claim/cut.py") 270, Value.int 20 0, Value.int 3 0, Value.int 0 0, Value.int 0 0, Value.int 3 0, Value.ref 70, Value.bool true, Value.int 181 0, Value.ref 71, Value.none, Value.ref 72, Value.ref 73, Value.ref 74, Value.int 274 0, Value.int 20 0, Value.str (Str.ofString "/claim/cut.py") 275]) #[],
  Obj.mk (Value.type "function") (none) (Data.func (FuncData.mk (Str.ofString "__init__") (Str.ofString "Named.__init__") a76 (FuncBody.stmts b76) s76 (3) ([]) (Value.none) (Value.none) (Value.none) (Value.str (Str.ofString "ledgerspeak.items") 252) (none) (Value.ref 75) (Value.none) (0))) (#[]),
  Obj.mk (Value.type "tuple") none (Data.seq #[]) #[],
  Obj.mk Value.none none (Data.fields #[]) #[],
  Obj.mk (Value.type "tuple") none (Data.seq #[Value.str (Str.ofString "self") 280]) #[],
  Obj.mk (Value.type "tuple") none (Data.seq #[]) #[],
  Obj.mk (Value.none) (none) (Data.func (FuncData.mk (Str.ofString "told") (Str.ofString "Named.told") a83 (FuncBody.stmts b83) s83 (0) ([]) (Value.none) (Value.none) (Value.none) (Value.none) (none) (Value.none) (Value.none) (0))) (#[]),
  Obj.mk (Value.type "code") none (Data.fields #[Value.str (Str.ofString "told") 277, Value.str (Str.ofString "Named.told") 278, Value.str (Str.ofString "/claim/cut.py") 279, Value.int 24 0, Value.int 1 0, Value.int 0 0, Value.int 0 0, Value.int 3 0, Value.ref 77, Value.bool true, Value.int 181 0, Value.ref 78, Value.none, Value.ref 79, Value.ref 80, Value.ref 81, Value.int 281 0, Value.int 24 0, Value.str (Str.ofString "/claim/cut.py") 282]) #[],
  Obj.mk (Value.type "function") (none) (Data.func (FuncData.mk (Str.ofString "told") (Str.ofString "Named.told") a83 (FuncBody.stmts b83) s83 (3) ([]) (Value.none) (Value.none) (Value.none) (Value.str (Str.ofString "ledgerspeak.items") 252) (none) (Value.ref 82) (Value.none) (0))) (#[]),
  Obj.mk (Value.type "tuple") none (Data.seq #[Value.str (Str.ofString "name") 284, Value.str (Str.ofString "rows") 285]) #[],
  Obj.mk (Value.type "dict") none (Data.dict #[DictEntry.mk (PyData.keyHash P (Str.ofString "__module__")) (Value.str (Str.ofString "__module__") 263) (Value.str (Str.ofString "ledgerspeak.items") 252), DictEntry.mk (PyData.keyHash P (Str.ofString "__firstlineno__")) (Value.str (Str.ofString "__firstlineno__") 267) (Value.int 18 266), DictEntry.mk (PyData.keyHash P (Str.ofString "__init__")) (Value.str (Str.ofString "__init__") 276) (Value.ref 76), DictEntry.mk (PyData.keyHash P (Str.ofString "told")) (Value.str (Str.ofString "told") 283) (Value.ref 83), DictEntry.mk (PyData.keyHash P (Str.ofString "__static_attributes__")) (Value.str (Str.ofString "__static_attributes__") 286) (Value.ref 84), DictEntry.mk (PyData.keyHash P (Str.ofString "__dict__")) (Value.str (Str.ofString "__dict__") 288) (Value.ref 87), DictEntry.mk (PyData.keyHash P (Str.ofString "__weakref__")) (Value.str (Str.ofString "__weakref__") 290) (Value.ref 88), DictEntry.mk (PyData.keyHash P (Str.ofString "__doc__")) (Value.str (Str.ofString "__doc__") 291) Value.none] 4) #[],
  Obj.mk (Value.type "type") none (Data.cls (ClassData.mk (Str.ofString "Named") [Value.type "object"] [Value.ref 86, Value.type "object"] 85 (Str.ofString "Named") true [] [] false none false)) #[none, none, some (Value.str (Str.ofString "Named") 256), some (Value.str (Str.ofString "Named") 264), some (Value.builtin "object.__new__"), some (Value.bool true)],
  Obj.mk (Value.type "getset_descriptor") none (Data.fields #[Value.str (Str.ofString "__dict__") 287, Value.ref 86, Value.builtin "function.__dict__", Value.builtin "function.__dict__#set"]) #[],
  Obj.mk (Value.type "getset_descriptor") none (Data.fields #[Value.str (Str.ofString "__weakref__") 289, Value.ref 86, Value.builtin "ExceptionGroup.__weakref__", Value.none]) #[],
  Obj.mk (Value.type "super") none (Data.fields #[Value.ref 86, Value.ref 86, Value.ref 86]) #[],
  Obj.mk (Value.type "builtin_function_or_method") none (Data.fields #[Value.builtin "object.__init_subclass__", Value.ref 86]) #[],
  Obj.mk (Value.type "tuple") none (Data.seq #[]) #[],
  Obj.mk (Value.type "builtin_function_or_method") none (Data.fields #[Value.builtin "type.__prepare__", Value.type "type"]) #[],
  Obj.mk (Value.type "dict") none (Data.dict #[DictEntry.mk (PyData.keyHash P (Str.ofString "__module__")) (Value.str (Str.ofString "__module__") 301) (Value.str (Str.ofString "ledgerspeak.items") 252), DictEntry.mk (PyData.keyHash P (Str.ofString "__qualname__")) (Value.str (Str.ofString "__qualname__") 303) (Value.str (Str.ofString "Item") 302), DictEntry.mk (PyData.keyHash P (Str.ofString "__firstlineno__")) (Value.str (Str.ofString "__firstlineno__") 305) (Value.int 26 304), DictEntry.mk (PyData.keyHash P (Str.ofString "__init__")) (Value.str (Str.ofString "__init__") 314) (Value.ref 104), DictEntry.mk (PyData.keyHash P (Str.ofString "add")) (Value.str (Str.ofString "add") 322) (Value.ref 111), DictEntry.mk (PyData.keyHash P (Str.ofString "count")) (Value.str (Str.ofString "count") 329) (Value.ref 118), DictEntry.mk (PyData.keyHash P (Str.ofString "clauses")) (Value.str (Str.ofString "clauses") 336) (Value.ref 125), DictEntry.mk (PyData.keyHash P (Str.ofString "told")) (Value.str (Str.ofString "told") 343) (Value.ref 132), DictEntry.mk (PyData.keyHash P (Str.ofString "__static_attributes__")) (Value.str (Str.ofString "__static_attributes__") 363) (Value.ref 133)] 9) #[],
  Obj.mk (Value.type "tuple") none (Data.seq #[]) #[],
  Obj.mk Value.none none (Data.fields #[Value.int 28 0, Value.int 4 0, Value.ref 103, Value.int 49 0, Value.int 4 0, Value.ref 110, Value.int 53 0, Value.int 4 0, Value.ref 117, Value.int 56 0, Value.int 4 0, Value.ref 124, Value.int 59 0, Value.int 4 0, Value.ref 131]) #[],
  Obj.mk (Value.type "code") none (Data.fields #[Value.str (Str.ofString "Item") 296, Value.str (Str.ofString "Item") 297, Value.str (Str.ofString "/claim/cut.py") 298, Value.int 26 0, Value.int 0 0, Value.int 0 0, Value.int 0 0, Value.int 0 0, Value.ref 94, Value.bool false, Value.int 181 0, Value.ref 95, Value.none, Value.none, Value.none, Value.none, Value.int 299 0, Value.int 26 0, Value.str (Str.ofString "/claim/cut.py") 300]) #[],
  Obj.mk (Value.type "frame") none Data.plain #[some (Value.ref 96), some (Value.ref 3), some (Value.ref 93), none, some (Value.str (Str.ofString "ledgerspeak.items") 252), none, some (Value.ref 0)],
  Obj.mk (Value.type "tuple") none (Data.seq #[]) #[],
  Obj.mk Value.none none (Data.fields #[]) #[],
  Obj.mk (Value.type "tuple") none (Data.seq #[Value.str (Str.ofString "self") 309, Value.str (Str.ofString "level") 310, Value.str (Str.ofString "name") 311]) #[],
  Obj.mk (Value.type "tuple") none (Data.seq #[]) #[],
  Obj.mk (Value.none) (none) (Data.func (FuncData.mk (Str.ofString "__init__") (Str.ofString "Item.__init__") a104 (FuncBody.stmts b104) s104 (0) ([]) (Value.none) (Value.none) (Value.none) (Value.none) (none) (Value.none) (Value.none) (0))) (#[]),
  Obj.mk (Value.type "code") none (Data.fields #[Value.str (Str.ofString "__init__") 306, Value.str (Str.ofString "Item.__init__") 307, Value.str (Str.ofString "/claim/cut.py") 308, Value.int 28 0, Value.int 3 0, Value.int 0 0, Value.int 0 0, Value.int 3 0, Value.ref 98, Value.bool true, Value.int 181 0, Value.ref 99, Value.none, Value.ref 100, Value.ref 101, Value.ref 102, Value.int 312 0, Value.int 28 0, Value.str (Str.ofString "/claim/cut.py") 313]) #[],
  Obj.mk (Value.type "function") (none) (Data.func (FuncData.mk (Str.ofString "__init__") (Str.ofString "Item.__init__") a104 (FuncBody.stmts b104) s104 (3) ([]) (Value.none) (Value.none) (Value.none) (Value.str (Str.ofString "ledgerspeak.items") 252) (none) (Value.ref 103) (Value.none) (0))) (#[]),
  Obj.mk (Value.type "tuple") none (Data.seq #[]) #[],
  Obj.mk Value.none none (Data.fields #[]) #[],
  Obj.mk (Value.type "tuple") none (Data.seq #[Value.str (Str.ofString "self") 318, Value.str (Str.ofString "kid") 319]) #[],
  Obj.mk (Value.type "tuple") none (Data.seq #[]) #[],
  Obj.mk (Value.none) (none) (Data.func (FuncData.mk (Str.ofString "add") (Str.ofString "Item.add") a111 (FuncBody.stmts b111) s111 (0) ([]) (Value.none) (Value.none) (Value.none) (Value.none) (none) (Value.none) (Value.none) (0))) (#[]),
  Obj.mk (Value.type "code") none (Data.fields #[Value.str (Str.ofString "add") 315, Value.str (Str.ofString "Item.add") 316, Value.str (Str.ofString "/claim/cut.py") 317, Value.int 49 0, Value.int 2 0, Value.int 0 0, Value.int 0 0, Value.int 3 0, Value.ref 105, Value.bool true, Value.int 181 0, Value.ref 106, Value.none, Value.ref 107, Value.ref 108, Value.ref 109, Value.int 320 0, Value.int 49 0, Value.str (Str.ofString "/claim/cut.py") 321]) #[],
  Obj.mk (Value.type "function") (none) (Data.func (FuncData.mk (Str.ofString "add") (Str.ofString "Item.add") a111 (FuncBody.stmts b111) s111 (3) ([]) (Value.none) (Value.none) (Value.none) (Value.str (Str.ofString "ledgerspeak.items") 252) (none) (Value.ref 110) (Value.none) (0))) (#[]),
  Obj.mk (Value.type "tuple") none (Data.seq #[]) #[],
  Obj.mk Value.none none (Data.fields #[]) #[],
  Obj.mk (Value.type "tuple") none (Data.seq #[Value.str (Str.ofString "self") 326]) #[],
  Obj.mk (Value.type "tuple") none (Data.seq #[]) #[],
  Obj.mk (Value.none) (none) (Data.func (FuncData.mk (Str.ofString "count") (Str.ofString "Item.count") a118 (FuncBody.stmts b118) s118 (0) ([]) (Value.none) (Value.none) (Value.none) (Value.none) (none) (Value.none) (Value.none) (0))) (#[]),
  Obj.mk (Value.type "code") none (Data.fields #[Value.str (Str.ofString "count") 323, Value.str (Str.ofString "Item.count") 324, Value.str (Str.ofString "/claim/cut.py") 325, Value.int 53 0, Value.int 1 0, Value.int 0 0, Value.int 0 0, Value.int 3 0, Value.ref 112, Value.bool true, Value.int 181 0, Value.ref 113, Value.none, Value.ref 114, Value.ref 115, Value.ref 116, Value.int 327 0, Value.int 53 0, Value.str (Str.ofString "/claim/cut.py") 328]) #[],
  Obj.mk (Value.type "function") (none) (Data.func (FuncData.mk (Str.ofString "count") (Str.ofString "Item.count") a118 (FuncBody.stmts b118) s118 (3) ([]) (Value.none) (Value.none) (Value.none) (Value.str (Str.ofString "ledgerspeak.items") 252) (none) (Value.ref 117) (Value.none) (0))) (#[]),
  Obj.mk (Value.type "tuple") none (Data.seq #[]) #[],
  Obj.mk Value.none none (Data.fields #[]) #[],
  Obj.mk (Value.type "tuple") none (Data.seq #[Value.str (Str.ofString "self") 333]) #[],
  Obj.mk (Value.type "tuple") none (Data.seq #[]) #[],
  Obj.mk (Value.none) (none) (Data.func (FuncData.mk (Str.ofString "clauses") (Str.ofString "Item.clauses") a125 (FuncBody.stmts b125) s125 (0) ([]) (Value.none) (Value.none) (Value.none) (Value.none) (none) (Value.none) (Value.none) (0))) (#[]),
  Obj.mk (Value.type "code") none (Data.fields #[Value.str (Str.ofString "clauses") 330, Value.str (Str.ofString "Item.clauses") 331, Value.str (Str.ofString "/claim/cut.py") 332, Value.int 56 0, Value.int 1 0, Value.int 0 0, Value.int 0 0, Value.int 3 0, Value.ref 119, Value.bool true, Value.int 181 0, Value.ref 120, Value.none, Value.ref 121, Value.ref 122, Value.ref 123, Value.int 334 0, Value.int 56 0, Value.str (Str.ofString "/claim/cut.py") 335]) #[],
  Obj.mk (Value.type "function") (none) (Data.func (FuncData.mk (Str.ofString "clauses") (Str.ofString "Item.clauses") a125 (FuncBody.stmts b125) s125 (3) ([]) (Value.none) (Value.none) (Value.none) (Value.str (Str.ofString "ledgerspeak.items") 252) (none) (Value.ref 124) (Value.none) (0))) (#[]),
  Obj.mk (Value.type "tuple") none (Data.seq #[]) #[],
  Obj.mk Value.none none (Data.fields #[]) #[],
  Obj.mk (Value.type "tuple") none (Data.seq #[Value.str (Str.ofString "self") 340]) #[],
  Obj.mk (Value.type "tuple") none (Data.seq #[]) #[],
  Obj.mk (Value.none) (none) (Data.func (FuncData.mk (Str.ofString "told") (Str.ofString "Item.told") a132 (FuncBody.stmts b132) s132 (0) ([]) (Value.none) (Value.none) (Value.none) (Value.none) (none) (Value.none) (Value.none) (0))) (#[]),
  Obj.mk (Value.type "code") none (Data.fields #[Value.str (Str.ofString "told") 337, Value.str (Str.ofString "Item.told") 338, Value.str (Str.ofString "/claim/cut.py") 339, Value.int 59 0, Value.int 1 0, Value.int 0 0, Value.int 0 0, Value.int 3 0, Value.ref 126, Value.bool true, Value.int 181 0, Value.ref 127, Value.none, Value.ref 128, Value.ref 129, Value.ref 130, Value.int 341 0, Value.int 59 0, Value.str (Str.ofString "/claim/cut.py") 342]) #[],
  Obj.mk (Value.type "function") (none) (Data.func (FuncData.mk (Str.ofString "told") (Str.ofString "Item.told") a132 (FuncBody.stmts b132) s132 (3) ([]) (Value.none) (Value.none) (Value.none) (Value.str (Str.ofString "ledgerspeak.items") 252) (none) (Value.ref 131) (Value.none) (0))) (#[]),
  Obj.mk (Value.type "tuple") none (Data.seq #[Value.str (Str.ofString "base") 344, Value.str (Str.ofString "conditions") 345, Value.str (Str.ofString "is_blank_zero") 346, Value.str (Str.ofString "is_justified") 347, Value.str (Str.ofString "is_separate") 348, Value.str (Str.ofString "kids") 349, Value.str (Str.ofString "level") 350, Value.str (Str.ofString "name") 351, Value.str (Str.ofString "occurs") 352, Value.str (Str.ofString "offset") 353, Value.str (Str.ofString "parent") 354, Value.str (Str.ofString "picture_text") 355, Value.str (Str.ofString "redefines") 356, Value.str (Str.ofString "renames") 357, Value.str (Str.ofString "shape") 358, Value.str (Str.ofString "sign") 359, Value.str (Str.ofString "size") 360, Value.str (Str.ofString "usage") 361, Value.str (Str.ofString "value") 362]) #[],
  Obj.mk (Value.type "dict") none (Data.dict #[DictEntry.mk (PyData.keyHash P (Str.ofString "__module__")) (Value.str (Str.ofString "__module__") 301) (Value.str (Str.ofString "ledgerspeak.items") 252), DictEntry.mk (PyData.keyHash P (Str.ofString "__firstlineno__")) (Value.str (Str.ofString "__firstlineno__") 305) (Value.int 26 304), DictEntry.mk (PyData.keyHash P (Str.ofString "__init__")) (Value.str (Str.ofString "__init__") 314) (Value.ref 104), DictEntry.mk (PyData.keyHash P (Str.ofString "add")) (Value.str (Str.ofString "add") 322) (Value.ref 111), DictEntry.mk (PyData.keyHash P (Str.ofString "count")) (Value.str (Str.ofString "count") 329) (Value.ref 118), DictEntry.mk (PyData.keyHash P (Str.ofString "clauses")) (Value.str (Str.ofString "clauses") 336) (Value.ref 125), DictEntry.mk (PyData.keyHash P (Str.ofString "told")) (Value.str (Str.ofString "told") 343) (Value.ref 132), DictEntry.mk (PyData.keyHash P (Str.ofString "__static_attributes__")) (Value.str (Str.ofString "__static_attributes__") 363) (Value.ref 133), DictEntry.mk (PyData.keyHash P (Str.ofString "__dict__")) (Value.str (Str.ofString "__dict__") 365) (Value.ref 136), DictEntry.mk (PyData.keyHash P (Str.ofString "__weakref__")) (Value.str (Str.ofString "__weakref__") 367) (Value.ref 137), DictEntry.mk (PyData.keyHash P (Str.ofString "__doc__")) (Value.str (Str.ofString "__doc__") 368) Value.none] 4) #[],
  Obj.mk (Value.type "type") none (Data.cls (ClassData.mk (Str.ofString "Item") [Value.type "object"] [Value.ref 135, Value.type "object"] 134 (Str.ofString "Item") true [] [] false none false)) #[none, none, some (Value.str (Str.ofString "Item") 294), some (Value.str (Str.ofString "Item") 302), some (Value.builtin "object.__new__"), some (Value.bool true)],
  Obj.mk (Value.type "getset_descriptor") none (Data.fields #[Value.str (Str.ofString "__dict__") 364, Value.ref 135, Value.builtin "function.__dict__", Value.builtin "function.__dict__#set"]) #[],
  Obj.mk (Value.type "getset_descriptor") none (Data.fields #[Value.str (Str.ofString "__weakref__") 366, Value.ref 135, Value.builtin "ExceptionGroup.__weakref__", Value.none]) #[],
  Obj.mk (Value.type "super") none (Data.fields #[Value.ref 135, Value.ref 135, Value.ref 135]) #[],
  Obj.mk (Value.type "builtin_function_or_method") none (Data.fields #[Value.builtin "object.__init_subclass__", Value.ref 135]) #[],
  Obj.mk (Value.type "tuple") none (Data.seq #[]) #[],
  Obj.mk (Value.type "builtin_function_or_method") none (Data.fields #[Value.builtin "type.__prepare__", Value.type "type"]) #[],
  Obj.mk (Value.type "dict") none (Data.dict #[DictEntry.mk (PyData.keyHash P (Str.ofString "__module__")) (Value.str (Str.ofString "__module__") 378) (Value.str (Str.ofString "ledgerspeak.items") 252), DictEntry.mk (PyData.keyHash P (Str.ofString "__qualname__")) (Value.str (Str.ofString "__qualname__") 380) (Value.str (Str.ofString "Data") 379), DictEntry.mk (PyData.keyHash P (Str.ofString "__firstlineno__")) (Value.str (Str.ofString "__firstlineno__") 382) (Value.int 61 381), DictEntry.mk (PyData.keyHash P (Str.ofString "__init__")) (Value.str (Str.ofString "__init__") 389) (Value.ref 153), DictEntry.mk (PyData.keyHash P (Str.ofString "told")) (Value.str (Str.ofString "told") 396) (Value.ref 160), DictEntry.mk (PyData.keyHash P (Str.ofString "__static_attributes__")) (Value.str (Str.ofString "__static_attributes__") 403) (Value.ref 161)] 6) #[],
  Obj.mk (Value.type "tuple") none (Data.seq #[]) #[],
  Obj.mk Value.none none (Data.fields #[Value.int 63 0, Value.int 4 0, Value.ref 152, Value.int 71 0, Value.int 4 0, Value.ref 159]) #[],
  Obj.mk (Value.type "code") none (Data.fields #[Value.str (Str.ofString "Data") 373, Value.str (Str.ofString "Data") 374, Value.str (Str.ofString "/claim/cut.py") 375, Value.int 61 0, Value.int 0 0, Value.int 0 0, Value.int 0 0, Value.int 0 0, Value.ref 143, Value.bool false, Value.int 181 0, Value.ref 144, Value.none, Value.none, Value.none, Value.none, Value.int 376 0, Value.int 61 0, Value.str (Str.ofString "/claim/cut.py") 377]) #[],
  Obj.mk (Value.type "frame") none Data.plain #[some (Value.ref 145), some (Value.ref 3), some (Value.ref 142), none, some (Value.str (Str.ofString "ledgerspeak.items") 252), none, some (Value.ref 0)],
  Obj.mk (Value.type "tuple") none (Data.seq #[]) #[],
  Obj.mk Value.none none (Data.fields #[]) #[],
  Obj.mk (Value.type "tuple") none (Data.seq #[Value.str (Str.ofString "self") 386]) #[],
  Obj.mk (Value.type "tuple") none (Data.seq #[]) #[],
  Obj.mk (Value.none) (none) (Data.func (FuncData.mk (Str.ofString "__init__") (Str.ofString "Data.__init__") a153 (FuncBody.stmts b153) s153 (0) ([]) (Value.none) (Value.none) (Value.none) (Value.none) (none) (Value.none) (Value.none) (0))) (#[]),
  Obj.mk (Value.type "code") none (Data.fields #[Value.str (Str.ofString "__init__") 383, Value.str (Str.ofString "Data.__init__") 384, Value.str (Str.ofString "/claim/cut.py") 385, Value.int 63 0, Value.int 1 0, Value.int 0 0, Value.int 0 0, Value.int 3 0, Value.ref 147, Value.bool true, Value.int 181 0, Value.ref 148, Value.none, Value.ref 149, Value.ref 150, Value.ref 151, Value.int 387 0, Value.int 63 0, Value.str (Str.ofString "/claim/cut.py") 388]) #[],
  Obj.mk (Value.type "function") (none) (Data.func (FuncData.mk (Str.ofString "__init__") (Str.ofString "Data.__init__") a153 (FuncBody.stmts b153) s153 (3) ([]) (Value.none) (Value.none) (Value.none) (Value.str (Str.ofString "ledgerspeak.items") 252) (none) (Value.ref 152) (Value.none) (0))) (#[]),
  Obj.mk (Value.type "tuple") none (Data.seq #[]) #[],
  Obj.mk Value.none none (Data.fields #[]) #[],
  Obj.mk (Value.type "tuple") none (Data.seq #[Value.str (Str.ofString "self") 393]) #[],
  Obj.mk (Value.type "tuple") none (Data.seq #[]) #[],
  Obj.mk (Value.none) (none) (Data.func (FuncData.mk (Str.ofString "told") (Str.ofString "Data.told") a160 (FuncBody.stmts b160) s160 (0) ([]) (Value.none) (Value.none) (Value.none) (Value.none) (none) (Value.none) (Value.none) (0))) (#[]),
  Obj.mk (Value.type "code") none (Data.fields #[Value.str (Str.ofString "told") 390, Value.str (Str.ofString "Data.told") 391, Value.str (Str.ofString "/claim/cut.py") 392, Value.int 71 0, Value.int 1 0, Value.int 0 0, Value.int 0 0, Value.int 3 0, Value.ref 154, Value.bool true, Value.int 181 0, Value.ref 155, Value.none, Value.ref 156, Value.ref 157, Value.ref 158, Value.int 394 0, Value.int 71 0, Value.str (Str.ofString "/claim/cut.py") 395]) #[],
  Obj.mk (Value.type "function") (none) (Data.func (FuncData.mk (Str.ofString "told") (Str.ofString "Data.told") a160 (FuncBody.stmts b160) s160 (3) ([]) (Value.none) (Value.none) (Value.none) (Value.str (Str.ofString "ledgerspeak.items") 252) (none) (Value.ref 159) (Value.none) (0))) (#[]),
  Obj.mk (Value.type "tuple") none (Data.seq #[Value.str (Str.ofString "files") 397, Value.str (Str.ofString "indexes") 398, Value.str (Str.ofString "linkage") 399, Value.str (Str.ofString "size") 400, Value.str (Str.ofString "sorts") 401, Value.str (Str.ofString "working") 402]) #[],
  Obj.mk (Value.type "dict") none (Data.dict #[DictEntry.mk (PyData.keyHash P (Str.ofString "__module__")) (Value.str (Str.ofString "__module__") 378) (Value.str (Str.ofString "ledgerspeak.items") 252), DictEntry.mk (PyData.keyHash P (Str.ofString "__firstlineno__")) (Value.str (Str.ofString "__firstlineno__") 382) (Value.int 61 381), DictEntry.mk (PyData.keyHash P (Str.ofString "__init__")) (Value.str (Str.ofString "__init__") 389) (Value.ref 153), DictEntry.mk (PyData.keyHash P (Str.ofString "told")) (Value.str (Str.ofString "told") 396) (Value.ref 160), DictEntry.mk (PyData.keyHash P (Str.ofString "__static_attributes__")) (Value.str (Str.ofString "__static_attributes__") 403) (Value.ref 161), DictEntry.mk (PyData.keyHash P (Str.ofString "__dict__")) (Value.str (Str.ofString "__dict__") 405) (Value.ref 164), DictEntry.mk (PyData.keyHash P (Str.ofString "__weakref__")) (Value.str (Str.ofString "__weakref__") 407) (Value.ref 165), DictEntry.mk (PyData.keyHash P (Str.ofString "__doc__")) (Value.str (Str.ofString "__doc__") 408) Value.none] 4) #[],
  Obj.mk (Value.type "type") none (Data.cls (ClassData.mk (Str.ofString "Data") [Value.type "object"] [Value.ref 163, Value.type "object"] 162 (Str.ofString "Data") true [] [] false none false)) #[none, none, some (Value.str (Str.ofString "Data") 371), some (Value.str (Str.ofString "Data") 379), some (Value.builtin "object.__new__"), some (Value.bool true)],
  Obj.mk (Value.type "getset_descriptor") none (Data.fields #[Value.str (Str.ofString "__dict__") 404, Value.ref 163, Value.builtin "function.__dict__", Value.builtin "function.__dict__#set"]) #[],
  Obj.mk (Value.type "getset_descriptor") none (Data.fields #[Value.str (Str.ofString "__weakref__") 406, Value.ref 163, Value.builtin "ExceptionGroup.__weakref__", Value.none]) #[],
  Obj.mk (Value.type "super") none (Data.fields #[Value.ref 163, Value.ref 163, Value.ref 163]) #[],
  Obj.mk (Value.type "builtin_function_or_method") none (Data.fields #[Value.builtin "object.__init_subclass__", Value.ref 163]) #[],
  Obj.mk (Value.type "tuple") none (Data.seq #[]) #[],
  Obj.mk Value.none none (Data.fields #[]) #[],
  Obj.mk (Value.type "tuple") none (Data.seq #[Value.str (Str.ofString "data") 414, Value.str (Str.ofString "found") 415, Value.str (Str.ofString "name") 416]) #[],
  Obj.mk (Value.type "tuple") none (Data.seq #[]) #[],
  Obj.mk (Value.none) (none) (Data.func (FuncData.mk (Str.ofString "records") (Str.ofString "records") a174 (FuncBody.stmts b174) s174 (0) ([]) (Value.none) (Value.none) (Value.none) (Value.none) (none) (Value.none) (Value.none) (0))) (#[]),
  Obj.mk (Value.type "code") none (Data.fields #[Value.str (Str.ofString "records") 411, Value.str (Str.ofString "records") 412, Value.str (Str.ofString "/claim/cut.py") 413, Value.int 73 0, Value.int 1 0, Value.int 0 0, Value.int 0 0, Value.int 3 0, Value.ref 168, Value.bool true, Value.int 181 0, Value.ref 169, Value.none, Value.ref 170, Value.ref 171, Value.ref 172, Value.int 417 0, Value.int 73 0, Value.str (Str.ofString "/claim/cut.py") 418]) #[],
  Obj.mk (Value.type "function") (none) (Data.func (FuncData.mk (Str.ofString "records") (Str.ofString "records") a174 (FuncBody.stmts b174) s174 (3) ([]) (Value.none) (Value.none) (Value.none) (Value.str (Str.ofString "ledgerspeak.items") 252) (none) (Value.ref 173) (Value.none) (0))) (#[]),
  Obj.mk (Value.type "tuple") none (Data.seq #[]) #[],
  Obj.mk Value.none none (Data.fields #[]) #[],
  Obj.mk (Value.type "tuple") none (Data.seq #[Value.str (Str.ofString "item") 423, Value.str (Str.ofString "found") 424, Value.str (Str.ofString "line") 425, Value.str (Str.ofString "one") 426]) #[],
  Obj.mk (Value.type "tuple") none (Data.seq #[]) #[],
  Obj.mk (Value.none) (none) (Data.func (FuncData.mk (Str.ofString "items_under") (Str.ofString "items_under") a181 (FuncBody.stmts b181) s181 (0) ([]) (Value.none) (Value.none) (Value.none) (Value.none) (none) (Value.none) (Value.none) (0))) (#[]),
  Obj.mk (Value.type "code") none (Data.fields #[Value.str (Str.ofString "items_under") 420, Value.str (Str.ofString "items_under") 421, Value.str (Str.ofString "/claim/cut.py") 422, Value.int 78 0, Value.int 1 0, Value.int 0 0, Value.int 0 0, Value.int 3 0, Value.ref 175, Value.bool true, Value.int 181 0, Value.ref 176, Value.none, Value.ref 177, Value.ref 178, Value.ref 179, Value.int 427 0, Value.int 78 0, Value.str (Str.ofString "/claim/cut.py") 428]) #[],
  Obj.mk (Value.type "function") (none) (Data.func (FuncData.mk (Str.ofString "items_under") (Str.ofString "items_under") a181 (FuncBody.stmts b181) s181 (3) ([]) (Value.none) (Value.none) (Value.none) (Value.str (Str.ofString "ledgerspeak.items") 252) (none) (Value.ref 180) (Value.none) (0))) (#[]),
  Obj.mk (Value.type "tuple") none (Data.seq #[]) #[],
  Obj.mk Value.none none (Data.fields #[]) #[],
  Obj.mk (Value.type "tuple") none (Data.seq #[Value.str (Str.ofString "data") 433, Value.str (Str.ofString "found") 434, Value.str (Str.ofString "root") 435]) #[],
  Obj.mk (Value.type "tuple") none (Data.seq #[]) #[],
  Obj.mk (Value.none) (none) (Data.func (FuncData.mk (Str.ofString "all_items") (Str.ofString "all_items") a188 (FuncBody.stmts b188) s188 (0) ([]) (Value.none) (Value.none) (Value.none) (Value.none) (none) (Value.none) (Value.none) (0))) (#[]),
  Obj.mk (Value.type "code") none (Data.fields #[Value.str (Str.ofString "all_items") 430, Value.str (Str.ofString "all_items") 431, Value.str (Str.ofString "/claim/cut.py") 432, Value.int 86 0, Value.int 1 0, Value.int 0 0, Value.int 0 0, Value.int 3 0, Value.ref 182, Value.bool true, Value.int 181 0, Value.ref 183, Value.none, Value.ref 184, Value.ref 185, Value.ref 186, Value.int 436 0, Value.int 86 0, Value.str (Str.ofString "/claim/cut.py") 437]) #[],
  Obj.mk (Value.type "function") (none) (Data.func (FuncData.mk (Str.ofString "all_items") (Str.ofString "all_items") a188 (FuncBody.stmts b188) s188 (3) ([]) (Value.none) (Value.none) (Value.none) (Value.str (Str.ofString "ledgerspeak.items") 252) (none) (Value.ref 187) (Value.none) (0))) (#[]),
  Obj.mk (Value.type "tuple") none (Data.seq #[]) #[],
  Obj.mk Value.none none (Data.fields #[]) #[],
  Obj.mk (Value.type "tuple") none (Data.seq #[Value.str (Str.ofString "item") 442, Value.str (Str.ofString "found") 443, Value.str (Str.ofString "above") 444]) #[],
  Obj.mk (Value.type "tuple") none (Data.seq #[]) #[],
  Obj.mk (Value.none) (none) (Data.func (FuncData.mk (Str.ofString "items_around") (Str.ofString "items_around") a195 (FuncBody.stmts b195) s195 (0) ([]) (Value.none) (Value.none) (Value.none) (Value.none) (none) (Value.none) (Value.none) (0))) (#[]),
  Obj.mk (Value.type "code") none (Data.fields #[Value.str (Str.ofString "items_around") 439, Value.str (Str.ofString "items_around") 440, Value.str (Str.ofString "/claim/cut.py") 441, Value.int 91 0, Value.int 1 0, Value.int 0 0, Value.int 0 0, Value.int 3 0, Value.ref 189, Value.bool true, Value.int 181 0, Value.ref 190, Value.none, Value.ref 191, Value.ref 192, Value.ref 193, Value.int 445 0, Value.int 91 0, Value.str (Str.ofString "/claim/cut.py") 446]) #[],
  Obj.mk (Value.type "function") (none) (Data.func (FuncData.mk (Str.ofString "items_around") (Str.ofString "items_around") a195 (FuncBody.stmts b195) s195 (3) ([]) (Value.none) (Value.none) (Value.none) (Value.str (Str.ofString "ledgerspeak.items") 252) (none) (Value.ref 194) (Value.none) (0))) (#[]),
  Obj.mk (Value.type "tuple") none (Data.seq #[]) #[],
  Obj.mk Value.none none (Data.fields #[]) #[],
  Obj.mk (Value.type "tuple") none (Data.seq #[Value.str (Str.ofString "item") 451, Value.str (Str.ofString "around") 452]) #[],
  Obj.mk (Value.type "tuple") none (Data.seq #[]) #[],
  Obj.mk (Value.none) (none) (Data.func (FuncData.mk (Str.ofString "root_of") (Str.ofString "root_of") a202 (FuncBody.stmts b202) s202 (0) ([]) (Value.none) (Value.none) (Value.none) (Value.none) (none) (Value.none) (Value.none) (0))) (#[]),
  Obj.mk (Value.type "code") none (Data.fields #[Value.str (Str.ofString "root_of") 448, Value.str (Str.ofString "root_of") 449, Value.str (Str.ofString "/claim/cut.py") 450, Value.int 98 0, Value.int 1 0, Value.int 0 0, Value.int 0 0, Value.int 3 0, Value.ref 196, Value.bool true, Value.int 181 0, Value.ref 197, Value.none, Value.ref 198, Value.ref 199, Value.ref 200, Value.int 453 0, Value.int 98 0, Value.str (Str.ofString "/claim/cut.py") 454]) #[],
  Obj.mk (Value.type "function") (none) (Data.func (FuncData.mk (Str.ofString "root_of") (Str.ofString "root_of") a202 (FuncBody.stmts b202) s202 (3) ([]) (Value.none) (Value.none) (Value.none) (Value.str (Str.ofString "ledgerspeak.items") 252) (none) (Value.ref 201) (Value.none) (0))) (#[]),
  Obj.mk (Value.type "tuple") none (Data.seq #[]) #[],
  Obj.mk Value.none none (Data.fields #[]) #[],
  Obj.mk (Value.none) (none) (Data.func (FuncData.mk (Str.ofString "names_around") (Str.ofString "names_around") a207 (FuncBody.stmts b207) s207 (0) ([]) (Value.none) (Value.none) (Value.none) (Value.none) (none) (Value.none) (Value.none) (0))) (#[]),
  Obj.mk (Value.type "code") none (Data.fields #[Value.str (Str.ofString "names_around") 456, Value.str (Str.ofString "names_around") 457, Value.str (Str.ofString "/claim/cut.py") 458, Value.int 101 0, Value.int 1 0, Value.int 0 0, Value.int 0 0, Value.int 3 0, Value.ref 203, Value.bool true, Value.int 181 0, Value.ref 204, Value.none, Value.none, Value.none, Value.ref 205, Value.int 459 0, Value.int 101 0, Value.str (Str.ofString "/claim/cut.py") 460]) #[],
  Obj.mk (Value.type "function") (none) (Data.func (FuncData.mk (Str.ofString "names_around") (Str.ofString "names_around") a207 (FuncBody.stmts b207) s207 (3) ([]) (Value.none) (Value.none) (Value.none) (Value.str (Str.ofString "ledgerspeak.items") 252) (none) (Value.ref 206) (Value.none) (0))) (#[])]) (Life.mk [] [] [] 0 [] [] false #[] [] 0 false false false 0 [2000, 10, 10] false 0 true [] [] 0 false)) _ _ _ rfl _ _ _ rfl _ _ _ rfl _ _ _ rfl _ _ _ rfl _ _ _ rfl _ _ _ rfl _ _ _ rfl _ _ _ rfl _ _ _ rfl _ _ _ rfl _ _ _ rfl _ _ _ rfl _ _ _ rfl _ _ _ rfl _ _ _ rfl _ _ _ rfl _ _ _ rfl _ _ _ rfl _ _ _ rfl _ _ _ rfl _ _ _ rfl _ _ _ rfl _ _ _ rfl _ _ _ rfl _ _ _ rfl _ _ _ rfl _ _ _ rfl _ _ _ rfl
theorem hd.open : ∀ w : World, (fencedOpening treeTable hd.pg w 4072).map (fun s => (s.heap, s.gens, s.drawn, s.toks)) = some (boot_heap w.params, Array.mk [], boot_drawn, boot_toks) :=
  boot_open (by kernel_rfl) (by decide) (fun s => by kernel_rfl)
theorem hd.size : ∀ w : World, ((boot_heap w.params).isNs mainGlobals && (Array.mk [] : Array GenState).size == 0, (boot_heap w.params).objs.size, (boot_heap w.params).nsMap mainGlobals "__annotations__") = (true, 11, (some (.ref 6))) := by
  intro w
  kernel_rfl
set_option maxHeartbeats 0 in
theorem hd.go0 : ∀ (w : World) (os : OsState), topGo treeTable hd.pg w 11 (some (.ref 6)) 12 ⟨boot_heap w.params, Array.mk [], boot_drawn, boot_toks, os⟩ (topStub hd.pg) = some (⟨hd.hPRE w.params, Array.mk [], Drawn.mk 0 0 0 0, 187, os⟩, ⟨denote treeTable (Code.body hd.bd hd.env), (Code.body hd.bd hd.env), (⟨0, 0, 0, 0⟩ : Pos), [topFrame ⟨0, 0, 0, 0⟩]⟩) := by
  intro w os
  kernel_rfl
set_option maxHeartbeats 0 in
theorem hd.blk : ∀ (w : World) (os : OsState), segRun treeTable hd.pg w 11 (some (.ref 6)) 1 1 ⟨hd.hPRE w.params, Array.mk [], Drawn.mk 0 0 0 0, 187, os⟩ (blockOf hd.bd hd.env (Code.body hd.bd hd.env) (⟨0, 0, 0, 0⟩ : Pos) [topFrame ⟨0, 0, 0, 0⟩]) = some (.next, ⟨hd.hPRE w.params, Array.mk [], Drawn.mk 0 0 0 0, 187, os⟩, (Code.body hd.bd hd.env), (⟨0, 0, 0, 0⟩ : Pos)) := by
  intro w os
  kernel_rfl
set_option maxHeartbeats 0 in
theorem hd.sM4 : ∀ (w : World) (os : OsState), segRun treeTable hd.pg w 11 (some (.ref 6)) 1 700 ⟨hd.hPRE w.params, Array.mk [], Drawn.mk 0 0 0 0, 187, os⟩ (piecesOf (hd.bd.take 4) hd.env (Code.body hd.bd hd.env) (⟨0, 0, 0, 0⟩ : Pos) [topFrame ⟨0, 0, 0, 0⟩]) = some (.next, ⟨hd.hM4 w.params, Array.mk [], Drawn.mk 0 0 0 0, 252, os⟩, (Code.body hd.bd hd.env), (Pos.mk 14 0 15 8)) := by
  intro w os
  kernel_rfl
set_option maxHeartbeats 0 in
theorem hd.sM8 : ∀ (w : World) (os : OsState), segRun treeTable hd.pg w 11 (some (.ref 6)) 1 700 ⟨hd.hM4 w.params, Array.mk [], Drawn.mk 0 0 0 0, 252, os⟩ (piecesOf ((hd.bd.drop 4).take 4) hd.env (Code.body hd.bd hd.env) (Pos.mk 14 0 15 8) [topFrame ⟨0, 0, 0, 0⟩]) = some (.next, ⟨hd.hM8 w.params, Array.mk [], Drawn.mk 0 0 0 0, 371, os⟩, (Code.body hd.bd hd.env), (Pos.mk 26 0 60 16)) := by
  intro w os
  kernel_rfl
set_option maxHeartbeats 0 in
theorem hd.sM15 : ∀ (w : World) (os : OsState), segRun treeTable hd.pg w 11 (some (.ref 6)) 1 700 ⟨hd.hM8 w.params, Array.mk [], Drawn.mk 0 0 0 0, 371, os⟩ (piecesOf ((hd.bd.drop 8).take 7) hd.env (Code.body hd.bd hd.env) (Pos.mk 26 0 60 16) [topFrame ⟨0, 0, 0, 0⟩]) = some (.next, ⟨hd.hM15 w.params, Array.mk [], Drawn.mk 0 0 0 0, 462, os⟩, (Code.body hd.bd hd.env), (Pos.mk 101 0 102 73)) := by
  intro w os
  kernel_rfl
set_option maxHeartbeats 0 in
theorem hd.fin : ∀ (w : World) (os : OsState), (topRun treeTable hd.pg w 11 (some (.ref 6)) 600 ⟨hd.hM15 w.params, Array.mk [], Drawn.mk 0 0 0 0, 462, os⟩ (restOf (hd.bd.drop 15) hd.env (Code.body hd.bd hd.env) (Pos.mk 101 0 102 73) [topFrame ⟨0, 0, 0, 0⟩])).map (fun s => (staticsOk (importedModules hd.pg.main.body) (boot_heap w.params) s.heap && namesBound hd.pg s.heap && gensDone s && laidKept (boot_heap w.params) s.heap, openSeen hd.view_39 [Str.ofString "LedgerError"] (importedModules hd.pg.main.body) (fun s => xlAt hd.view_39 [] s && recOk PySem.Challenge.rw_pc0126_01.row.records s) true s, hd.H.obs s)) = some (true, openGood hd.view_39 [Str.ofString "LedgerError"], hd.H.val w) := by
  intro w os
  kernel_rfl
theorem take_drop_at {α : Type} (l : List α) (a b : Nat) : (l.drop a).take b ++ l.drop (a + b) = l.drop a := by
  rw [← List.drop_drop]; exact List.take_append_drop b (l.drop a)
section
variable {w : World} {os : OsState} {s : Shared}
theorem hd.k2 (hr : topRun treeTable hd.pg w 11 (some (.ref 6)) 600 ⟨hd.hM15 w.params, Array.mk [], Drawn.mk 0 0 0 0, 462, os⟩ (restOf (hd.bd.drop 15) hd.env (Code.body hd.bd hd.env) (Pos.mk 101 0 102 73) [topFrame ⟨0, 0, 0, 0⟩]) = some s) : topRun treeTable hd.pg w 11 (some (.ref 6)) (700 + 600) ⟨hd.hM8 w.params, Array.mk [], Drawn.mk 0 0 0 0, 371, os⟩ (restOf (hd.bd.drop 8) hd.env (Code.body hd.bd hd.env) (Pos.mk 26 0 60 16) [topFrame ⟨0, 0, 0, 0⟩]) = some s := by
  have e : ((hd.bd.drop 8).take 7) ++ hd.bd.drop 15 = hd.bd.drop 8 := take_drop_at hd.bd 8 7
  have k := piece_app (hd.sM15 w os) hr
  rw [e] at k
  exact k
theorem hd.k1 (hr : topRun treeTable hd.pg w 11 (some (.ref 6)) (700 + 600) ⟨hd.hM8 w.params, Array.mk [], Drawn.mk 0 0 0 0, 371, os⟩ (restOf (hd.bd.drop 8) hd.env (Code.body hd.bd hd.env) (Pos.mk 26 0 60 16) [topFrame ⟨0, 0, 0, 0⟩]) = some s) : topRun treeTable hd.pg w 11 (some (.ref 6)) (700 + (700 + 600)) ⟨hd.hM4 w.params, Array.mk [], Drawn.mk 0 0 0 0, 252, os⟩ (restOf (hd.bd.drop 4) hd.env (Code.body hd.bd hd.env) (Pos.mk 14 0 15 8) [topFrame ⟨0, 0, 0, 0⟩]) = some s := by
  have e : ((hd.bd.drop 4).take 4) ++ hd.bd.drop 8 = hd.bd.drop 4 := take_drop_at hd.bd 4 4
  have k := piece_app (hd.sM8 w os) hr
  rw [e] at k
  exact k
theorem hd.k0 (hr : topRun treeTable hd.pg w 11 (some (.ref 6)) (700 + (700 + 600)) ⟨hd.hM4 w.params, Array.mk [], Drawn.mk 0 0 0 0, 252, os⟩ (restOf (hd.bd.drop 4) hd.env (Code.body hd.bd hd.env) (Pos.mk 14 0 15 8) [topFrame ⟨0, 0, 0, 0⟩]) = some s) : topRun treeTable hd.pg w 11 (some (.ref 6)) (700 + (700 + (700 + 600))) ⟨hd.hPRE w.params, Array.mk [], Drawn.mk 0 0 0 0, 187, os⟩ (restOf hd.bd hd.env (Code.body hd.bd hd.env) (⟨0, 0, 0, 0⟩ : Pos) [topFrame ⟨0, 0, 0, 0⟩]) = some s := by
  have e : (hd.bd.take 4) ++ hd.bd.drop 4 = hd.bd := List.take_append_drop 4 hd.bd
  have k := piece_app (hd.sM4 w os) hr
  rw [e] at k
  exact k
theorem hd.kb (hr : topRun treeTable hd.pg w 11 (some (.ref 6)) (700 + (700 + (700 + 600))) ⟨hd.hPRE w.params, Array.mk [], Drawn.mk 0 0 0 0, 187, os⟩ (restOf hd.bd hd.env (Code.body hd.bd hd.env) (⟨0, 0, 0, 0⟩ : Pos) [topFrame ⟨0, 0, 0, 0⟩]) = some s) : topRun treeTable hd.pg w 11 (some (.ref 6)) (1 + (700 + (700 + (700 + 600)))) ⟨hd.hPRE w.params, Array.mk [], Drawn.mk 0 0 0 0, 187, os⟩ ⟨denote treeTable (Code.body hd.bd hd.env), (Code.body hd.bd hd.env), (⟨0, 0, 0, 0⟩ : Pos), [topFrame ⟨0, 0, 0, 0⟩]⟩ = some s := piece_block (hd.blk w os) hr
theorem hd.kg (hr : topRun treeTable hd.pg w 11 (some (.ref 6)) (1 + (700 + (700 + (700 + 600)))) ⟨hd.hPRE w.params, Array.mk [], Drawn.mk 0 0 0 0, 187, os⟩ ⟨denote treeTable (Code.body hd.bd hd.env), (Code.body hd.bd hd.env), (⟨0, 0, 0, 0⟩ : Pos), [topFrame ⟨0, 0, 0, 0⟩]⟩ = some s) : topRun treeTable hd.pg w 11 (some (.ref 6)) (12 + (1 + (700 + (700 + (700 + 600))))) ⟨boot_heap w.params, Array.mk [], boot_drawn, boot_toks, os⟩ (topStub hd.pg) = some s := go_top (hd.go0 w os) hr
theorem hd.km (hr : topRun treeTable hd.pg w 11 (some (.ref 6)) (12 + (1 + (700 + (700 + (700 + 600))))) ⟨boot_heap w.params, Array.mk [], boot_drawn, boot_toks, os⟩ (topStub hd.pg) = some s) : topRun treeTable hd.pg w 11 (some (.ref 6)) 4072 ⟨boot_heap w.params, Array.mk [], boot_drawn, boot_toks, os⟩ (topStub hd.pg) = some s := by
  have e : 12 + (1 + (700 + (700 + (700 + 600)))) + 1359 = 4072 := rfl
  rw [← e]
  exact topRun_mono 1359 _ _ _ _ hr
end
theorem hd.tf (w : World) (os : OsState) {s : Shared} (km : topRun treeTable hd.pg w 11 (some (.ref 6)) 4072 ⟨boot_heap w.params, Array.mk [], boot_drawn, boot_toks, os⟩ (topStub hd.pg) = some s) (l1 : (staticsOk (importedModules hd.pg.main.body) (boot_heap w.params) s.heap && namesBound hd.pg s.heap && gensDone s && laidKept (boot_heap w.params) s.heap) = true) : topFrom treeTable hd.pg w 4072 ⟨boot_heap w.params, Array.mk [], boot_drawn, boot_toks, os⟩ = some s := by
  have z := hd.size w
  have z1 := (Prod.mk.inj z).1
  have z2 := (Prod.mk.inj (Prod.mk.inj z).2).1
  have z3 := (Prod.mk.inj (Prod.mk.inj z).2).2
  unfold topFrom
  dsimp only
  rw [z1, z2, z3, km]
  show (match staticsOk (importedModules hd.pg.main.body) (boot_heap w.params) s.heap && namesBound hd.pg s.heap && gensDone s && laidKept (boot_heap w.params) s.heap with | true => _ | false => _) = _
  rw [l1]
theorem bind_glue {α β γ : Type} {o : Option α} {g : α → Option β} {f : β → γ} {a : α} {b : β} (e : o = some a) (t : g a = some b) : (o.bind g).map f = some (f b) := by
  subst e
  show (g a).map f = _
  rw [t]
  rfl
theorem hd.left : LeftO PySem.Challenge.rw_pc0126_01.row.prog hd.view_39 [Str.ofString "LedgerError"] (fun s => xlAt hd.view_39 [] s && recOk PySem.Challenge.rw_pc0126_01.row.records s) hd.H.obs hd.H.val 4072 := fun w => by
  obtain ⟨⟨h, gs, d, k, os⟩, e, e'⟩ := Option.map_eq_some_iff.mp (hd.open w)
  obtain ⟨rfl, rfl, rfl, rfl⟩ : h = boot_heap w.params ∧ gs = Array.mk [] ∧ d = boot_drawn ∧ k = boot_toks := by
    have a := (Prod.mk.inj e')
    have b := (Prod.mk.inj a.2)
    have c := (Prod.mk.inj b.2)
    exact ⟨a.1, b.1, c.1, c.2⟩
  obtain ⟨s, hr, hl⟩ := Option.map_eq_some_iff.mp (hd.fin w os)
  obtain ⟨l1, l2⟩ := Prod.mk.inj hl
  have t := hd.tf w os (hd.km (hd.kg (hd.kb (hd.k0 (hd.k1 (hd.k2 hr)))))) l1
  exact (bind_glue e t).trans (congrArg some l2)
end
section
open PySem PySem.W PySem.Calls PySem.Spec PyProof.Rows
set_option linter.unusedVariables false
set_option maxRecDepth 100000
noncomputable abbrev PG : Program := PySem.Challenge.rw_pc0126_01.row.prog
noncomputable abbrev PV : Program := hd.view_39
noncomputable abbrev LS : List Str := looseW hd.view_39 [Str.ofString "LedgerError"]
noncomputable abbrev KF (w : World) : Frag := hd.heap_39 w.params
def AllBut (W : List Addr) (h h' : Heap) : Prop := ∀ b o, b ∉ W → h.get? b = some o → h'.get? b = some o
theorem AllBut.refl {W : List Addr} {h : Heap} : AllBut W h h := fun _ _ _ e => e
theorem AllBut.trans {W : List Addr} {h h₁ h₂ : Heap} (x : AllBut W h h₁) (y : AllBut W h₁ h₂) : AllBut W h h₂ := fun b o n e => y b o n (x b o n e)
theorem AllBut.of_stays {W : List Addr} {h h' : Heap} (x : h.StaysIn h') : AllBut W h h' := fun b o _ e => x b o e
theorem AllBut.stays {h h' : Heap} (x : AllBut [] h h') : h.StaysIn h' := fun b o e => x b o (by simp) e
theorem AllBut.mono {W W' : List Addr} {h h' : Heap} (x : AllBut W h h') (k : ∀ b ∈ W, b ∈ W') : AllBut W' h h' := fun b o n e => x b o (fun m => n (k b m)) e
section
variable {prog : Program} {w : World} {A₀ A : Around} {s : Shared} {base h₀ : Heap} {outer : List Env} {L : Addr} {m : Str → Option Value} {env : Env} {news : List (Addr × Obj)} {K : Frag}
  {p : Program} {loose : List Str} {mean : ExcName → Option Value} {mg mb : Str → Option Value}
  {R : Result → Shared → Prop} {name qual : Str} {params : Arguments} {body : List Stmt} {scope : Scope} {dV kV doc pm cdv ct oc : Value} {an od : Option Addr} {osl : Array (Option Value)} {f : Addr} {args : Args} {binds : List (Str × Value)}
theorem enter_def (B : Below A₀ base outer h₀) (F : Fr h₀ L s.heap m) (X₀ : K.In h₀) (N : News h₀ L s.heap news) (T : Top p loose mean mg mb h₀) (hA : A.frames = some (env :: outer)) (hf : env.frame = some L) (hke : env.scope.kind = .function)
    (ho : K.lookup f = some ⟨oc, od, .func (fnOf name qual params body scope dV kV doc pm an cdv ct), osl⟩) (hcd : codeIn K cdv qual = true) (hroom : A.depth < recursionLimit)
    (hbind : BindsTo s (fnOf name qual params body scope dV kV doc pm an cdv ct) args binds) (hloc : ∀ y ∈ binds, scope.names.lookup y.1 = some .local)
    (h : ∀ g L' h₁, AllBut (news.map (·.1)) s.heap g → g.StaysIn s.heap → s.heap.StaysIn h₁ → Fr h₀ L g m → Fr g L' h₁ (fun y => binds.reverse.lookup y) → News g L' h₁ news → Below A base (env :: outer) g → K.In g → Top p loose mean mg mb g → (∀ p ∈ news, p.1 < L') →
      wpAny (model prog w) (A.deeper (envOf qual scope L' f cdv)) (execs body (envOf qual scope L' f cdv))
        (fun fl s' => LeaveK h₀ L m g R (match fl with | .ret v => v | _ => .none) s')
        (fun e s' => wpAny (model prog w) (A.deeper (envOf qual scope L' f cdv)) (leaving (envOf qual scope L' f cdv) e) (fun _ s'' => R (.error e) s'') (fun e' s'' => R (.error e') s'') s')
        { s with heap := h₁, toks := s.toks + binds.length })
    (hco : scope.isCoroutine = false) (hgen : scope.isGenerator = false) (hk : scope.kind = .function)
    (hcell : ∀ x ∈ scope.names, x.2 ≠ .cell) : codeAny (model prog w) A (.call (.ref f) args) R s := by
  obtain ⟨FG, BG, st, lv⟩ := groundX (R := R) B F N hA hf hke
  refine codeAny_call_def (fd := fnOf name qual params body scope dV kV doc pm an cdv ct) (body := body) (binds := binds) hroom ((X₀.keeps F.keep) _ _ ho) rfl (T.nolimit.keeps F.keep) (codeRec_of (X₀.keeps F.keep) hcd) rfl hbind hcell hloc (fun h₁ hns hk₁ => ?_) hco hgen hk
  refine wpAny_mono (h (hideAll s.heap (news.map (·.1))) s.heap.objs.size h₁ (fun b o n e => hideAll_get _ e n) (fun b o e => of_hideAll _ e) hk₁ FG
    ⟨hns, fun b o e => hk₁ b o (of_hideAll _ e), Nat.le_of_eq (hideAll_size _ _)⟩
    (fun p hp => ⟨hk₁ _ _ (N p hp).1, Nat.ne_of_lt (Heap.lt_size (N p hp).1), hideAll_none _ (List.mem_map_of_mem hp)⟩) BG (X₀.keeps (fun b o e => st b o e)) (T.keeps (fun b o e => st b o e)) (fun p hp => Heap.lt_size (N p hp).1)) (fun fl s' hl => lv _ _ hl) fun _ _ y => y
theorem enter_defC (B : Below A₀ base outer h₀) (F : Fr h₀ L s.heap m) (X₀ : K.In h₀) (N : News h₀ L s.heap news) (T : Top p loose mean mg mb h₀) (hA : A.frames = some (env :: outer)) (hf : env.frame = some L) (hke : env.scope.kind = .function)
    (ho : K.lookup f = some ⟨oc, od, .func (fnOf name qual params body scope dV kV doc pm an cdv ct), osl⟩) (hcd : codeIn K cdv qual = true) (hroom : A.depth < recursionLimit)
    (hbind : BindsTo s (fnOf name qual params body scope dV kV doc pm an cdv ct) args binds) (hkind : (binds.all fun y => scope.names.lookup y.1 == some .local || scope.names.lookup y.1 == some .cell) = true)
    (hnd : ((cellsFrom 0 scope.names []).map (·.1)).Nodup)
    (h : ∀ g L' h₁ tk cells, AllBut (news.map (·.1)) s.heap g → g.StaysIn s.heap → s.heap.StaysIn h₁ → Fr h₀ L g m → Fr g L' h₁ (bindL (envOfC qual scope L' f cdv).kindOf binds fun _ => none) → News g L' h₁ (cells ++ news) →
      CellsAre (bindC (envOfC qual scope L' f cdv).kindOf binds fun _ => none) (cellsFrom (L' + 1) scope.names []) cells → Below A base (env :: outer) g → K.In g → Top p loose mean mg mb g → (∀ p ∈ news, p.1 < L') →
      wpAny (model prog w) (A.deeper (envOfC qual scope L' f cdv)) (execs body (envOfC qual scope L' f cdv))
        (fun fl s' => LeaveK h₀ L m g R (match fl with | .ret v => v | _ => .none) s')
        (fun e s' => wpAny (model prog w) (A.deeper (envOfC qual scope L' f cdv)) (leaving (envOfC qual scope L' f cdv) e) (fun _ s'' => R (.error e) s'') (fun e' s'' => R (.error e') s'') s')
        { s with heap := h₁, toks := tk })
    (hco : scope.isCoroutine = false) (hgen : scope.isGenerator = false) (hk : scope.kind = .function) : codeAny (model prog w) A (.call (.ref f) args) R s := by
  obtain ⟨FG, BG, st, lv⟩ := groundX (R := R) B F N hA hf hke
  refine codeAny_call_function hroom ((X₀.keeps F.keep) _ _ ho) rfl hco hgen rfl (codeRec_of (X₀.keeps F.keep) hcd) (hbind _ _ _ _ ?_)
  refine wpAny_newFunctionEnv_cells hk (kindsX hkind _) fun env' he s' x => ?_
  subst he
  refine ⟨(T.nolimit.keeps F.keep).keeps x.toInCall.keep, codeAny_func ?_⟩
  obtain ⟨h₁, tk, rfl, _⟩ := x.done
  have hk₁ := x.toInCall.keep
  obtain ⟨cells, NC, Y⟩ := Cl.news (h₀ := s.heap) (Nat.le_refl _) fun n c hm => ⟨x.cell n c (lookup_of_mem_nodup (cellsFrom_names scope.names 0 (s.heap.objs.size + 1) [] [] rfl ▸ hnd) hm), x.above n c hm⟩
  refine wpAny_mono (h (hideAll s.heap (news.map (·.1))) s.heap.objs.size h₁ tk cells (fun b o n e => hideAll_get _ e n) (fun b o e => of_hideAll _ e) hk₁ FG
    ⟨x.toInCall.ns, fun b o e => hk₁ b o (of_hideAll _ e), Nat.le_of_eq (hideAll_size _ _)⟩ (fun p hp => ?_) Y BG (X₀.keeps (fun b o e => st b o e)) (T.keeps (fun b o e => st b o e)) (fun p hp => Heap.lt_size (N p hp).1)) (fun fl s' hl => lv _ _ hl) fun _ _ y => y
  rcases List.mem_append.mp hp with hp | hp
  · refine ⟨(NC p hp).1, (NC p hp).2.1, ?_⟩
    cases q : (hideAll s.heap (news.map (·.1))).get? p.1 with
    | none => rfl
    | some o => have := of_hideAll _ q; rw [(NC p hp).2.2] at this; cases this
  · exact ⟨hk₁ _ _ (N p hp).1, Nat.ne_of_lt (Heap.lt_size (N p hp).1), hideAll_none _ (List.mem_map_of_mem hp)⟩
end
theorem at_len {M : Model} {A : Around} {Q E : Value → Shared → Prop} {s : Shared} {a : Addr} (h : wpAny M A (call (Value.builtin "len") [Value.ref a]) Q E s) : wpAny M A (call (Value.builtin "len") [Value.ref a]) Q E s := h
theorem at_name {M : Model} {A : Around} {Q E : Value → Shared → Prop} {s : Shared} {a : Addr} {pl : Bool} (h : wpAny M A (getAttr (Value.ref a) (Str.ofString "name") pl) Q E s) : wpAny M A (getAttr (Value.ref a) (Str.ofString "name") pl) Q E s := h
theorem at_parent {M : Model} {A : Around} {Q E : Value → Shared → Prop} {s : Shared} {a : Addr} {pl : Bool} (h : wpAny M A (getAttr (Value.ref a) (Str.ofString "parent") pl) Q E s) : wpAny M A (getAttr (Value.ref a) (Str.ofString "parent") pl) Q E s := h
theorem at_conditions {M : Model} {A : Around} {Q E : Value → Shared → Prop} {s : Shared} {a : Addr} {pl : Bool} (h : wpAny M A (getAttr (Value.ref a) (Str.ofString "conditions") pl) Q E s) : wpAny M A (getAttr (Value.ref a) (Str.ofString "conditions") pl) Q E s := h
theorem at_kids {M : Model} {A : Around} {Q E : Value → Shared → Prop} {s : Shared} {a : Addr} {pl : Bool} (h : wpAny M A (getAttr (Value.ref a) (Str.ofString "kids") pl) Q E s) : wpAny M A (getAttr (Value.ref a) (Str.ofString "kids") pl) Q E s := h
theorem at_offset {M : Model} {A : Around} {Q E : Value → Shared → Prop} {s : Shared} {a : Addr} {pl : Bool} (h : wpAny M A (getAttr (Value.ref a) (Str.ofString "offset") pl) Q E s) : wpAny M A (getAttr (Value.ref a) (Str.ofString "offset") pl) Q E s := h
theorem at_rows {M : Model} {A : Around} {Q E : Value → Shared → Prop} {s : Shared} {a : Addr} {pl : Bool} (h : wpAny M A (getAttr (Value.ref a) (Str.ofString "rows") pl) Q E s) : wpAny M A (getAttr (Value.ref a) (Str.ofString "rows") pl) Q E s := h
theorem at_files {M : Model} {A : Around} {Q E : Value → Shared → Prop} {s : Shared} {a : Addr} {pl : Bool} (h : wpAny M A (getAttr (Value.ref a) (Str.ofString "files") pl) Q E s) : wpAny M A (getAttr (Value.ref a) (Str.ofString "files") pl) Q E s := h
theorem at_working {M : Model} {A : Around} {Q E : Value → Shared → Prop} {s : Shared} {a : Addr} {pl : Bool} (h : wpAny M A (getAttr (Value.ref a) (Str.ofString "working") pl) Q E s) : wpAny M A (getAttr (Value.ref a) (Str.ofString "working") pl) Q E s := h
theorem at_linkage {M : Model} {A : Around} {Q E : Value → Shared → Prop} {s : Shared} {a : Addr} {pl : Bool} (h : wpAny M A (getAttr (Value.ref a) (Str.ofString "linkage") pl) Q E s) : wpAny M A (getAttr (Value.ref a) (Str.ofString "linkage") pl) Q E s := h
theorem at_append {M : Model} {A : Around} {Q : Value × List Value → Shared → Prop} {E : Value → Shared → Prop} {s : Shared} {a : Addr} {pl : Sem Bool} (h : wpAny M A (getMethod (Value.ref a) (Str.ofString "append") pl) Q E s) : wpAny M A (getMethod (Value.ref a) (Str.ofString "append") pl) Q E s := h
theorem at_add {M : Model} {A : Around} {Q : Value × List Value → Shared → Prop} {E : Value → Shared → Prop} {s : Shared} {a : Addr} {pl : Sem Bool} (h : wpAny M A (getMethod (Value.ref a) (Str.ofString "add") pl) Q E s) : wpAny M A (getMethod (Value.ref a) (Str.ofString "add") pl) Q E s := h
theorem at207 {M : Model} {A : Around} {Q E : Value → Shared → Prop} {s : Shared} {vs : List Value} (h : wpAny M A (call (Value.ref 207) vs) Q E s) : wpAny M A (call (Value.ref 207) vs) Q E s := h
theorem at219 {M : Model} {A : Around} {Q E : Value → Shared → Prop} {s : Shared} {vs : List Value} (h : wpAny M A (call (Value.ref 219) vs) Q E s) : wpAny M A (call (Value.ref 219) vs) Q E s := h
theorem at226 {M : Model} {A : Around} {Q E : Value → Shared → Prop} {s : Shared} {vs : List Value} (h : wpAny M A (call (Value.ref 226) vs) Q E s) : wpAny M A (call (Value.ref 226) vs) Q E s := h
theorem at231 {M : Model} {A : Around} {Q E : Value → Shared → Prop} {s : Shared} {vs : List Value} (h : wpAny M A (call (Value.ref 231) vs) Q E s) : wpAny M A (call (Value.ref 231) vs) Q E s := h
theorem at238 {M : Model} {A : Around} {Q E : Value → Shared → Prop} {s : Shared} {vs : List Value} (h : wpAny M A (call (Value.ref 238) vs) Q E s) : wpAny M A (call (Value.ref 238) vs) Q E s := h
theorem at245 {M : Model} {A : Around} {Q E : Value → Shared → Prop} {s : Shared} {vs : List Value} (h : wpAny M A (call (Value.ref 245) vs) Q E s) : wpAny M A (call (Value.ref 245) vs) Q E s := h
theorem at254 {M : Model} {A : Around} {Q E : Value → Shared → Prop} {s : Shared} {vs : List Value} (h : wpAny M A (call (Value.ref 254) vs) Q E s) : wpAny M A (call (Value.ref 254) vs) Q E s := h
end
section
open PySem PySem.W PySem.Calls PySem.Spec PyProof.Rows
set_option linter.unusedVariables false
set_option maxRecDepth 100000
theorem N0 {h₀ h : Heap} {L : Addr} : News h₀ L h [] := fun _ hp => nomatch hp
def OffL (own nx : List (Addr × Obj)) : Prop := ∀ p ∈ own, ∀ q ∈ nx, p.1 ≠ q.1
def EndJ (h₀ : Heap) (L : Addr) (J : (Str → Option Value) → List (Addr × Obj) → Prop) (own : List (Addr × Obj)) (s₁ s₂ : Shared) : Prop :=
  ∃ h' tk m' news' nx, s₂ = { s₁ with heap := h', toks := tk } ∧ Fr h₀ L h' m' ∧ News h₀ L h' news' ∧ (∀ p ∈ nx, p ∈ news') ∧ (∀ p ∈ own, p ∈ news') ∧ OffL own nx ∧ J m' nx
def PostJ (h₀ : Heap) (L : Addr) (J : (Str → Option Value) → List (Addr × Obj) → Prop) (own : List (Addr × Obj)) (s₁ : Shared) (Q : Flow → Shared → Prop) (f : Flow) (s₂ : Shared) : Prop :=
  match f with
  | .ret v => Q (.ret v) s₂
  | .brk => Q .next s₂
  | _ => EndJ h₀ L J own s₁ s₂
section
variable {prog : Program} {w : World} {A : Around} {E : Value → Shared → Prop} {s : Shared} {env : Env} {h₀ : Heap} {x : Str} {body : List Stmt} {Q : Flow → Shared → Prop}
theorem loop_J {I : Addr} {fp wr : List Addr} {n : Nat} {P : Nat → Value → Prop} {St : Nat → Heap → Prop} {m₀ : Str → Option Value} {news : List (Addr × Obj)} (J : Nat → (Str → Option Value) → List (Addr × Obj) → Prop)
    (W : Walks prog w A I fp wr n P St) (hLf : env.locals ∉ fp) (hwr : ∀ b ∈ wr, h₀.get? b = none) (hnf : ∀ p ∈ news, p.1 ∉ fp) (hst : St 0 s.heap) (hlive : ∀ i h, St i h → ∀ b ∈ fp, ∃ o, h.get? b = some o)
    (F : Fr h₀ env.locals s.heap m₀) (N : News h₀ env.locals s.heap news) (hj : J 0 m₀ news)
    (turn : ∀ i v m₁ nx h tk own, i < n → P i v → OffL own nx → J i m₁ nx → Fr h₀ env.locals h (fun y => if y = x then some v else m₁ y) → News h₀ env.locals h (nx ++ own) →
      wpAny (model prog w) A (execs body env) (PostJ h₀ env.locals (J (i + 1)) own { s with heap := h, toks := tk } Q) E { s with heap := h, toks := tk })
    (done : ∀ m₁ nx h tk, J n m₁ nx → Fr h₀ env.locals h m₁ → News h₀ env.locals h nx → Q .next { s with heap := h, toks := tk }) :
    LoopAtV prog w A h₀ env x body Q E (.ref I) s := by
  refine ⟨I, fp, wr, n, P, St, m₀, news, fun i m' nx => J i m' nx ∧ ∀ p ∈ nx, p.1 ∉ fp, rfl, W, hLf, hwr, fun p hp hm => hnf p hp (W.sub _ hm), hst, F, N, ⟨hj, hnf⟩, ?_, ?_⟩
  · rintro i v m₁ nx s₁ own ⟨hh', tk', rfl⟩ hi hP ⟨hJ, hoff⟩ _ hown _ hmem hst₁ F₁ N₁
    have hsep : OffL own nx := fun p hp q hq e => hoff q hq (by rw [← e]; exact hown p hp)
    have N₂ : News h₀ env.locals hh' (nx ++ own) := fun p hp => N₁ p ((List.mem_append.mp hp).elim (fun h => List.mem_append.mpr (.inr h)) fun h => List.mem_append.mpr (.inl h))
    refine wpAny_mono (turn i v m₁ nx hh' tk' own hi hP hsep hJ F₁ N₂) (fun f s₂ p => ?_) fun _ _ e => e
    have fin : EndJ h₀ env.locals (J (i + 1)) own { s with heap := hh', toks := tk' } s₂ →
        LoopStepU h₀ env.locals wr own (fun m' nx => J (i + 1) m' nx ∧ ∀ p ∈ nx, p.1 ∉ fp) { s with heap := hh', toks := tk' } .next s₂ := by
      rintro ⟨h', tk, m', news', nx', e, F', N', hn, ho, ha, hm⟩
      have off' : ∀ p ∈ nx', p.1 ∉ fp := fun p hp hb => by
        obtain ⟨o, hbo⟩ := hlive _ _ hst₁ _ hb
        have nn := (N' p (hn p hp)).2.2
        exact ha _ (hmem _ hb nn o hbo) p hp rfl
      exact ⟨rfl, h', tk, m', nx', e, F', fun p hp => N' p ((List.mem_append.mp hp).elim (ho p) (hn p)), fun p hp hq => off' p hp (W.sub _ hq), hm, off'⟩
    cases f with
    | ret v => exact .ret p
    | brk => exact .brk p
    | next => exact .next (fin p)
    | cont => exact .cont (fin p)
  · rintro h' tk m' nx F' N' _ ⟨hJ, _⟩
    exact done m' nx h' tk hJ F' N'
theorem iter_list {l : Addr} {vs : List Value} {m₀ : Str → Option Value} {news : List (Addr × Obj)} (J : Nat → (Str → Option Value) → List (Addr × Obj) → Prop)
    (hh : A.handled = none) (hl : s.heap.IsList l vs.toArray) (hlL : l ≠ env.locals) (hln : ∀ p ∈ news, p.1 ≠ l)
    (F : Fr h₀ env.locals s.heap m₀) (N : News h₀ env.locals s.heap news) (hj : J 0 m₀ news)
    (turn : ∀ i v m₁ nx h tk own, vs[i]? = some v → OffL own nx → J i m₁ nx → Fr h₀ env.locals h (fun y => if y = x then some v else m₁ y) → News h₀ env.locals h (nx ++ own) →
      wpAny (model prog w) A (execs body env) (PostJ h₀ env.locals (J (i + 1)) own { s with heap := h, toks := tk } Q) E { s with heap := h, toks := tk })
    (done : ∀ m₁ nx h tk, J vs.length m₁ nx → Fr h₀ env.locals h m₁ → News h₀ env.locals h nx → Q .next { s with heap := h, toks := tk }) :
    wpAny (model prog w) A (pyIter (.ref l)) (fun it s₂ => LoopAtV prog w A h₀ env x body Q E it s₂) E s := by
  obtain ⟨ol, hol, r⟩ := id hl
  have hne : l ≠ s.heap.objs.size := Nat.ne_of_lt (Heap.lt_size hol)
  refine wpAny_pyIter_list hl ?_
  have W := Walks.list (prog := prog) (w := w) hh s.heap.objs.size l hne vs.toArray
  rw [List.size_toArray] at W
  refine loop_J J W ?_ ?_ ?_ ⟨⟨_, Heap.get?_push_size _ rfl, rfl, rfl⟩, hl.at fun o e => Heap.get?_push_of_some _ e⟩ ?_ (F.push _) (fun p hp => ⟨Heap.get?_push_of_some _ (N p hp).1, (N p hp).2⟩) hj ?_ done
  · intro hm
    rcases List.mem_cons.mp hm with e | hm
    · exact absurd F.ns.lt (e ▸ Nat.lt_irrefl _)
    · exact hlL (List.mem_singleton.mp hm).symm
  · intro b hb
    rw [List.mem_singleton.mp hb]
    exact next_is_new F
  · intro p hp hm
    rcases List.mem_cons.mp hm with e | hm
    · exact absurd (Heap.lt_size (N p hp).1) (e ▸ Nat.lt_irrefl _)
    · exact hln p hp (List.mem_singleton.mp hm)
  · rintro i h ⟨⟨o, ho, _⟩, ⟨o', ho', _⟩⟩ b hb
    rcases List.mem_cons.mp hb with e | hm
    · exact ⟨o, e ▸ ho⟩
    · exact ⟨o', (List.mem_singleton.mp hm) ▸ ho'⟩
  · intro i v m₁ nx h tk own hi hP
    exact turn i v m₁ nx h tk own (by simpa using hP)
theorem iter_tuple {l : Addr} {vs : List Value} {m₀ : Str → Option Value} {news : List (Addr × Obj)} (J : Nat → (Str → Option Value) → List (Addr × Obj) → Prop)
    (hh : A.handled = none) (hl : s.heap.IsTuple l vs.toArray) (hlL : l ≠ env.locals) (hln : ∀ p ∈ news, p.1 ≠ l)
    (F : Fr h₀ env.locals s.heap m₀) (N : News h₀ env.locals s.heap news) (hj : J 0 m₀ news)
    (turn : ∀ i v m₁ nx h tk own, vs[i]? = some v → OffL own nx → J i m₁ nx → Fr h₀ env.locals h (fun y => if y = x then some v else m₁ y) → News h₀ env.locals h (nx ++ own) →
      wpAny (model prog w) A (execs body env) (PostJ h₀ env.locals (J (i + 1)) own { s with heap := h, toks := tk } Q) E { s with heap := h, toks := tk })
    (done : ∀ m₁ nx h tk, J vs.length m₁ nx → Fr h₀ env.locals h m₁ → News h₀ env.locals h nx → Q .next { s with heap := h, toks := tk }) :
    wpAny (model prog w) A (pyIter (.ref l)) (fun it s₂ => LoopAtV prog w A h₀ env x body Q E it s₂) E s := by
  obtain ⟨ol, hol, r⟩ := id hl
  have hne : l ≠ s.heap.objs.size := Nat.ne_of_lt (Heap.lt_size hol)
  refine wpAny_pyIter_tuple hl ?_
  have W := Walks.tuple (prog := prog) (w := w) hh s.heap.objs.size l hne vs.toArray
  rw [List.size_toArray] at W
  refine loop_J J W ?_ ?_ ?_ ⟨⟨_, Heap.get?_push_size _ rfl, rfl, rfl⟩, hl.at fun o e => Heap.get?_push_of_some _ e⟩ ?_ (F.push _) (fun p hp => ⟨Heap.get?_push_of_some _ (N p hp).1, (N p hp).2⟩) hj ?_ done
  · intro hm
    rcases List.mem_cons.mp hm with e | hm
    · exact absurd F.ns.lt (e ▸ Nat.lt_irrefl _)
    · exact hlL (List.mem_singleton.mp hm).symm
  · intro b hb
    rw [List.mem_singleton.mp hb]
    exact next_is_new F
  · intro p hp hm
    rcases List.mem_cons.mp hm with e | hm
    · exact absurd (Heap.lt_size (N p hp).1) (e ▸ Nat.lt_irrefl _)
    · exact hln p hp (List.mem_singleton.mp hm)
  · rintro i h ⟨⟨o, ho, _⟩, ⟨o', ho', _⟩⟩ b hb
    rcases List.mem_cons.mp hb with e | hm
    · exact ⟨o, e ▸ ho⟩
    · exact ⟨o', (List.mem_singleton.mp hm) ▸ ho'⟩
  · intro i v m₁ nx h tk own hi hP
    exact turn i v m₁ nx h tk own (by simpa using hP)
theorem iter_range {r : Addr} {a₀ b₀ : Int} {t₀ u₀ v₀ : Tok} {n : Nat} {m₀ : Str → Option Value} {news : List (Addr × Obj)} (J : Nat → (Str → Option Value) → List (Addr × Obj) → Prop)
    (hh : A.handled = none) (hr : IsRange s.heap r a₀ b₀ 1 t₀ u₀ v₀) (hsmall : Builtin.Range.small a₀ b₀ 1 = true) (hn : Builtin.Range.rangeSize a₀ b₀ 1 = (n : Int))
    (F : Fr h₀ env.locals s.heap m₀) (N : News h₀ env.locals s.heap news) (hj : J 0 m₀ news)
    (turn : ∀ i t m₁ nx h tk own, i < n → OffL own nx → J i m₁ nx → Fr h₀ env.locals h (fun y => if y = x then some (.int (a₀ + (i : Int)) t) else m₁ y) → News h₀ env.locals h (nx ++ own) →
      wpAny (model prog w) A (execs body env) (PostJ h₀ env.locals (J (i + 1)) own { s with heap := h, toks := tk } Q) E { s with heap := h, toks := tk })
    (done : ∀ m₁ nx h tk, J n m₁ nx → Fr h₀ env.locals h m₁ → News h₀ env.locals h nx → Q .next { s with heap := h, toks := tk }) :
    wpAny (model prog w) A (pyIter (.ref r)) (fun it s₂ => LoopAtV prog w A h₀ env x body Q E it s₂) E s := by
  refine wpAny_pyIter_range hr hsmall ?_
  have W := Walks.range (prog := prog) (w := w) hh s.heap.objs.size a₀ 1 n
  refine loop_J J W ?_ ?_ ?_ (by show IsRangeIter _ _ _ _ _; rw [hn]; simpa using Heap.get?_push_size _ rfl) ?_ (F.push _) (fun p hp => ⟨Heap.get?_push_of_some _ (N p hp).1, (N p hp).2⟩) hj ?_ done
  · intro hm
    exact absurd F.ns.lt ((List.mem_singleton.mp hm) ▸ Nat.lt_irrefl _)
  · intro b hb
    rw [List.mem_singleton.mp hb]
    exact next_is_new F
  · intro p hp hm
    exact absurd (Heap.lt_size (N p hp).1) ((List.mem_singleton.mp hm) ▸ Nat.lt_irrefl _)
  · rintro i h ho b hb
    exact ⟨_, (List.mem_singleton.mp hb) ▸ ho⟩
  · rintro i v m₁ nx h tk own hi ⟨t, rfl⟩
    rw [Int.mul_one]
    exact turn i t m₁ nx h tk own hi
theorem iter_keys {d : Addr} {kvs : List (Str × Value)} {ep : Nat} {m₀ : Str → Option Value} {news : List (Addr × Obj)} (J : Nat → (Str → Option Value) → List (Addr × Obj) → Prop)
    (hh : A.handled = none) (hd : (d == sysModules) = false) (hl : s.heap.DictAt (strKind prog w) d kvs ep) (hlL : d ≠ env.locals) (hln : ∀ p ∈ news, p.1 ≠ d)
    (F : Fr h₀ env.locals s.heap m₀) (N : News h₀ env.locals s.heap news) (hj : J 0 m₀ news)
    (turn : ∀ i k y v m₁ nx h tk own, kvs[i]? = some (k, y) → (strKind prog w).is k v = true → OffL own nx → J i m₁ nx → Fr h₀ env.locals h (fun y => if y = x then some v else m₁ y) → News h₀ env.locals h (nx ++ own) →
      wpAny (model prog w) A (execs body env) (PostJ h₀ env.locals (J (i + 1)) own { s with heap := h, toks := tk } Q) E { s with heap := h, toks := tk })
    (done : ∀ m₁ nx h tk, J kvs.length m₁ nx → Fr h₀ env.locals h m₁ → News h₀ env.locals h nx → Q .next { s with heap := h, toks := tk }) :
    wpAny (model prog w) A (pyIter (.ref d)) (fun it s₂ => LoopAtV prog w A h₀ env x body Q E it s₂) E s := by
  obtain ⟨ol, _, hol, r⟩ := id hl
  have hne : d ≠ s.heap.objs.size := Nat.ne_of_lt (Heap.lt_size hol)
  refine wpAny_pyIter_dict hd hl ?_
  have W := Walks.dictKeys (prog := prog) (w := w) (knd := strKind prog w) hh s.heap.objs.size d hne kvs ep
  refine loop_J J W ?_ ?_ ?_ ⟨⟨_, Heap.get?_push_size _ rfl, rfl, rfl⟩, hl.at' fun o e => Heap.get?_push_of_some _ e⟩ ?_ (F.push _) (fun p hp => ⟨Heap.get?_push_of_some _ (N p hp).1, (N p hp).2⟩) hj ?_ done
  · intro hm
    rcases List.mem_cons.mp hm with e | hm
    · exact absurd F.ns.lt (e ▸ Nat.lt_irrefl _)
    · exact hlL (List.mem_singleton.mp hm).symm
  · intro b hb
    rw [List.mem_singleton.mp hb]
    exact next_is_new F
  · intro p hp hm
    rcases List.mem_cons.mp hm with e | hm
    · exact absurd (Heap.lt_size (N p hp).1) (e ▸ Nat.lt_irrefl _)
    · exact hln p hp (List.mem_singleton.mp hm)
  · rintro i h ⟨⟨o, ho, _⟩, ⟨o', _, ho', _⟩⟩ b hb
    rcases List.mem_cons.mp hb with e | hm
    · exact ⟨o, e ▸ ho⟩
    · exact ⟨o', (List.mem_singleton.mp hm) ▸ ho'⟩
  · rintro i v m₁ nx h tk own hi ⟨k, y, hk, hP⟩
    exact turn i k y v m₁ nx h tk own hk hP
noncomputable def put : List Str → List (Option Value) → (Str → Option Value) → Str → Option Value
  | n :: ns, v :: vs, m, y => if y = n then v else put ns vs m y
  | _, _, m, y => m y
noncomputable def NotIn (z : Str) : List Str → Prop
  | [] => True
  | n :: r => z ≠ n ∧ NotIn z r
def Same (l : List Str) (m₀ m : Str → Option Value) : Prop := ∀ z, NotIn z l → m z = m₀ z
theorem notIn_or (z : Str) : ∀ l : List Str, NotIn z l ∨ z ∈ l
  | [] => .inl trivial
  | n :: r => by
    by_cases h : z = n
    · exact .inr (h ▸ List.mem_cons_self)
    · exact (notIn_or z r).imp (fun q => ⟨h, q⟩) fun q => List.mem_cons_of_mem _ q
theorem put_self {m m₀ : Str → Option Value} : ∀ {st : List Str} {y : Str}, (NotIn y st → m y = m₀ y) → put st (st.map m) m₀ y = m y
  | [], _, h => (h trivial).symm
  | n :: r, y, h => by
    show (if y = n then m n else put r (r.map m) m₀ y) = m y
    by_cases e : y = n
    · rw [if_pos e, e]
    · rw [if_neg e]; exact put_self fun q => h ⟨e, q⟩
theorem Same.put {x : Str} {st : List Str} {m₀ m : Str → Option Value} (h : Same (x :: st) m₀ m) (u : Option Value) : (fun y => if y = x then u else m y) = fun y => if y = x then u else Mine.put st (st.map m) m₀ y := by
  funext y
  by_cases e : y = x
  · simp only [if_pos e]
  · simp only [if_neg e]; exact (put_self fun q => h y ⟨e, q⟩).symm
theorem Same.put0 {st : List Str} {m₀ m : Str → Option Value} (h : Same st m₀ m) : m = Mine.put st (st.map m) m₀ := by
  funext y
  exact (put_self fun q => h y q).symm
theorem Same.refl {l : List Str} {m : Str → Option Value} : Same l m m := fun _ _ => rfl
theorem Same.self {x : Str} {st : List Str} {m₀ m : Str → Option Value} (h : Same (x :: st) m₀ m) : m = fun y => if y = x then m x else Mine.put st (st.map m) m₀ y := by
  rw [← h.put (m x)]
  funext y
  by_cases e : y = x
  · rw [if_pos e, e]
  · rw [if_neg e]
abbrev JV (x : Str) (st : List Str) (m₀ : Str → Option Value) (J : List (Option Value) → List (Addr × Obj) → Prop) (m : Str → Option Value) (nx : List (Addr × Obj)) : Prop := J (st.map m) nx ∧ Same (x :: st) m₀ m
def EndV (h₀ : Heap) (L : Addr) (x : Str) (st : List Str) (m₀ : Str → Option Value) (J : List (Option Value) → List (Addr × Obj) → Prop) (own : List (Addr × Obj)) (s₁ s₂ : Shared) : Prop := EndJ h₀ L (JV x st m₀ J) own s₁ s₂
def PostV (h₀ : Heap) (L : Addr) (x : Str) (st : List Str) (m₀ : Str → Option Value) (J : List (Option Value) → List (Addr × Obj) → Prop) (own : List (Addr × Obj)) (s₁ : Shared) (Q : Flow → Shared → Prop) (f : Flow) (s₂ : Shared) : Prop :=
  match f with
  | .ret v => Q (.ret v) s₂
  | .brk => Q .next s₂
  | _ => EndV h₀ L x st m₀ J own s₁ s₂
theorem EndV.intro {h₀ : Heap} {L : Addr} {x : Str} {st : List Str} {m₀ m' : Str → Option Value} {J : List (Option Value) → List (Addr × Obj) → Prop} {own news' : List (Addr × Obj)} {s₁ : Shared} {h' : Heap} {tk : Nat} (nx : List (Addr × Obj))
    (F : Fr h₀ L h' m') (N : News h₀ L h' news') (h1 : ∀ p ∈ nx, p ∈ news') (h2 : ∀ p ∈ own, p ∈ news') (h3 : OffL own nx) (hj : J (st.map m') nx) (hs : Same (x :: st) m₀ m') : EndV h₀ L x st m₀ J own s₁ { s₁ with heap := h', toks := tk } :=
  ⟨h', tk, m', news', nx, rfl, F, N, h1, h2, h3, hj, hs⟩
theorem PostV.toJ {h₀ : Heap} {L : Addr} {x : Str} {st : List Str} {m₀ : Str → Option Value} {J : List (Option Value) → List (Addr × Obj) → Prop} {own : List (Addr × Obj)} {s₁ s₂ : Shared} {Q : Flow → Shared → Prop} {f : Flow}
    (h : PostV h₀ L x st m₀ J own s₁ Q f s₂) : PostJ h₀ L (JV x st m₀ J) own s₁ Q f s₂ := by cases f <;> exact h
theorem iterL (st : List Str) (J : Nat → List (Option Value) → List (Addr × Obj) → Prop) {l : Addr} {vs : List Value} {m₀ : Str → Option Value} {news : List (Addr × Obj)}
    (hh : A.handled = none) (hl : s.heap.IsList l vs.toArray) (hlL : l ≠ env.locals) (hln : ∀ p ∈ news, p.1 ≠ l)
    (F : Fr h₀ env.locals s.heap m₀) (N : News h₀ env.locals s.heap news) (hj : J 0 (st.map m₀) news)
    (turn : ∀ i v vals nx h tk own, vs[i]? = some v → OffL own nx → J i vals nx → Fr h₀ env.locals h (fun y => if y = x then some v else put st vals m₀ y) → News h₀ env.locals h (nx ++ own) →
      wpAny (model prog w) A (execs body env) (PostV h₀ env.locals x st m₀ (J (i + 1)) own { s with heap := h, toks := tk } Q) E { s with heap := h, toks := tk })
    (done : ∀ u vals nx h tk, J vs.length vals nx → Fr h₀ env.locals h (fun y => if y = x then u else put st vals m₀ y) → News h₀ env.locals h nx → Q .next { s with heap := h, toks := tk }) :
    wpAny (model prog w) A (pyIter (.ref l)) (fun it s₂ => LoopAtV prog w A h₀ env x body Q E it s₂) E s :=
  iter_list (fun i m nx => JV x st m₀ (J i) m nx) hh hl hlL hln F N ⟨hj, .refl⟩
    (fun i v m₁ nx h tk own hv hoff hJ F₁ N₁ => wpAny_mono (turn i v _ nx h tk own hv hoff hJ.1 (hJ.2.put (some v) ▸ F₁) N₁) (fun f s₂ p => p.toJ) fun _ _ e => e)
    fun m₁ nx h tk hJ F₁ N₁ => done (m₁ x) _ nx h tk hJ.1 (hJ.2.self ▸ F₁) N₁
theorem iterT (st : List Str) (J : Nat → List (Option Value) → List (Addr × Obj) → Prop) {l : Addr} {vs : List Value} {m₀ : Str → Option Value} {news : List (Addr × Obj)}
    (hh : A.handled = none) (hl : s.heap.IsTuple l vs.toArray) (hlL : l ≠ env.locals) (hln : ∀ p ∈ news, p.1 ≠ l)
    (F : Fr h₀ env.locals s.heap m₀) (N : News h₀ env.locals s.heap news) (hj : J 0 (st.map m₀) news)
    (turn : ∀ i v vals nx h tk own, vs[i]? = some v → OffL own nx → J i vals nx → Fr h₀ env.locals h (fun y => if y = x then some v else put st vals m₀ y) → News h₀ env.locals h (nx ++ own) →
      wpAny (model prog w) A (execs body env) (PostV h₀ env.locals x st m₀ (J (i + 1)) own { s with heap := h, toks := tk } Q) E { s with heap := h, toks := tk })
    (done : ∀ u vals nx h tk, J vs.length vals nx → Fr h₀ env.locals h (fun y => if y = x then u else put st vals m₀ y) → News h₀ env.locals h nx → Q .next { s with heap := h, toks := tk }) :
    wpAny (model prog w) A (pyIter (.ref l)) (fun it s₂ => LoopAtV prog w A h₀ env x body Q E it s₂) E s :=
  iter_tuple (fun i m nx => JV x st m₀ (J i) m nx) hh hl hlL hln F N ⟨hj, .refl⟩
    (fun i v m₁ nx h tk own hv hoff hJ F₁ N₁ => wpAny_mono (turn i v _ nx h tk own hv hoff hJ.1 (hJ.2.put (some v) ▸ F₁) N₁) (fun f s₂ p => p.toJ) fun _ _ e => e)
    fun m₁ nx h tk hJ F₁ N₁ => done (m₁ x) _ nx h tk hJ.1 (hJ.2.self ▸ F₁) N₁
theorem iterR (st : List Str) (J : Nat → List (Option Value) → List (Addr × Obj) → Prop) {r : Addr} {a₀ b₀ : Int} {t₀ u₀ v₀ : Tok} {n : Nat} {m₀ : Str → Option Value} {news : List (Addr × Obj)}
    (hh : A.handled = none) (hr : IsRange s.heap r a₀ b₀ 1 t₀ u₀ v₀) (hsmall : Builtin.Range.small a₀ b₀ 1 = true) (hn : Builtin.Range.rangeSize a₀ b₀ 1 = (n : Int))
    (F : Fr h₀ env.locals s.heap m₀) (N : News h₀ env.locals s.heap news) (hj : J 0 (st.map m₀) news)
    (turn : ∀ i t vals nx h tk own, i < n → OffL own nx → J i vals nx → Fr h₀ env.locals h (fun y => if y = x then some (.int (a₀ + (i : Int)) t) else put st vals m₀ y) → News h₀ env.locals h (nx ++ own) →
      wpAny (model prog w) A (execs body env) (PostV h₀ env.locals x st m₀ (J (i + 1)) own { s with heap := h, toks := tk } Q) E { s with heap := h, toks := tk })
    (done : ∀ u vals nx h tk, J n vals nx → Fr h₀ env.locals h (fun y => if y = x then u else put st vals m₀ y) → News h₀ env.locals h nx → Q .next { s with heap := h, toks := tk }) :
    wpAny (model prog w) A (pyIter (.ref r)) (fun it s₂ => LoopAtV prog w A h₀ env x body Q E it s₂) E s :=
  iter_range (fun i m nx => JV x st m₀ (J i) m nx) hh hr hsmall hn F N ⟨hj, .refl⟩
    (fun i t m₁ nx h tk own hi hoff hJ F₁ N₁ => wpAny_mono (turn i t _ nx h tk own hi hoff hJ.1 (hJ.2.put _ ▸ F₁) N₁) (fun f s₂ p => p.toJ) fun _ _ e => e)
    fun m₁ nx h tk hJ F₁ N₁ => done (m₁ x) _ nx h tk hJ.1 (hJ.2.self ▸ F₁) N₁
theorem iterK (st : List Str) (J : Nat → List (Option Value) → List (Addr × Obj) → Prop) {d : Addr} {kvs : List (Str × Value)} {ep : Nat} {m₀ : Str → Option Value} {news : List (Addr × Obj)}
    (hh : A.handled = none) (hd : (d == sysModules) = false) (hl : s.heap.DictAt (strKind prog w) d kvs ep) (hlL : d ≠ env.locals) (hln : ∀ p ∈ news, p.1 ≠ d)
    (F : Fr h₀ env.locals s.heap m₀) (N : News h₀ env.locals s.heap news) (hj : J 0 (st.map m₀) news)
    (turn : ∀ i k y v vals nx h tk own, kvs[i]? = some (k, y) → (strKind prog w).is k v = true → OffL own nx → J i vals nx → Fr h₀ env.locals h (fun y => if y = x then some v else put st vals m₀ y) → News h₀ env.locals h (nx ++ own) →
      wpAny (model prog w) A (execs body env) (PostV h₀ env.locals x st m₀ (J (i + 1)) own { s with heap := h, toks := tk } Q) E { s with heap := h, toks := tk })
    (done : ∀ u vals nx h tk, J kvs.length vals nx → Fr h₀ env.locals h (fun y => if y = x then u else put st vals m₀ y) → News h₀ env.locals h nx → Q .next { s with heap := h, toks := tk }) :
    wpAny (model prog w) A (pyIter (.ref d)) (fun it s₂ => LoopAtV prog w A h₀ env x body Q E it s₂) E s :=
  iter_keys (fun i m nx => JV x st m₀ (J i) m nx) hh hd hl hlL hln F N ⟨hj, .refl⟩
    (fun i k y v m₁ nx h tk own hv hk hoff hJ F₁ N₁ => wpAny_mono (turn i k y v _ nx h tk own hv hk hoff hJ.1 (hJ.2.put (some v) ▸ F₁) N₁) (fun f s₂ p => p.toJ) fun _ _ e => e)
    fun m₁ nx h tk hJ F₁ N₁ => done (m₁ x) _ nx h tk hJ.1 (hJ.2.self ▸ F₁) N₁
def EndW (h₀ : Heap) (L : Addr) (J : Nat → (Str → Option Value) → List (Addr × Obj) → Prop) (k : Nat) (s₁ s₂ : Shared) : Prop :=
  ∃ k' h' tk m' nx, k' < k ∧ s₂ = { s₁ with heap := h', toks := tk } ∧ Fr h₀ L h' m' ∧ News h₀ L h' nx ∧ J k' m' nx
def PostW (h₀ : Heap) (L : Addr) (J : Nat → (Str → Option Value) → List (Addr × Obj) → Prop) (k : Nat) (s₁ : Shared) (Q : Flow → Shared → Prop) (f : Flow) (s₂ : Shared) : Prop :=
  match f with
  | .ret v => Q (.ret v) s₂
  | .brk => Q .next s₂
  | _ => EndW h₀ L J k s₁ s₂
theorem while_J {test : Expr} {pos : Pos} {m₀ : Str → Option Value} {news : List (Addr × Obj)} (J : Nat → (Str → Option Value) → List (Addr × Obj) → Prop) (k₀ : Nat)
    (F : Fr h₀ env.locals s.heap m₀) (N : News h₀ env.locals s.heap news) (hj : J k₀ m₀ news)
    (turn : ∀ k m₁ nx h tk, J k m₁ nx → Fr h₀ env.locals h m₁ → News h₀ env.locals h nx →
      wpAny (model prog w) A (isTrue test env (eval test env)) (fun b s₂ => if b then wpAny (model prog w) A (execs body env) (PostW h₀ env.locals J k { s with heap := h, toks := tk } Q) E s₂ else Q .next s₂) E { s with heap := h, toks := tk })
    (hE : PassesOwn (model prog w) A env E := by passes_own) :
    wpAny (model prog w) A (exec (.While test body [] pos) env) Q E s := by
  refine wpAny_While ?_
  refine codeAny_whileLoop (fun k s' => ∃ h' tk m' nx, s' = { s with heap := h', toks := tk } ∧ Fr h₀ env.locals h' m' ∧ News h₀ env.locals h' nx ∧ J k m' nx) ?_ k₀ ⟨s.heap, s.toks, m₀, news, rfl, F, N, hj⟩
  rintro k s' ⟨h', tk, m', nx, rfl, F', N', hJ⟩
  refine wpAny_passesOwn hE (wpAny_mono (turn k m' nx h' tk hJ F' N') (fun b s₂ h₂ => ?_) fun _ _ e => e)
  cases b with
  | false => exact wpAny_execs_nil h₂
  | true =>
    refine wpAny_passesOwn hE (wpAny_mono h₂ (fun f s₃ h₃ => ?_) fun _ _ e => e)
    have fin : EndW h₀ env.locals J k { s with heap := h', toks := tk } s₃ → ∃ m, m < k ∧ ∃ h' tk m' nx, s₃ = { s with heap := h', toks := tk } ∧ Fr h₀ env.locals h' m' ∧ News h₀ env.locals h' nx ∧ J m m' nx := by
      rintro ⟨k', h₁, tk₁, m₁, nx₁, hk, e, F₁, N₁, hJ₁⟩
      exact ⟨k', hk, h₁, tk₁, m₁, nx₁, e, F₁, N₁, hJ₁⟩
    cases f with
    | ret v => exact h₃
    | brk => exact h₃
    | next => exact fin h₃
    | cont => exact fin h₃
def EndWV (h₀ : Heap) (L : Addr) (st : List Str) (m₀ : Str → Option Value) (J : Nat → List (Option Value) → List (Addr × Obj) → Prop) (k : Nat) (s₁ s₂ : Shared) : Prop :=
  EndW h₀ L (fun k m nx => J k (st.map m) nx ∧ Same st m₀ m) k s₁ s₂
def PostWV (h₀ : Heap) (L : Addr) (st : List Str) (m₀ : Str → Option Value) (J : Nat → List (Option Value) → List (Addr × Obj) → Prop) (k : Nat) (s₁ : Shared) (Q : Flow → Shared → Prop) (f : Flow) (s₂ : Shared) : Prop :=
  match f with
  | .ret v => Q (.ret v) s₂
  | .brk => Q .next s₂
  | _ => EndWV h₀ L st m₀ J k s₁ s₂
theorem EndWV.intro {h₀ : Heap} {L : Addr} {st : List Str} {m₀ m' : Str → Option Value} {J : Nat → List (Option Value) → List (Addr × Obj) → Prop} {k : Nat} {s₁ : Shared} {h' : Heap} {tk : Nat} {news' : List (Addr × Obj)} (nx : List (Addr × Obj)) (k' : Nat) (hk : k' < k)
    (F : Fr h₀ L h' m') (N : News h₀ L h' news') (h1 : ∀ p ∈ nx, p ∈ news') (hj : J k' (st.map m') nx) (hs : Same st m₀ m') : EndWV h₀ L st m₀ J k s₁ { s₁ with heap := h', toks := tk } :=
  ⟨k', h', tk, m', nx, hk, rfl, F, fun p hp => N p (h1 p hp), hj, hs⟩
theorem whileV (st : List Str) (J : Nat → List (Option Value) → List (Addr × Obj) → Prop) (k₀ : Nat) {test : Expr} {pos : Pos} {m₀ : Str → Option Value} {news : List (Addr × Obj)}
    (F : Fr h₀ env.locals s.heap m₀) (N : News h₀ env.locals s.heap news) (hj : J k₀ (st.map m₀) news)
    (turn : ∀ k vals nx h tk, J k vals nx → Fr h₀ env.locals h (put st vals m₀) → News h₀ env.locals h nx →
      wpAny (model prog w) A (isTrue test env (eval test env)) (fun b s₂ => if b then wpAny (model prog w) A (execs body env) (PostWV h₀ env.locals st m₀ J k { s with heap := h, toks := tk } Q) E s₂ else Q .next s₂) E { s with heap := h, toks := tk })
    (hE : PassesOwn (model prog w) A env E := by passes_own) :
    wpAny (model prog w) A (exec (.While test body [] pos) env) Q E s :=
  while_J (fun k m nx => J k (st.map m) nx ∧ Same st m₀ m) k₀ F N ⟨hj, .refl⟩
    (fun k m₁ nx h tk hJ F₁ N₁ => wpAny_mono (turn k _ nx h tk hJ.1 (hJ.2.put0 ▸ F₁) N₁) (fun b s₂ p => by
      cases b with
      | false => exact p
      | true => exact wpAny_mono p (fun f s₃ q => by cases f <;> exact q) fun _ _ e => e) fun _ _ e => e) hE
end
end
section
open PySem PySem.W PySem.Calls PySem.Spec PyProof.Rows
set_option linter.unusedVariables false
set_option maxRecDepth 100000
def Rd (w : World) (mean : ExcName → Option Value) (mg mb : Str → Option Value) (n : Nat) (f : Addr) (vs : List Value) (pre : Heap → Prop) (post : Heap → Value → Heap → Prop) : Prop :=
  ∀ (dp un : Nat) (gd : Option (List Code)) (cn : Str) (cs : Scope) (a : Addr) (ccd : Value) (cl : List (Str × Addr)) (outer : List Env) (A₀ : Around) (base h₀ : Heap) (L : Addr) (m : Str → Option Value) (s : Shared) (Q E : Value → Shared → Prop),
    Below A₀ base outer h₀ → Fr h₀ L s.heap m → (hd.heap_39 w.params).In h₀ → Top PV LS mean mg mb h₀ → cs.kind = .function → dp + 10 * n ≤ 900 → un + 100 * n ≤ 9000 → pre s.heap →
    (∀ v h' tk', s.heap.StaysIn h' → post s.heap v h' → Q v { s with heap := h', toks := tk' }) →
    wpAny (model PG w) (ktrTop dp un gd cn cs L a ccd cl outer) (call (.ref f) vs) Q E s
def EndR (g : Heap) (L : Addr) (post : Value → Heap → Prop) (s₁ : Shared) (v : Value) (s' : Shared) : Prop :=
  ∃ h' tk' m', s' = { s₁ with heap := h', toks := tk' } ∧ Fr g L h' m' ∧ post v h'
section
variable {w : World} {mean : ExcName → Option Value} {mg mb : Str → Option Value} {n : Nat} {f : Addr} {vs : List Value} {pre : Heap → Prop} {post : Heap → Value → Heap → Prop}
  {name qual : Str} {params : Arguments} {body : List Stmt} {scope : Scope} {dV kV doc pm cdv ct oc : Value} {an od : Option Addr} {osl : Array (Option Value)} {binds : List (Str × Value)}
theorem Rd.use (C : Rd w mean mg mb n f vs pre post) {dp un : Nat} {gd : Option (List Code)} {cn : Str} {cs : Scope} {a : Addr} {ccd : Value} {cl : List (Str × Addr)} {outer : List Env} {A₀ : Around} {base h₀ : Heap} {L : Addr} {m : Str → Option Value} {s : Shared} {Q E : Value → Shared → Prop} {news : List (Addr × Obj)}
    (B : Below A₀ base outer h₀) (F : Fr h₀ L s.heap m) (X : (hd.heap_39 w.params).In h₀) (N : News h₀ L s.heap news) (T : Top PV LS mean mg mb h₀) (hk : cs.kind = .function) (hd : dp + 10 * n ≤ 900) (hu : un + 100 * n ≤ 9000) (hp : pre s.heap)
    (ret : ∀ v h' tk', Fr h₀ L h' m → News h₀ L h' news → s.heap.StaysIn h' → post s.heap v h' → Q v { s with heap := h', toks := tk' }) :
    wpAny (model PG w) (ktrTop dp un gd cn cs L a ccd cl outer) (call (.ref f) vs) Q E s :=
  C dp un gd cn cs a ccd cl outer A₀ base h₀ L m s Q E B F X T hk hd hu hp fun v h' tk' st hq =>
    ret v h' tk' (F.keeps st) (fun p hp => ⟨st _ _ (N p hp).1, (N p hp).2⟩) st hq
theorem Rd.enter
    (h : ∀ (dp un : Nat) (gd : Option (List Code)) (outer : List Env) (A₀ : Around) (base : Heap) (L' : Addr) (g : Heap) (s₁ : Shared), Below A₀ base outer g → Fr g L' s₁.heap (fun y => binds.reverse.lookup y) → News g L' s₁.heap [] → (hd.heap_39 w.params).In g → Top PV LS mean mg mb g →
      dp + 10 * n ≤ 901 → un + 100 * n ≤ 9003 → pre g →
      wpAny (model PG w) (ktrTop dp un gd qual scope L' f cdv [] outer) (execs body (envOf qual scope L' f cdv)) (fun fl s' => EndR g L' (post g) s₁ (match fl with | .ret v => v | _ => .none) s') (fun _ _ => False) s₁)
    (ho : (hd.heap_39 w.params).lookup f = some ⟨oc, od, .func (fnOf name qual params body scope dV kV doc pm an cdv ct), osl⟩ := by k_is) (hcd : codeIn (hd.heap_39 w.params) cdv qual = true := by k_is)
    (hbind : ∀ s, BindsTo s (fnOf name qual params body scope dV kV doc pm an cdv ct) ⟨vs, []⟩ binds := by (intro _; exact BindsTo.of_eq rfl)) (hloc : ∀ y ∈ binds, scope.names.lookup y.1 = some .local := by exact locs rfl)
    (hco : scope.isCoroutine = false := by exact rfl) (hgen : scope.isGenerator = false := by exact rfl) (hk : scope.kind = .function := by exact rfl) (hcell : ∀ x ∈ scope.names, x.2 ≠ .cell := by decide)
    (hn : 1 ≤ n := by decide) : Rd w mean mg mb n f vs pre post := by
  intro dp un gd cn cs a ccd cl outer A₀ base h₀ L m s Q E B F X T hkc hd hu hp hret
  refine wpAny_call ?_
  have hroom : (ktrTop dp un gd cn cs L a ccd cl outer).depth < recursionLimit := by show dp < 1000; omega
  refine codeAny_call_def (fd := fnOf name qual params body scope dV kV doc pm an cdv ct) (body := body) (binds := binds) hroom ((X.keeps F.keep) _ _ ho) rfl (T.nolimit.keeps F.keep) (codeRec_of (X.keeps F.keep) hcd) rfl (hbind s) hcell hloc (fun h₁ hns hk₁ => ?_) hco hgen hk
  have B' := pushX (env := envX cn cs L a ccd cl) B F rfl hkc
  refine wpAny_mono (h (dp + 1) (un + 3) gd (envX cn cs L a ccd cl :: outer) _ base s.heap.objs.size s.heap { s with heap := h₁, toks := s.toks + binds.length } B' ⟨hns, hk₁, Nat.le_refl _⟩ N0 (X.keeps F.keep) (T.keeps F.keep) (by omega) (by omega) hp) (fun fl s' hl => ?_) fun _ _ y => y.elim
  obtain ⟨h', tk', m', rfl, F', hq⟩ := hl
  exact hret _ h' tk' (fun b o e => F'.keep b o e) hq
end
local macro_rules | `(tactic| walk_at "EndR") => `(tactic| (refine ⟨_, _, _, rfl, by k_asm, ?_⟩))
end
section
open PySem PySem.W PySem.Calls PySem.Spec PyProof.Rows
set_option linter.unusedVariables false
set_option maxRecDepth 100000
def Halt (p : Prop) : Prop := p
theorem halt {p : Prop} (h : Halt p) : p := h
theorem hold_post {M : Model} {A : Around} {X : Type} {p : Sem X} {Q : X → Shared → Prop} {E : Value → Shared → Prop} {s : Shared} (h : ∀ Q', (∀ v s', Q v s' → Q' v s') → wpAny M A p Q' E s) : wpAny M A p Q E s := h Q fun _ _ q => q
theorem at246 {M : Model} {A : Around} {Q E : Value → Shared → Prop} {s : Shared} {v sl : PySem.Expr} {k : Int} {u : Tok} (h : wpAny M A (subscriptTail v sl (Value.ref 246) (Value.int k u)) Q E s) : wpAny M A (subscriptTail v sl (Value.ref 246) (Value.int k u)) Q E s := h
theorem at247 {M : Model} {A : Around} {Q E : Value → Shared → Prop} {s : Shared} {v sl : PySem.Expr} {k : Int} {u : Tok} (h : wpAny M A (subscriptTail v sl (Value.ref 247) (Value.int k u)) Q E s) : wpAny M A (subscriptTail v sl (Value.ref 247) (Value.int k u)) Q E s := h
theorem h135 {M : Model} {A : Around} {Q E : Value → Shared → Prop} {s : Shared} {vs : List Value} (h : Halt (wpAny M A (call (Value.ref 135) vs) Q E s)) : wpAny M A (call (Value.ref 135) vs) Q E s := halt h
theorem h86 {M : Model} {A : Around} {Q E : Value → Shared → Prop} {s : Shared} {vs : List Value} (h : Halt (wpAny M A (call (Value.ref 86) vs) Q E s)) : wpAny M A (call (Value.ref 86) vs) Q E s := halt h
theorem h111 {M : Model} {A : Around} {Q E : Value → Shared → Prop} {s : Shared} {vs : List Value} (h : Halt (wpAny M A (call (Value.ref 111) vs) Q E s)) : wpAny M A (call (Value.ref 111) vs) Q E s := halt h
theorem h261 {M : Model} {A : Around} {Q E : Value → Shared → Prop} {s : Shared} {vs : List Value} (h : Halt (wpAny M A (call (Value.ref 261) vs) Q E s)) : wpAny M A (call (Value.ref 261) vs) Q E s := halt h
theorem h268 {M : Model} {A : Around} {Q E : Value → Shared → Prop} {s : Shared} {vs : List Value} (h : Halt (wpAny M A (call (Value.ref 268) vs) Q E s)) : wpAny M A (call (Value.ref 268) vs) Q E s := halt h
theorem h275 {M : Model} {A : Around} {Q E : Value → Shared → Prop} {s : Shared} {vs : List Value} (h : Halt (wpAny M A (call (Value.ref 275) vs) Q E s)) : wpAny M A (call (Value.ref 275) vs) Q E s := halt h
theorem go {p : Prop} (h : p) : Halt p := h
structure LstAt (h : Heap) (a : Addr) (vs : List Value) : Prop where
  at_ : h.IsList a vs.toArray
  len : vs.length ≤ 100000
structure TupAt (h : Heap) (a : Addr) (vs : List Value) : Prop where
  at_ : IsTup h a vs.toArray
  len : vs.length ≤ 100000
theorem LstAt.keeps {h h' : Heap} {a : Addr} {vs : List Value} (x : LstAt h a vs) (k : ∀ b o, h.get? b = some o → h'.get? b = some o) : LstAt h' a vs := ⟨x.at_.at fun o e => k _ o e, x.len⟩
theorem TupAt.keeps {h h' : Heap} {a : Addr} {vs : List Value} (x : TupAt h a vs) (k : ∀ b o, h.get? b = some o → h'.get? b = some o) : TupAt h' a vs := ⟨x.at_.keeps k, x.len⟩
theorem LstAt.of_news {h₀ h : Heap} {L a : Addr} {vs : List Value} {n : Nat} {news : List (Addr × Obj)} (N : News h₀ L h news) (m : (a, ({ cls := .type "list", data := .seq vs.toArray n } : Obj)) ∈ news) (l : vs.length ≤ 100000) : LstAt h a vs := ⟨⟨_, N.get m, rfl, n, rfl⟩, l⟩
theorem TupAt.of_news {h₀ h : Heap} {L a : Addr} {vs : List Value} {n : Nat} {news : List (Addr × Obj)} (N : News h₀ L h news) (m : (a, ({ cls := .type "tuple", data := .seq vs.toArray n } : Obj)) ∈ news) (l : vs.length ≤ 100000) : TupAt h a vs := ⟨⟨_, N.get m, rfl, n, rfl⟩, l⟩
theorem LstAt.lt {h : Heap} {a : Addr} {vs : List Value} (x : LstAt h a vs) : a < h.objs.size := let ⟨_, ho, _⟩ := x.at_; Heap.lt_size ho
theorem TupAt.lt {h : Heap} {a : Addr} {vs : List Value} (x : TupAt h a vs) : a < h.objs.size := let ⟨_, ho, _⟩ := x.at_; Heap.lt_size ho
theorem old_ne {g h : Heap} {L a : Addr} {m : Str → Option Value} (F : Fr g L h m) (x : a < g.objs.size) : a ≠ L := Nat.ne_of_lt (Nat.lt_of_lt_of_le x F.above)
section
variable {prog : Program} {w : World} {A : Around} {E : Value → Shared → Prop} {s : Shared}
theorem len_lstAt {a : Addr} {vs : List Value} {Q : Value → Shared → Prop} (x : LstAt s.heap a vs) (h : ∀ t tk, Q (.int vs.length t) { s with toks := tk }) : wpAny (model prog w) A (call (.builtin "len") [.ref a]) Q E s :=
  len_list x.at_ (by have := x.len; simp only [List.size_toArray]; omega) (by simpa using h _ _)
theorem len_tupAt {a : Addr} {vs : List Value} {Q : Value → Shared → Prop} (x : TupAt s.heap a vs) (h : ∀ t tk, Q (.int vs.length t) { s with toks := tk }) : wpAny (model prog w) A (call (.builtin "len") [.ref a]) Q E s :=
  len_tuple x.at_ (by have := x.len; simp only [List.size_toArray]; omega) (by simpa using h _ _)
theorem item_tupAt {value slice : Expr} {a : Addr} {vs : List Value} {k : Int} {u : Tok} {v : Value} {Q : Value → Shared → Prop} (x : TupAt s.heap a vs) (h0 : 0 ≤ k) (hv : vs[k.toNat]? = some v) (h : Q v s)
    (hs : subscripted slice false (.ref a) (.int k u) = operate [.ref a, .int k u] (getItem (.ref a) (.int k u)) := by with_unfolding_all rfl) :
    wpAny (model prog w) A (subscriptTail value slice (.ref a) (.int k u)) Q E s := by
  have hl := x.len
  have hk : k.toNat < vs.length := (List.getElem?_eq_some_iff.mp hv).1
  have hj : seqIndex? k vs.length = some k.toNat := by
    have hlt : ¬ k < 0 := by omega
    have h2 : k < (vs.length : Int) := by omega
    unfold seqIndex?
    simp [hlt, h0, h2]
  exact item_tupleT x.at_ (by omega) (by omega) hj hv h hs
theorem item_lstAt {value slice : Expr} {a : Addr} {vs : List Value} {k : Int} {u : Tok} {v : Value} {Q : Value → Shared → Prop} (x : LstAt s.heap a vs) (h0 : 0 ≤ k) (hv : vs[k.toNat]? = some v) (h : Q v s)
    (hs : subscripted slice false (.ref a) (.int k u) = operate [.ref a, .int k u] (getItem (.ref a) (.int k u)) := by with_unfolding_all rfl) :
    wpAny (model prog w) A (subscriptTail value slice (.ref a) (.int k u)) Q E s := by
  have hl := x.len
  have hk : k.toNat < vs.length := (List.getElem?_eq_some_iff.mp hv).1
  have hL := x.at_
  exact tail_any hL.typeIs slot_list_getitem.lookup (wpAny_getItem_list hL h0 (by omega) (by simpa using hv) h) hs
theorem item_tupS {value slice : Expr} {a : Addr} {ws : List Value} {qs : List Str} {k : Int} {u : Tok} {Q : Value → Shared → Prop} (x : TupAt s.heap a ws) (hs : StrsAre ws qs) (h0 : 0 ≤ k) (hlt : k < (ws.length : Int)) (h : ∀ y t, qs[k.toNat]? = some y → Q (.str y t) s)
    (hs' : subscripted slice false (.ref a) (.int k u) = operate [.ref a, .int k u] (getItem (.ref a) (.int k u)) := by with_unfolding_all rfl) :
    wpAny (model prog w) A (subscriptTail value slice (.ref a) (.int k u)) Q E s := by
  have hk : k.toNat < ws.length := by omega
  obtain ⟨y, t, hv, hy⟩ := hs.item k.toNat ws[k.toNat] (by simp [hk])
  exact item_tupAt x h0 (by simp [hk, ← hv]) (h y t hy) hs'
end
end
local macro_rules | `(tactic| walk_at "EndR") => `(tactic| (refine ⟨_, _, _, rfl, by k_asm, ?_⟩))
local macro_rules | `(tactic| walk_at "PostV") => `(tactic| (dsimp only [PostV]))
local macro_rules | `(tactic| walk_at "PostWV") => `(tactic| (dsimp only [PostWV]))
local macro_rules | `(tactic| walk_at "exec For Name Name cons nil") => `(tactic| (refine halt ?_))
local macro_rules | `(tactic| walk_at "exec For Name Attribute cons nil") => `(tactic| (refine halt ?_))
local macro_rules | `(tactic| walk_at "exec For Name Call cons nil") => `(tactic| (refine halt ?_))
local macro_rules | `(tactic| walk_at "exec While Compare cons nil") => `(tactic| (refine halt ?_))
local macro_rules | `(tactic| walk_at "pyIter ref") => `(tactic| (refine halt ?_))
local macro_rules | `(tactic| walk_at "my lst0") => `(tactic| first | assumption | exact LstAt.keeps (by assumption) (Fr.keep (by assumption)))
local macro_rules | `(tactic| walk_at "my tup") => `(tactic| first | assumption | exact TupAt.keeps (by assumption) (Fr.keep (by assumption)))
local macro_rules | `(tactic| walk_at "call builtin:len") => `(tactic| ((with_reducible refine at_len ?_); (first | refine len_tupAt (by walk_at "my tup") ?_ | refine len_lstAt (by walk_at "my lst0") ?_); intro _ _))
local macro_rules | `(tactic| walk_at "subscriptTail Name Name ref int") => `(tactic| (k_here; (with_unfolding_all refine' item_tupS ?k1 ?k2 ?k3 ?k4 ?_ ?k5; (case k1 => walk_at "my tup"); (case k2 => assumption); (case k3 => omega); (case k4 => omega); (case k5 => with_unfolding_all rfl)); intro _ _ _))
local macro_rules | `(tactic| walk_at "call builtin:list.append") => `(tactic| (k_dflt (refine' append_K ?k1 ?k2 ?k3 ?_ ?z; (case k1 => k_asm); (case k2 => k_asm); (case k3 => k_upd); (case z => first | assumption | size_fits); k_whole); intro h' F' N'; (try k_sweep)))
section
open PySem PySem.W PySem.Calls PySem.Spec PyProof.Rows
set_option maxRecDepth 100000
set_option linter.unusedVariables false
theorem fill_leads : (fun (_ : OpenLaw) (_ : Params → Frag) => True) PySem.Challenge.rw_pc0126_01 hd.heap_39 := by k_fill; trivial
def cnt (qs : List Str) (xs : List Str) : Nat := xs.foldl (fun at_ x => if qs[at_]? = some x then at_ + 1 else at_) 0
def leads (xs qs : List Str) : Bool := decide (cnt qs xs = qs.length)
theorem cnt_snoc (qs xs : List Str) (x : Str) : cnt qs (xs ++ [x]) = if qs[cnt qs xs]? = some x then cnt qs xs + 1 else cnt qs xs := by
  unfold cnt
  rw [List.foldl_append]
  rfl
theorem cnt_take {qs xs : List Str} {x : Str} {i : Nat} (h : xs[i]? = some x) : cnt qs (xs.take (i + 1)) = if qs[cnt qs (xs.take i)]? = some x then cnt qs (xs.take i) + 1 else cnt qs (xs.take i) := by
  rw [List.take_add_one, h]; exact cnt_snoc ..
set_option maxHeartbeats 800000 in
theorem leads_ok {w : World} {mean : ExcName → Option Value} {mg mb : Str → Option Value} (ar q : Addr) (vs ws : List Value) (xs qs : List Str) (hx : StrsAre vs xs) (hq : StrsAre ws qs) :
    Rd w mean mg mb 1 219 [.ref ar, .ref q] (fun h => LstAt h ar vs ∧ TupAt h q ws) (fun _ v _ => v = .bool (leads xs qs)) := by
  w_top off
  refine Rd.enter (binds := [(Str.ofString "around", .ref ar), (Str.ofString "qualifiers", .ref q)]) ?_
  rintro dp un gd outer A₀ base L g s₁ B F N X T hd hu ⟨hA, hQ⟩
  k_fold
  k_steps
  rename Fr _ _ _ _ => F
  rename News _ _ _ _ => N
  refine go ?_
  (with_unfolding_all refine' For_invVF F ?k1 ?k2 ?_; (case k1 => exact rfl); (case k2 => exact rfl))
  walk1
  refine iterL [Str.ofString "at"] (fun i vals nx => nx = [] ∧ ∃ t, vals = [some (.int (cnt qs (xs.take i)) t)]) (vs := vs)
    rfl (hA.keeps F.keep).at_ (old_ne F hA.lt) (by simp) F N ⟨rfl, _, rfl⟩ ?_ ?_
  · rintro i v vals nx h tk own hv hoff ⟨rfl, t, rfl⟩ F₁ N₁
    clear F N
    obtain ⟨x, t', rfl, hxi⟩ := hx.item i v hv
    have hl := hq.length
    k_steps
    · rename (_ == _) = true => e
      rename _[_]? = some _ => hy
      refine EndV.intro [] (by assumption) (by assumption) (by simp) (fun p hp => hp) hoff ⟨rfl, ?_⟩ ?_
      · rw [cnt_take hxi, if_pos (by rw [eq_of_beq e]; exact hy)]; exact ⟨_, rfl⟩
      · intro z hz; simp only [NotIn] at hz; simp [hz, put]
    · rename (_ == _) = false => e
      rename _[_]? = some _ => hy
      refine EndV.intro [] (by assumption) (by assumption) (by simp) (fun p hp => hp) hoff ⟨rfl, ?_⟩ ?_
      · rw [cnt_take hxi, if_neg (fun q => by rw [Int.toNat_natCast] at hy; rw [hy] at q; cases q; simp at e)]; exact ⟨_, rfl⟩
      · intro z hz; simp only [NotIn] at hz; simp [hz, put]
    · rename ¬ (_ < _) => hlt
      refine EndV.intro [] (by assumption) (by assumption) (by simp) (fun p hp => hp) hoff ⟨rfl, ?_⟩ ?_
      · rw [cnt_take hxi, if_neg (fun q => by have := (List.getElem?_eq_some_iff.mp q).1; omega)]; exact ⟨_, rfl⟩
      · intro z hz; simp only [NotIn] at hz; simp [hz, put]
  · rintro u vals nx h tk ⟨rfl, t, rfl⟩ F₁ N₁
    clear F N
    have hl := hq.length
    have hl' := hx.length
    k_steps
    rw [hl, hl', List.take_length]
    unfold leads
    congr 1
    rw [Bool.eq_iff_iff]
    simp [Int.ofNat_inj]
end
section
open PySem PySem.W PySem.Calls PySem.Spec PyProof.Rows Builtin Builtin.ObjectAttr
set_option maxRecDepth 100000
set_option linter.unusedVariables false
abbrev bmF : List Value := [.ref 47, .type "Exception", .type "BaseException", .type "object"]
abbrev faultO (d : Option Addr) (t : Addr) : Obj := { cls := .ref 60, dict := d, data := .fields #[.ref t, .none, .none, .none, .bool false, .none] }
section
variable {w : World} {A : Around} {E : Value → Shared → Prop} {h : Heap} {g : Array GenState} {d : Drawn} {t : Nat} {os : OsState} {R : Result → Shared → Prop}
theorem cls60 (X : (hd.heap_39 w.params).In h) : ∃ nm q N bs sn sub ab col dd k0 k1 k2 k3 k5, h.get? 60 = some (excClassObj nm q 60 N bs bmF true sn sub ab col dd k0 k1 k2 k3 k5 "Exception.__new__") :=
  ⟨_, _, _, _, _, _, _, _, _, _, _, _, _, _, X 60 _ (by k_is)⟩
theorem new_fault {rest : List Value} (X : (hd.heap_39 w.params).In h) (hrest : rest.length ≤ sizeLine)
    (hq : R (.ok (.ret (.ref (h.objs.size + 1)))) ⟨(h.push { cls := .type "tuple", data := .seq rest.toArray }).push (faultO none h.objs.size), g, d, t, os⟩) :
    codeAny (model PG w) A (.builtin "Exception.__new__" ⟨.ref 60 :: rest, []⟩) R ⟨h, g, d, t, os⟩ := by
  have F := PySem.F.excBase_Exception
  obtain ⟨nm, q, N, bs, sn, sub, ab, col, dd, k0, k1, k2, k3, k5, hC⟩ := cls60 X
  have hends := F.ends
  have hcB : (Value.ref 60 :: bmF).contains (.type "Exception") = true := by decide +kernel
  have hcA : (Value.ref 60 :: bmF).contains (.type "AttributeError") = false := by decide +kernel
  have hcN : (Value.ref 60 :: bmF).contains (.type "NameError") = false := by decide +kernel
  refine codeAny_builtinAt F.entry ?_
  unfold Builtin.«BaseException.__new__»
  refine PySem.wpAt_bind ?_
  show PySem.wpAt _ _ _ (stack >>= _) _ _ _
  refine PySem.wpAt_bind (PySem.wpAt_stack fun p below => PySem.wpAt_of_wpAny ?_)
  wp_walk
  refine PySem.wpAt_of_wpAny ?_
  rw [F.owner]
  repeat (first | with_reducible refine wpAny_madeHere_exc F.canon hC ?_ | with_reducible refine wpAny_loadPart_at hC ?_ | (with_reducible refine wpAny_isSubtype_exc hC ?_; first | rw [hcB] | rw [hcA] | rw [hcN]) | wp_step)
  show R _ _
  rw [Heap.size_push]
  exact hq
theorem check_new_fault {rest : List Value} {Q : Unit → Shared → Prop} (X : (hd.heap_39 w.params).In h) (hq : Q () ⟨h, g, d, t, os⟩) :
    wpAny (model PG w) A (checkBuiltinCall "Exception.__new__" ⟨.ref 60 :: rest, []⟩) Q E ⟨h, g, d, t, os⟩ := by
  have F := PySem.F.excBase_Exception
  obtain ⟨nm, q, N, bs, sn, sub, ab, col, dd, k0, k1, k2, k3, k5, hC⟩ := cls60 X
  have hcont : (Value.ref 60 :: bmF).contains (.type "Exception") = true := by decide +kernel
  have hstar := F.noStar
  simp only [checkBuiltinCall, F.newKind, F.newSplit, F.newRow]
  repeat (first | refine wpAny_loadPart_at hC ?_ | (refine wpAny_isSubtype_exc hC ?_; rw [hcont]) | refine wpAny_staticBase_exc hC ?_ | refine wpAny_madeBy_exc hC ?_ | simp only [bne_self_eq_false, Bool.false_eq_true, if_false] | wp_step)
  exact hq
theorem call_fault {v : Value} {Q : Value → Shared → Prop} (X : (hd.heap_39 w.params).In h)
    (hq : ∀ h' e t', h.StaysIn h' → h.get? e = none → h'.get? e = some (faultO none t') → h.get? t' = none → (∃ n, h'.get? t' = some { cls := .type "tuple", data := .seq #[v] n }) →
      codeAny (model PG w) (A.under (.builtin "type.__call__" ⟨[.ref 60, v], []⟩)) (.call (.ref 37) ⟨[.ref e, v], []⟩) (fun r s' => match r with | .ok (.ret x) => x = .none ∧ Q (.ref e) s' | .ok _ => False | .error e => E e s') ⟨h', g, d, t, os⟩) :
    wpAny (model PG w) A (call (.ref 60) [v]) Q E ⟨h, g, d, t, os⟩ := by
  have f1 := tc_lookup
  have f2 := tc_bind (.ref 60)
  obtain ⟨nm, q, N, bs, sn, sub, ab, col, dd, k0, k1, k2, k3, k5, hC⟩ := cls60 X
  have hT : (⟨h, g, d, t, os⟩ : Shared).TypeIs (.ref 60) "type" := ⟨_, hC, rfl⟩
  refine wpAny_call (codeAny_of_tree ?_)
  show wpAny _ _ (callAny (.ref 60) _) _ _ _
  repeat (any_goals (first | assumption | with_reducible refine wpAny_loadPart_at hC ?_ | wp_step))
  refine ⟨rfl, ?_⟩
  refine codeAny_call_builtin_at (Code.quiet_builtin _ (by decide +kernel)) entry_typeCall (wpAny_check_type_call_sub hC ?_)
  repeat (first | with_reducible refine wpAny_loadPart_at hC ?_ | with_reducible refine wpAny_madeBy_exc hC ?_ | wp_step)
  refine codeAny_call_builtin_code (Code.quiet_builtin _ PySem.F.excBase_Exception.quiet) (check_new_fault X ?_)
  refine new_fault X (by rw [sizeLine_eq]; exact Nat.le_of_ble_eq_true rfl) ?_
  show wpAny _ _ _ _ _ _
  have hC₁ := Heap.get?_push_of_some (faultO none h.objs.size) (Heap.get?_push_of_some { cls := .type "tuple", data := .seq [v].toArray } hC)
  have st : h.StaysIn ((h.push { cls := .type "tuple", data := .seq [v].toArray }).push (faultO none h.objs.size)) := fun b o e => Heap.get?_push_of_some _ (Heap.get?_push_of_some _ e)
  have X₁ : (hd.heap_39 w.params).In ((h.push { cls := .type "tuple", data := .seq [v].toArray }).push (faultO none h.objs.size)) := X.keeps st
  have hget : ((h.push { cls := .type "tuple", data := .seq [v].toArray }).push (faultO none h.objs.size)).get? (h.objs.size + 1) = some (faultO none h.objs.size) := by heap_get
  have hcC : (Value.ref 60 :: bmF).contains (.ref 60) = true := by decide +kernel
  unfold isInstance
  repeat (first | with_reducible refine wpAny_loadPart_at hget ?_ | (refine wpAny_isSubtype_exc hC₁ ?_; rw [hcC]) | wp_step)
  show wpAny _ _ (typeLookup (.ref 60) _) _ _ _
  refine Looks.at (looks_findIn X₁ (r := some (.ref 37)) (by k_is)) ?_
  refine wpAny_holding (wpAny_bind ?_)
  refine Looks.at (bind_fn X₁ _ (by k_is)) ?_
  refine wpAny_bind (wpAny_call (codeAny_mono (hq _ (h.objs.size + 1) h.objs.size st (Heap.get?_none_of_le (Nat.le_succ _)) hget (Heap.get?_none_of_le (Nat.le_refl _)) ⟨0, Heap.get?_push_of_some _ (Heap.get?_push_at rfl rfl)⟩) ?_))
  intro r s' hr
  rcases r with e | (x | _ | _ | _) <;> first | exact hr | exact hr.elim | skip
  obtain ⟨rfl, hr⟩ := hr
  wp_walk
  exact hr
end
end
section
open PySem PySem.W PySem.Calls PySem.Spec PyProof.Rows Builtin Builtin.ObjectAttr
set_option maxRecDepth 100000
set_option linter.unusedVariables false
section
variable {w : World} {A : Around} {E : Value → Shared → Prop} {h : Heap} {g : Array GenState} {d : Drawn} {t : Nat} {os : OsState} {R : Result → Shared → Prop} {e : Addr} {name : Str} {v : Value} {mA : Str → Option Value}
theorem store_fault {Q : Unit → Shared → Prop} {ns : List Str} (X : (hd.heap_39 w.params).In h) (hL : findIn (hd.heap_39 w.params) (.ref 60) name = some none) (I : h.Inst e 60 mA)
    (hq : ∀ h' tk', h'.Inst e 60 (fun y => if y = name then some v else mA y) →
      (∀ b o, b ≠ e → (∀ o₀ dx, h.get? e = some o₀ → o₀.dict = some dx → b ≠ dx) → h.get? b = some o → h'.get? b = some o) →
      (∀ o₀, h.get? e = some o₀ → ∃ o₁ d', h'.get? e = some o₁ ∧ o₁ = { o₀ with dict := some d' } ∧ ((o₀.dict = none ∧ h.get? d' = none) ∨ o₀.dict = some d')) → Q () ⟨h', g, d, tk', os⟩)
    (hw : Within mA ns) (hsz : ns.length ≤ sizeLine := by size_fits) :
    wpAny (model PG w) A (setAttr (.ref e) name v) Q E ⟨h, g, d, t, os⟩ := by
  have SF := PySem.F.store_Exception
  obtain ⟨nm, q, N, bs, sn, sub', ab, col, dd, k0, k1, k2, k3, k5, hC⟩ := cls60 X
  obtain ⟨o, hx, hc, hnc, hd⟩ := id I
  have f3 := SF.slot.bind (.ref e)
  have L1 := looks_findIn (M := model PG w) X (t := .ref 60) (name := Str.ofString "__setattr__") (r := some (.builtin "object.__setattr__")) (by k_is)
  have L2 := looks_findIn (M := model PG w) X hL
  have T1 : Looks (model PG w) h (typeOf (.ref e)) (.ref 60) := hc ▸ (Looks.ld hx).andThen .now
  have sub : Looks (model PG w) h (isInstance (.ref e) (.type "object")) true := T1.andThen (looks_mroIn X (by k_is))
  have hm : Looks (model PG w) h (mroOf (.ref 60)) (.ref 60 :: bmF) := ((Looks.ld (part := none) hC).andThen .now).andThen .now
  have hpass : refuseLoop (.ref e) "__setattr__" (.ref 60 :: bmF) = pure () := by
    rw [refuseLoop_ref, refuseLoop_ref]; exact SF.passes (.ref e)
  unfold setAttr callSpecial? specialOf
  repeat (any_goals (first | assumption | (with_reducible refine wpAny_loadPart_at hx ?_; rw [hc]) | (with_reducible refine Looks.at L1 ?_) | wp_step))
  refine codeAny_call_builtin SF.slot.plain SF.entry (@check_slot (model PG w) _ _ _ "object.__setattr__" "object" "__setattr__" (.ref e) [.str name t, v] [] _ SF.kind SF.split sub (SF.args (.ref e) (.str name t) v) ?_)
  show wpAny _ _ (Builtin.«object.__setattr__» ⟨[.ref e, .str name t, v], []⟩) _ _ _
  rw [osa_eq, refuse_eq]
  refine wpAny_bind (wpAny_bind (T1.at (wpAny_bind (hm.at ?_))))
  rw [hpass]
  refine wpAny_pure (wpAny_bind (T1.at (wpAny_bind (L2.at (wpAny_bind (wpAny_pure ?_))))))
  dsimp only
  unfold storeInOwnDict
  refine wpAny_bind (wpAny_pure ?_)
  refine wpAny_bind (wpAny_bind (wpAny_loadPart_at hx ?_))
  rw [hc]
  dsimp only
  have hcd : Looks (model PG w) h (classData 60) { name := nm, bases := bs, mro := .ref 60 :: bmF, ns := N, qualname := q, hasDict := true, slotNames := sn, subclasses := sub', abstract := ab, collection := col, hasDel := false } := (Looks.ld (part := none) hC).andThen .now
  refine wpAny_bind (hcd.at ?_)
  rw [if_neg (by simp)]
  rcases hd with ⟨hdn, hmA⟩ | ⟨dx, hdx, hne, hns⟩
  · rw [hdn]
    dsimp only
    rw [if_neg (by simp [typeHasDict])]
    split
    · rename_i c hcd
      exact absurd hcd (hnc c)
    · have hx₁ : (h.push { cls := .type "dict", data := .dict #[] }).get? e = some o := Heap.get?_push_of_some _ hx
      have hxs : e ≠ h.objs.size := Nat.ne_of_lt (Heap.lt_size hx)
      refine wpAny_bind (wpAny_alloc' ?_)
      refine wpAny_bind (wpAny_update' hx₁ ?_)
      refine wpAny_pure ?_
      have hgd : ((h.push { cls := .type "dict", data := .dict #[] }).update e fun o => { cls := o.cls, dict := some h.objs.size, data := o.data, slots := o.slots }).get? h.objs.size
          = some { cls := .type "dict", data := .dict #[] } :=
        (Heap.get?_update_ne _ _ _ _ hxs.symm).trans (Heap.get?_push_at rfl rfl)
      have hnd : ((h.push { cls := .type "dict", data := .dict #[] }).update e fun o => { cls := o.cls, dict := some h.objs.size, data := o.data, slots := o.slots }).Ns h.objs.size (fun _ => none) :=
        ⟨_, #[], _, hgd, rfl, fun e he => absurd he (by simp), fun _ => rfl⟩
      show wpAny _ _ (storeInDict h.objs.size (.str name t) name v) _ _ _
      unfold storeInDict newKeyGuard
      refine wpAny_bind (wpAny_pure (wpAny_bind (wpAny_nsSet1 (Heap.Ns1.of_empty hnd) fun h' hn' hs => ?_)))
      obtain ⟨oD, esD, epD, hoD, hdD, hcD⟩ := hn'.count (Within.cons name v Within.nil)
      refine wpAny_bind (wpAny_lookBehind hoD (by rw [hdD]; exact pastItsLine_dict (Nat.le_trans hcD (by rw [List.length_cons, List.length_nil, sizeLine_eq]; omega))) ?_)
      refine wpAny_pure (wpAny_pure (wpAny_pure ?_))
      have hx' : h'.get? e = some { cls := o.cls, dict := some h.objs.size, data := o.data, slots := o.slots } := ?_
      refine hq h' _ ⟨{ cls := o.cls, dict := some h.objs.size, data := o.data, slots := o.slots }, hx', hc, hnc, .inr ⟨h.objs.size, rfl, hxs.symm, ?_⟩⟩ (fun b ob hbx _ hb => ?_)
        (fun o₀ h₀ => by obtain rfl : o = o₀ := Option.some.inj (hx.symm.trans h₀); exact ⟨_, _, hx', rfl, .inl ⟨hdn, Heap.get?_none_of_le (Nat.le_refl _)⟩⟩)
      · obtain ⟨o', es, ep, e1, e2, e3, eu, e4⟩ := hn'
        exact ⟨o', es, ep, e1, e2, e3, eu, fun y => by rw [e4 y]; by_cases hy : y = name <;> simp [hy, hmA]⟩
      · exact (hs.2 b (Nat.ne_of_lt (Heap.lt_size hb))).trans ((Heap.get?_update_ne _ _ _ _ hbx).trans (Heap.get?_push_of_some _ hb))
      · refine (hs.2 e hxs).trans (Heap.get?_update_self _ hx₁ ?_)
        have hfr := (Heap.get?_some_iff.mp hx).2
        obtain ⟨oc, od, odt, osl⟩ := o
        cases odt <;> first | rfl | exact hfr
  · rw [hdx]
    refine wpAny_pure ?_
    show wpAny _ _ (storeInDict dx (.str name t) name v) _ _ _
    unfold storeInDict newKeyGuard
    refine wpAny_bind (wpAny_pure (wpAny_bind (wpAny_nsSet1 hns fun h' hn' hs => ?_)))
    obtain ⟨oD, esD, epD, hoD, hdD, hcD⟩ := hn'.count (Within.cons name v hw)
    refine wpAny_bind (wpAny_lookBehind hoD (by rw [hdD]; exact pastItsLine_dict (Nat.le_trans hcD (by rw [List.length_cons]; omega))) ?_)
    refine wpAny_pure (wpAny_pure (wpAny_pure ?_))
    refine hq h' _ ⟨o, (hs.2 e hne.symm).trans hx, hc, hnc, .inr ⟨dx, hdx, hne, hn'⟩⟩ (fun b ob _ hbd hb => ?_)
      (fun o₀ h₀ => by
        obtain rfl : o = o₀ := Option.some.inj (hx.symm.trans h₀)
        exact ⟨o, dx, (hs.2 e hne.symm).trans h₀, by rw [← hdx], .inr hdx⟩)
    exact (hs.2 b (hbd o dx hx hdx)).trans hb
theorem init_builtin {t' : Addr} {Q : Value → Shared → Prop} (X : (hd.heap_39 w.params).In h) (he : h.get? e = some (faultO none t'))
    (hq : ∀ h' t'', AllBut [e] h h' → h'.get? e = some (faultO none t'') → Q .none ⟨h', g, d, t, os⟩) : wpAny (model PG w) A (call (.builtin "Exception.__init__") [.ref e, v]) Q E ⟨h, g, d, t, os⟩ := by
  have F := PySem.F.excBase_Exception
  obtain ⟨nm, q, N, bs, sn, sub, ab, col, dd, k0, k1, k2, k3, k5, hC⟩ := cls60 X
  have hcB : (Value.ref 60 :: bmF).contains (.type "Exception") = true := by decide +kernel
  have hshort := F.noStar
  refine wpAny_call (codeAny_call_builtin F.init.plain F.initEntry ?_)
  have hchk : wpAny (model PG w) A.in1 (checkBuiltinCall "Exception.__init__" ⟨[.ref e, v], []⟩) (fun _ s' => s' = ⟨h, g, d, t, os⟩) (fun _ _ => False) ⟨h, g, d, t, os⟩ := by
    simp only [checkBuiltinCall, F.initKind, F.initSplit, F.initRow]
    repeat (first | with_reducible refine wpAny_loadPart_at he ?_ | with_reducible refine wpAny_loadPart_at hC ?_ | (refine wpAny_isSubtype_exc hC ?_; rw [hcB]) | wp_step)
    rfl
  refine wpAny_mono hchk (fun _ s' e' => ?_) fun _ _ q => q.elim
  subst e'
  wp_walk
  refine hq _ h.objs.size (fun b o hb he' => ?_) ?_
  · rw [Heap.get?_update_ne _ _ _ _ (fun q => hb (by rw [q]; simp))]
    exact Heap.get?_push_of_some _ he'
  · exact Heap.get?_update_self _ (Heap.get?_push_of_some _ he) rfl
end
end
section
local macro_rules | `(tactic| walk_at "zz") => `(tactic| skip)
open PySem PySem.W PySem.Calls PySem.Spec PyProof.Rows Builtin Builtin.ObjectAttr
set_option maxRecDepth 100000
set_option linter.unusedVariables false
section
variable {w : World} {A A₀ : Around} {E : Value → Shared → Prop} {s : Shared} {base h₀ : Heap} {outer : List Env} {L : Addr} {m : Str → Option Value} {env : Env}
  {mean : ExcName → Option Value} {mg mb : Str → Option Value} {R : Result → Shared → Prop}
set_option maxHeartbeats 800000 in
theorem init_fault (B : Below A₀ base outer h₀) (F : Fr h₀ L s.heap m) (X : (hd.heap_39 w.params).In h₀) (T : Top PV LS mean mg mb h₀) (hA : A.frames = some (env :: outer)) (hf : env.frame = some L) (hke : env.scope.kind = .function)
    (hroom : A.depth < recursionLimit) {e t' : Addr} {x : Str} {tx : Tok} (he : s.heap.get? e = some (faultO none t')) (heL : e ≠ L) (he₀ : h₀.get? e = none)
    (hq : ∀ h' tk' d' t'', AllBut [e] s.heap h' → h'.get? e = some (faultO (some d') t'') → R (.ok (.ret .none)) { s with heap := h', toks := tk' }) :
    codeAny (model PG w) A (.call (.ref 37) ⟨[.ref e, .str x tx], []⟩) R s := by
  w_top off
  have N : News h₀ L s.heap [(e, faultO none t')] := fun p hp => by
    rw [List.mem_singleton.mp hp]; exact ⟨he, heL, he₀⟩
  refine enter_def B F X N T hA hf hke (by k_is) (by k_is) hroom (binds := [(Str.ofString "self", .ref e), (Str.ofString "what", .str x tx), (Str.ofString "at", .ref 29)]) (by exact binds_K (X.keeps F.keep) rfl (by k_is) rfl rfl rfl) (by exact locs rfl) ?_ (by exact rfl) (by exact rfl) (by exact rfl) (by decide)
  intro g L' h₁ ab gs st FG F' N' B' X' T' l1
  refine wpAny_mono (E := fun _ _ => False) ?_ (fun _ _ q => q) (fun _ _ q => q.elim)
  k_fold
  k_steps
  refine method_type F' X' (by kernel_rfl) (by decide +kernel) (by k_is) (by k_handed) ?_
  k_steps
  have hge : g.get? e = none := (N' _ (List.mem_singleton.mpr rfl)).2.2
  have heL' : e ≠ L' := (N' _ (List.mem_singleton.mpr rfl)).2.1
  refine init_builtin (X'.keeps F'.keep) (N'.get (List.mem_singleton.mpr rfl)) fun h₂ t₂ k₂ e₂ => ?_
  have keep₂ : ∀ b o, g.get? b = some o → h₂.get? b = some o := fun b o q => k₂ b o (by rintro hb; rw [List.mem_singleton.mp hb, hge] at q; cases q) (F'.keep b o q)
  have F₂ : Fr g L' h₂ _ := ⟨F'.ns.at' fun o q => k₂ L' o (by simpa using heL'.symm) q, keep₂, F'.above⟩
  have N₂ : News g L' h₂ [] := N0
  clear N'
  k_steps
  refine store_fault (mA := fun _ => none) (ns := []) (X'.keeps F₂.keep) (by k_is) ⟨faultO none t₂, e₂, rfl, (fun _ q => by cases q), .inl ⟨rfl, fun _ => rfl⟩⟩ (fun h₃ tk₃ I₃ k₃ o₃ => ?_) ?_
  · obtain ⟨o₁, d', e₃, rfl, hd'⟩ := o₃ _ e₂
    have hd' : h₂.get? d' = none := by
      rcases hd' with ⟨_, q⟩ | q
      · exact q
      · cases q
    have hgd : g.get? d' = none := by
      cases q : g.get? d' with
      | none => rfl
      | some o => rw [F₂.keep _ _ q] at hd'; cases hd'
    have hdL : d' ≠ L' := by
      rintro rfl
      obtain ⟨o, _, _, q, _⟩ := F₂.ns
      rw [hd'] at q; cases q
    have k₃' : ∀ b o, b ≠ e → h₂.get? b = some o → h₃.get? b = some o := fun b o hb q => k₃ b o hb (fun o₀ dx q₁ q₂ => by rw [e₂] at q₁; cases q₁; cases q₂) q
    have F₃ : Fr g L' h₃ _ := ⟨F₂.ns.at' fun o q => k₃' L' o heL'.symm q, fun b o q => k₃' b o (by rintro rfl; rw [hge] at q; cases q) (F₂.keep b o q), F₂.above⟩
    have N₃ : News g L' h₃ [] := N0
    clear F₂ N₂ F' keep₂
    k_steps
    refine store_fault (ns := [Str.ofString "what"]) (X'.keeps F₃.keep) (by k_is) I₃ (fun h₄ tk₄ I₄ k₄ o₄ => ?_) ?_
    · obtain ⟨o₁, d₄, e₄, rfl, hd₄⟩ := o₄ _ e₃
      have hd₄ : d₄ = d' := by
        rcases hd₄ with ⟨q, _⟩ | q
        · cases q
        · cases q; rfl
      subst hd₄
      have k₄' : ∀ b o, b ≠ e → b ≠ d₄ → h₃.get? b = some o → h₄.get? b = some o := fun b o hb hb' q => k₄ b o hb (fun o₀ dx q₁ q₂ => by rw [e₃] at q₁; cases q₁; cases q₂; exact hb') q
      have F₄ : Fr g L' h₄ _ := ⟨F₃.ns.at' fun o q => k₄' L' o heL'.symm hdL.symm q, fun b o q => k₄' b o (by rintro rfl; rw [hge] at q; cases q) (by rintro rfl; rw [hgd] at q; cases q) (F₃.keep b o q), F₃.above⟩
      have N₄ : News g L' h₄ [] := N0
      clear F₃ N₃
      refine wpAny_execs_nil ?_
      refine ⟨L', _, [], F₄, N₄, fun _ _ => hq _ _ _ _ (fun b o hb q => F₄.keep b o (ab b o hb q)) e₄⟩
    · within_ways
  · exact Within.nil
end
end
section
open PySem PySem.W PySem.Calls PySem.Spec PyProof.Rows
set_option maxRecDepth 100000
set_option linter.unusedVariables false
abbrev placesOf (l : List Env) : List Addr := l.filterMap (·.frame)
structure Flies (g : Heap) (l : List Env) (e : Addr) (h : Heap) : Prop where
  fly : ∃ a0, Heap.FlyingW (hideAll g (placesOf l)) l e (.ref 60) a0 h
  slots : g.UpToSlots h
def Rx (w : World) (mean : ExcName → Option Value) (mg mb : Str → Option Value) (n : Nat) (f : Addr) (vs : List Value) (pre : Heap → Prop) (post : Heap → Value → Heap → Prop) (exc : Heap → Prop) : Prop :=
  ∀ (dp un : Nat) (gd : Option (List Code)) (cn : Str) (cs : Scope) (a : Addr) (ccd : Value) (cl : List (Str × Addr)) (outer : List Env) (A₀ : Around) (base h₀ : Heap) (L : Addr) (m : Str → Option Value) (s : Shared) (Q E : Value → Shared → Prop),
    Below A₀ base outer h₀ → Fr h₀ L s.heap m → (hd.heap_39 w.params).In h₀ → Top PV LS mean mg mb h₀ → cs.kind = .function → dp + 10 * n ≤ 900 → un + 100 * n ≤ 9000 → pre s.heap →
    (∀ v h' tk', s.heap.StaysIn h' → post s.heap v h' → Q v { s with heap := h', toks := tk' }) →
    (∀ e h' tk', exc s.heap → Flies s.heap (envX cn cs L a ccd cl :: outer) e h' → E (.ref e) { s with heap := h', toks := tk' }) →
    wpAny (model PG w) (ktrTop dp un gd cn cs L a ccd cl outer) (call (.ref f) vs) Q E s
def RaisesR (g : Heap) (L : Addr) (exc : Prop) (s₁ : Shared) (x : Value) (s' : Shared) : Prop :=
  ∃ e d t h' tk' m', x = .ref e ∧ s' = { s₁ with heap := h', toks := tk' } ∧ exc ∧ Fr g L h' m' ∧ h'.get? e = some (faultO d t) ∧ g.get? e = none
def PassesR (g : Heap) (L : Addr) (l : List Env) (exc : Prop) (s₁ : Shared) (x : Value) (s' : Shared) : Prop :=
  ∃ e G h' tk' m', x = .ref e ∧ s' = { s₁ with heap := h', toks := tk' } ∧ exc ∧ Fr g L G m' ∧ Flies G l e h'
section
variable {w : World} {mean : ExcName → Option Value} {mg mb : Str → Option Value} {n : Nat} {f : Addr} {vs : List Value} {pre : Heap → Prop} {post : Heap → Value → Heap → Prop} {exc : Heap → Prop}
  {name qual : Str} {params : Arguments} {body : List Stmt} {scope : Scope} {dV kV doc pm cdv ct oc : Value} {an od : Option Addr} {osl : Array (Option Value)} {binds : List (Str × Value)}
theorem stays_hide {g G : Heap} {as bs : List Addr} (k : g.StaysIn G) (h : ∀ b o, g.get? b = some o → b ∉ as → b ∉ bs) : (hideAll g as).StaysIn (hideAll G bs) := fun b o e => by
  have e' := of_hideAll as e
  have nm : b ∉ as := fun q => by rw [hideAll_none as q] at e; cases e
  exact hideAll_get bs (k b o e') (h b o e' nm)
theorem Rx.enterRaise
    (h : ∀ (dp un : Nat) (gd : Option (List Code)) (outer : List Env) (A₀ : Around) (base : Heap) (L' : Addr) (g : Heap) (s₁ : Shared), Below A₀ base outer g → Fr g L' s₁.heap (fun y => binds.reverse.lookup y) → News g L' s₁.heap [] → (hd.heap_39 w.params).In g → Top PV LS mean mg mb g →
      dp + 10 * n ≤ 901 → un + 100 * n ≤ 9003 → pre g →
      wpAny (model PG w) (ktrTop dp un gd qual scope L' f cdv [] outer) (execs body (envOf qual scope L' f cdv)) (fun fl s' => EndR g L' (post g) s₁ (match fl with | .ret v => v | _ => .none) s') (RaisesR g L' (exc g) s₁) s₁)
    (ho : (hd.heap_39 w.params).lookup f = some ⟨oc, od, .func (fnOf name qual params body scope dV kV doc pm an cdv ct), osl⟩ := by k_is) (hcd : codeIn (hd.heap_39 w.params) cdv qual = true := by k_is)
    (hbind : ∀ s, BindsTo s (fnOf name qual params body scope dV kV doc pm an cdv ct) ⟨vs, []⟩ binds := by (intro _; exact BindsTo.of_eq rfl)) (hloc : ∀ y ∈ binds, scope.names.lookup y.1 = some .local := by exact locs rfl)
    (hco : scope.isCoroutine = false := by exact rfl) (hgen : scope.isGenerator = false := by exact rfl) (hk : scope.kind = .function := by exact rfl) (hcell : ∀ x ∈ scope.names, x.2 ≠ .cell := by decide)
    (hn : 1 ≤ n := by decide) : Rx w mean mg mb n f vs pre post exc := by
  intro dp un gd cn cs a ccd cl outer A₀ base h₀ L m s Q E B F X T hkc hd hu hp hret hexc
  refine wpAny_call ?_
  have hroom : (ktrTop dp un gd cn cs L a ccd cl outer).depth < recursionLimit := by show dp < 1000; omega
  refine codeAny_call_def (fd := fnOf name qual params body scope dV kV doc pm an cdv ct) (body := body) (binds := binds) hroom ((X.keeps F.keep) _ _ ho) rfl (T.nolimit.keeps F.keep) (codeRec_of (X.keeps F.keep) hcd) rfl (hbind s) hcell hloc (fun h₁ hns hk₁ => ?_) hco hgen hk
  have B' := pushX (env := envX cn cs L a ccd cl) B F rfl hkc
  refine wpAny_mono (h (dp + 1) (un + 3) gd (envX cn cs L a ccd cl :: outer) _ base s.heap.objs.size s.heap { s with heap := h₁, toks := s.toks + binds.length } B' ⟨hns, hk₁, Nat.le_refl _⟩ N0 (X.keeps F.keep) (T.keeps F.keep) (by omega) (by omega) hp) (fun fl s' hl => ?_) fun x s' hx => ?_
  · obtain ⟨h', tk', m', rfl, F', hq⟩ := hl
    exact hret _ h' tk' (fun b o e => F'.keep b o e) hq
  · obtain ⟨e, d, t, h', tk', m', rfl, rfl, hx, F', he, hge⟩ := hx
    have hLs : s.heap.get? s.heap.objs.size = none := Heap.get?_none_of_le (Nat.le_refl _)
    have hfr : (s.heap).FunFrames base (envX cn cs L a ccd cl :: outer) := B'.frames
    have hfr' : h'.FunFrames (hideAll s.heap (placesOf (envX cn cs L a ccd cl :: outer))) (envX qual scope s.heap.objs.size f cdv [] :: envX cn cs L a ccd cl :: outer) := by
      refine .cons (by rw [hk]; decide) rfl F'.ns ?_ ?_
      · cases q : (hideAll s.heap (placesOf (envX cn cs L a ccd cl :: outer))).get? s.heap.objs.size with
        | none => rfl
        | some o => have := of_hideAll _ q; rw [hLs] at this; cases this
      · exact (funFrames_hide hfr fun env he b hb => List.mem_filterMap.mpr ⟨env, he, hb⟩).of_keeps fun b o q _ => ⟨o, F'.keep b o q, rfl⟩
    refine wpAny_leaving_firstW (a0 := .ref t) (base := hideAll s.heap (placesOf (envX cn cs L a ccd cl :: outer))) (by exact rfl) hfr' rfl he (fun b o q => F'.keep b o (of_hideAll _ q)) ?_ rfl rfl rfl fun h'' hL => ?_
    · cases q : (hideAll s.heap (placesOf (envX cn cs L a ccd cl :: outer))).get? e with
      | none => rfl
      | some o => have := of_hideAll _ q; rw [hge] at this; cases this
    · obtain ⟨k1, ⟨_, _, k2⟩, k3, k4⟩ := hL
      refine hexc e h'' tk' hx ⟨⟨.ref t, k1, ?_, k2, k3⟩, (Heap.UpToSlots.of_keeps F'.keep).trans k4⟩
      cases q : (hideAll s.heap (placesOf (envX cn cs L a ccd cl :: outer))).get? e with
      | none => rfl
      | some o => have := of_hideAll _ q; rw [hge] at this; cases this
theorem passes_leave {dp un : Nat} {gd : Option (List Code)} {cn : Str} {cs : Scope} {a : Addr} {ccd : Value} {cl : List (Str × Addr)} {outer : List Env} {L L' : Addr} {s : Shared} {h₁ : Heap} {tk₁ : Nat} {E : Value → Shared → Prop} {cl' : List (Str × Addr)} {x : Value} {s' : Shared}
    (hL' : s.heap.get? L' = none)
    (hexc : ∀ e h' tk', exc s.heap → Flies s.heap (envX cn cs L a ccd cl :: outer) e h' → E (.ref e) { s with heap := h', toks := tk' })
    (hx : PassesR s.heap L' (envX qual scope L' f cdv cl' :: envX cn cs L a ccd cl :: outer) (exc s.heap) { s with heap := h₁, toks := tk₁ } x s') :
    wpAny (model PG w) ((ktrTop dp un gd cn cs L a ccd cl outer).deeper (envX qual scope L' f cdv cl')) (leaving (envX qual scope L' f cdv cl') x) (fun _ s'' => E x s'') (fun e' s'' => E e' s'') s' := by
  obtain ⟨e, G, h', tk', m', rfl, rfl, hx, F', ⟨a0, hfl⟩, hsl⟩ := hx
  refine wpAny_leaves_onW (env := envX qual scope L' f cdv cl') (outer := envX cn cs L a ccd cl :: outer) rfl rfl hfl fun h'' hfl' hsl' => ?_
  refine hexc e h'' tk' hx ⟨⟨a0, flyingW_base (stays_hide F'.keep fun b o e nm hm => ?_) hfl'⟩, (Heap.UpToSlots.of_keeps F'.keep).trans (hsl.trans hsl')⟩
  rcases List.mem_cons.mp (show b ∈ L' :: placesOf (envX cn cs L a ccd cl :: outer) from hm) with z | z
  · rw [z, hL'] at e; cases e
  · exact nm z
theorem Rx.enterPass
    (h : ∀ (dp un : Nat) (gd : Option (List Code)) (outer : List Env) (A₀ : Around) (base : Heap) (L' : Addr) (g : Heap) (s₁ : Shared), Below A₀ base outer g → Fr g L' s₁.heap (fun y => binds.reverse.lookup y) → News g L' s₁.heap [] → (hd.heap_39 w.params).In g → Top PV LS mean mg mb g →
      dp + 10 * n ≤ 901 → un + 100 * n ≤ 9003 → pre g →
      wpAny (model PG w) (ktrTop dp un gd qual scope L' f cdv [] outer) (execs body (envOf qual scope L' f cdv)) (fun fl s' => EndR g L' (post g) s₁ (match fl with | .ret v => v | _ => .none) s') (PassesR g L' (envOf qual scope L' f cdv :: outer) (exc g) s₁) s₁)
    (ho : (hd.heap_39 w.params).lookup f = some ⟨oc, od, .func (fnOf name qual params body scope dV kV doc pm an cdv ct), osl⟩ := by k_is) (hcd : codeIn (hd.heap_39 w.params) cdv qual = true := by k_is)
    (hbind : ∀ s, BindsTo s (fnOf name qual params body scope dV kV doc pm an cdv ct) ⟨vs, []⟩ binds := by (intro _; exact BindsTo.of_eq rfl)) (hloc : ∀ y ∈ binds, scope.names.lookup y.1 = some .local := by exact locs rfl)
    (hco : scope.isCoroutine = false := by exact rfl) (hgen : scope.isGenerator = false := by exact rfl) (hk : scope.kind = .function := by exact rfl) (hcell : ∀ x ∈ scope.names, x.2 ≠ .cell := by decide)
    (hn : 1 ≤ n := by decide) : Rx w mean mg mb n f vs pre post exc := by
  intro dp un gd cn cs a ccd cl outer A₀ base h₀ L m s Q E B F X T hkc hd hu hp hret hexc
  refine wpAny_call ?_
  have hroom : (ktrTop dp un gd cn cs L a ccd cl outer).depth < recursionLimit := by show dp < 1000; omega
  refine codeAny_call_def (fd := fnOf name qual params body scope dV kV doc pm an cdv ct) (body := body) (binds := binds) hroom ((X.keeps F.keep) _ _ ho) rfl (T.nolimit.keeps F.keep) (codeRec_of (X.keeps F.keep) hcd) rfl (hbind s) hcell hloc (fun h₁ hns hk₁ => ?_) hco hgen hk
  have B' := pushX (env := envX cn cs L a ccd cl) B F rfl hkc
  refine wpAny_mono (h (dp + 1) (un + 3) gd (envX cn cs L a ccd cl :: outer) _ base s.heap.objs.size s.heap { s with heap := h₁, toks := s.toks + binds.length } B' ⟨hns, hk₁, Nat.le_refl _⟩ N0 (X.keeps F.keep) (T.keeps F.keep) (by omega) (by omega) hp) (fun fl s' hl => ?_) fun x s' hx => ?_
  · obtain ⟨h', tk', m', rfl, F', hq⟩ := hl
    exact hret _ h' tk' (fun b o e => F'.keep b o e) hq
  · exact passes_leave (Heap.get?_none_of_le (Nat.le_refl _)) hexc hx
end
end
section
open PySem PySem.W PySem.Calls PySem.Spec PyProof.Rows
set_option maxRecDepth 100000
set_option linter.unusedVariables false
section
variable {w : World} {A A₀ : Around} {E : Value → Shared → Prop} {s : Shared} {base h₀ : Heap} {outer : List Env} {L : Addr} {m : Str → Option Value} {env : Env}
  {mean : ExcName → Option Value} {mg mb : Str → Option Value} {news : List (Addr × Obj)}
theorem call_faultK {dp un : Nat} {gd : Option (List Code)} {cn : Str} {cs : Scope} {a : Addr} {ccd : Value} {cl : List (Str × Addr)} {x : Str} {tx : Tok} {Q : Value → Shared → Prop}
    (B : Below A₀ base outer h₀) (F : Fr h₀ L s.heap m) (X : (hd.heap_39 w.params).In h₀) (N : News h₀ L s.heap news) (T : Top PV LS mean mg mb h₀) (hk : cs.kind = .function) (hd : dp ≤ 900)
    (h : ∀ e d' t' h' tk', Fr h₀ L h' m → News h₀ L h' news → h'.get? e = some (faultO (some d') t') → h₀.get? e = none → Q (.ref e) { s with heap := h', toks := tk' }) :
    wpAny (model PG w) (ktrTop dp un gd cn cs L a ccd cl outer) (call (.ref 60) [.str x tx]) Q E s := by
  obtain ⟨hp, g, d, t, os⟩ := s
  refine call_fault (X.keeps F.keep) fun h₁ e t' st hne he hnt _ => ?_
  have hge : h₀.get? e = none := by
    cases q : h₀.get? e with
    | none => rfl
    | some o => rw [F.keep _ _ q] at hne; cases hne
  have heL : e ≠ L := by
    rintro rfl
    obtain ⟨o, _, _, q, _⟩ := F.ns
    rw [hne] at q; cases q
  refine init_fault (s := ⟨h₁, g, d, t, os⟩) (env := envX cn cs L a ccd cl) B (F.keeps st) X T (by exact rfl) rfl hk (by simp only [depth_under_make]; show dp + 1 < 1000; omega) he heL hge fun h₂ tk₂ d' t'' ab e₂ => ?_
  have k₂ : ∀ b o, b ≠ e → h₁.get? b = some o → h₂.get? b = some o := fun b o hb q => ab b o (by simpa using hb) q
  refine ⟨rfl, h e d' t'' h₂ tk₂ ⟨F.ns.at' fun o q => k₂ L o heL.symm (st _ _ q), fun b o q => k₂ b o (by rintro rfl; rw [hge] at q; cases q) (st _ _ (F.keep b o q)), F.above⟩ (fun p hp => ⟨k₂ _ _ (by rintro rfl; have := (N p hp).1; rw [hne] at this; cases this) (st _ _ (N p hp).1), (N p hp).2⟩) e₂ hge⟩
theorem Raise_any {x : Expr} {pos : Pos} {Q : Flow → Shared → Prop} (hh : A.handled = none)
    (h : wpAny (model PG w) A (eval x env) (fun v s₁ => ∃ e d t, v = .ref e ∧ (hd.heap_39 w.params).In s₁.heap ∧ s₁.heap.get? e = some (faultO d t) ∧ E (.ref e) s₁) E s) :
    wpAny (model PG w) A (exec (.Raise (some x) none pos) env) Q E s := by
  have hcB : (Value.ref 60 :: bmF).contains (.type "BaseException") = true := by decide +kernel
  have key : ∀ y : Sem Value, wpAny (model PG w) A y (fun v s₁ => ∃ e d t, v = .ref e ∧ (hd.heap_39 w.params).In s₁.heap ∧ s₁.heap.get? e = some (faultO d t) ∧ E (.ref e) s₁) E s → wpAny (model PG w) A (raiseStmt env (some y) none) Q E s := by
    intro y hy
    unfold raiseStmt
    refine wpAny_bind (wpAny_mono hy (fun v s₁ h₁ => ?_) fun _ _ x => x)
    obtain ⟨e, d', t', rfl, X, he, hE⟩ := h₁
    obtain ⟨hp, g, d, tk, os⟩ := s₁
    obtain ⟨nm, q, N, bs, sn, sub, ab, col, dd, k0, k1, k2, k3, k5, hC⟩ := cls60 X
    repeat (first | with_reducible refine wpAny_loadPart_at he ?_ | with_reducible refine wpAny_loadPart_at hC ?_ | (with_reducible refine wpAny_isSubtype_exc hC ?_; rw [hcB]) | wp_step)
    exact wpAny_raiseNew_none hh hE
  rw [arm_exec_Raise]
  first
    | exact wpAny_bind (wpAny_standAt (key _ (wpAny_bind (wpAny_mono h (fun v s₁ h₁ => wpAny_bind (wpAny_standAt (wpAny_pure h₁))) fun _ _ x => x))))
    | (simp only [evalOpt, Option.map]; exact wpAny_bind (wpAny_standAt (key _ (wpAny_bind (wpAny_mono h (fun v s₁ h₁ => wpAny_bind (wpAny_standAt (wpAny_pure h₁))) fun _ _ x => x)))))
    | (show wpAny (model PG w) A (do standAt pos; raiseStmt env (some (do let v ← eval x env; standAt pos; pure v)) none) Q E s; exact wpAny_bind (wpAny_standAt (key _ (wpAny_bind (wpAny_mono h (fun v s₁ h₁ => wpAny_bind (wpAny_standAt (wpAny_pure h₁))) fun _ _ x => x)))))
end
local macro_rules | `(tactic| walk_at "exec Raise some none") => `(tactic| (refine Raise_any (by exact rfl) ?_))
local macro_rules | `(tactic| walk_at "call ref") => `(tactic| (k_here; k_dflt (refine' call_faultK ?k1 ?k2 ?k3 ?k4 ?k5 ?k6 ?k7 ?_; (case k1 => k_asm); (case k2 => k_asm); (case k3 => k_asm); (case k4 => k_asm); (case k5 => k_asm); (case k6 => exact rfl); (case k7 => omega); k_whole; intro e' d' t' h' tk' F' N' he' hg')))
set_option maxHeartbeats 800000 in
theorem only_ok {w : World} {mean : ExcName → Option Value} {mg mb : Str → Option Value} (fa : Addr) (vs : List Value) (x : Str) (tx : Tok) (hx : x.length ≤ 100) :
    Rx w mean mg mb 2 226 [.ref fa, .str x tx] (fun h => LstAt h fa vs) (fun _ v _ => vs = [v]) (fun _ => vs.length ≠ 1) := by
  w_top off
  refine Rx.enterRaise (binds := [(Str.ofString "found", .ref fa), (Str.ofString "name", .str x tx)]) ?_
  rintro dp un gd outer A₀ base L g s₁ B F N X T hd hu hA
  k_fold
  k_steps
  · exact ⟨_, _, _, _, _, _, rfl, rfl, by omega, by assumption, by assumption, by assumption⟩
  · exact ⟨_, _, _, _, _, _, rfl, rfl, by omega, by assumption, by assumption, by assumption⟩
  · obtain ⟨v, rfl⟩ := List.length_eq_one_iff.mp (show vs.length = 1 by omega)
    with_unfolding_all refine item_lstAt (hA.keeps F.keep) (v := v) (by decide) rfl ?_
    k_steps
end
section
open PySem PySem.W PySem.Calls PySem.Spec PyProof.Rows
set_option maxRecDepth 100000
set_option linter.unusedVariables false
abbrev Place := Addr → Obj → Prop
abbrev inHeap (h : Heap) : Place := fun a o => h.get? a = some o
abbrev inLed (nx : List (Addr × Obj)) : Place := fun a o => (a, o) ∈ nx
abbrev lstO (vs : List Value) (n : Nat) : Obj := { cls := .type "list", data := .seq vs.toArray n }
abbrev tupO (vs : List Value) (n : Nat) : Obj := { cls := .type "tuple", data := .seq vs.toArray n }
def refV : Option Addr → Value
  | none => .none
  | some a => .ref a
structure ItemAt (P : Place) (x dx : Addr) (es : List DictEntry) (name : Str) (par : Option Addr) (cl kl : Addr) (off : Int) : Prop where
  inst : P x (instObj 135 dx)
  dict : ∃ n, P dx (dictOf es n)
  name : ∃ t, getL (Str.ofString "name") es = some (some (.str name t))
  par : getL (Str.ofString "parent") es = some (some (refV par))
  cl : getL (Str.ofString "conditions") es = some (some (.ref cl))
  kl : getL (Str.ofString "kids") es = some (some (.ref kl))
  off : ∃ t, getL (Str.ofString "offset") es = some (some (.int off t))
  add : getL (Str.ofString "add") es = some none
  len : es.length ≤ 40
structure NamedAt (P : Place) (x : Addr) (rows : Addr) : Prop where
  at_ : ∃ dx es n, P x (instObj 86 dx) ∧ P dx (dictOf es n) ∧ (∃ t, getL (Str.ofString "name") es = some (some (.str (Str.ofString "N") t))) ∧ getL (Str.ofString "rows") es = some (some (.ref rows))
structure DataAt (P : Place) (d : Addr) (fd wk lk : Addr) : Prop where
  at_ : ∃ dx es n, P d (instObj 163 dx) ∧ P dx (dictOf es n) ∧ getL (Str.ofString "files") es = some (some (.ref fd)) ∧ getL (Str.ofString "working") es = some (some (.ref wk)) ∧ getL (Str.ofString "linkage") es = some (some (.ref lk))
structure FilesAt (w : World) (P : Place) (fd fl gl : Addr) : Prop where
  at_ : ∃ o, P fd o ∧ o.IsDictOf (PySem.strKind PG w) [(Str.ofString "F", .ref fl), (Str.ofString "G", .ref gl)]
theorem ItemAt.mono {P P' : Place} {x dx : Addr} {es : List DictEntry} {name : Str} {par : Option Addr} {cl kl : Addr} {off : Int} (I : ItemAt P x dx es name par cl kl off) (k : ∀ a o, P a o → P' a o) : ItemAt P' x dx es name par cl kl off :=
  { I with inst := k _ _ I.inst, dict := let ⟨n, e⟩ := I.dict; ⟨n, k _ _ e⟩ }
theorem NamedAt.mono {P P' : Place} {x rows : Addr} (I : NamedAt P x rows) (k : ∀ a o, P a o → P' a o) : NamedAt P' x rows :=
  let ⟨dx, es, n, a, b, r⟩ := I.at_; ⟨dx, es, n, k _ _ a, k _ _ b, r⟩
theorem DataAt.mono {P P' : Place} {x fd wk lk : Addr} (I : DataAt P x fd wk lk) (k : ∀ a o, P a o → P' a o) : DataAt P' x fd wk lk :=
  let ⟨dx, es, n, a, b, r⟩ := I.at_; ⟨dx, es, n, k _ _ a, k _ _ b, r⟩
theorem FilesAt.mono {w : World} {P P' : Place} {fd fl gl : Addr} (I : FilesAt w P fd fl gl) (k : ∀ a o, P a o → P' a o) : FilesAt w P' fd fl gl :=
  let ⟨o, a, b⟩ := I.at_; ⟨o, k _ _ a, b⟩
theorem ItemAt.keeps {h h' : Heap} {x dx : Addr} {es : List DictEntry} {name : Str} {par : Option Addr} {cl kl : Addr} {off : Int} (I : ItemAt (inHeap h) x dx es name par cl kl off) (k : ∀ a o, h.get? a = some o → h'.get? a = some o) : ItemAt (inHeap h') x dx es name par cl kl off := I.mono k
theorem NamedAt.keeps {h h' : Heap} {x rows : Addr} (I : NamedAt (inHeap h) x rows) (k : ∀ a o, h.get? a = some o → h'.get? a = some o) : NamedAt (inHeap h') x rows := I.mono k
theorem DataAt.keeps {h h' : Heap} {x fd wk lk : Addr} (I : DataAt (inHeap h) x fd wk lk) (k : ∀ a o, h.get? a = some o → h'.get? a = some o) : DataAt (inHeap h') x fd wk lk := I.mono k
theorem FilesAt.keeps {w : World} {h h' : Heap} {fd fl gl : Addr} (I : FilesAt w (inHeap h) fd fl gl) (k : ∀ a o, h.get? a = some o → h'.get? a = some o) : FilesAt w (inHeap h') fd fl gl := I.mono k
section
variable {w : World} {A : Around} {E : Value → Shared → Prop} {s : Shared} {Q : Value → Shared → Prop} {expr : Bool}
theorem handed_refV (o : Option Addr) : handedIn (refV o) = true := by cases o <;> rfl
theorem get_inst {C x dx : Addr} {es : List DictEntry} {n : Nat} {name : Str} {v : Value} {attr : Option Value} (X : (hd.heap_39 w.params).In s.heap) (hi : s.heap.get? x = some (instObj C dx)) (hdx : s.heap.get? dx = some (dictOf es n))
    (hg : plainGet (hd.heap_39 w.params) C name = true) (hh : hasDictIn (hd.heap_39 w.params) C = true) (ha : findIn (hd.heap_39 w.params) (.ref C) name = some attr) (hn : noGet (hd.heap_39 w.params) attr = true)
    (hl : getL name es = some (some v)) (hv : handedIn v = true) (h : Q v { s with toks := s.toks + 1 }) : wpAny (model PG w) A (getAttr (.ref x) name expr) Q E s :=
  get_value X (ox := instObj C dx) (od := some (dictOf es n)) ⟨hi, rfl, rfl, hdx⟩ (plainGet_of hg).1 (findObj_own hh ha hn hl) hv h
variable {x dx : Addr} {es : List DictEntry} {name : Str} {par : Option Addr} {cl kl : Addr} {off : Int}
theorem item_name (X : (hd.heap_39 w.params).In s.heap) (I : ItemAt (inHeap s.heap) x dx es name par cl kl off) (h : ∀ t, Q (.str name t) { s with toks := s.toks + 1 }) : wpAny (model PG w) A (getAttr (.ref x) (Str.ofString "name") expr) Q E s :=
  let ⟨n, e⟩ := I.dict; let ⟨t, q⟩ := I.name; get_inst X I.inst e (by k_is) (by k_is) (by k_is) (by k_is) q rfl (h t)
theorem item_parent (X : (hd.heap_39 w.params).In s.heap) (I : ItemAt (inHeap s.heap) x dx es name par cl kl off) (h : Q (refV par) { s with toks := s.toks + 1 }) : wpAny (model PG w) A (getAttr (.ref x) (Str.ofString "parent") expr) Q E s :=
  let ⟨n, e⟩ := I.dict; get_inst X I.inst e (by k_is) (by k_is) (by k_is) (by k_is) I.par (handed_refV _) h
theorem item_conditions (X : (hd.heap_39 w.params).In s.heap) (I : ItemAt (inHeap s.heap) x dx es name par cl kl off) (h : Q (.ref cl) { s with toks := s.toks + 1 }) : wpAny (model PG w) A (getAttr (.ref x) (Str.ofString "conditions") expr) Q E s :=
  let ⟨n, e⟩ := I.dict; get_inst X I.inst e (by k_is) (by k_is) (by k_is) (by k_is) I.cl rfl h
theorem item_kids (X : (hd.heap_39 w.params).In s.heap) (I : ItemAt (inHeap s.heap) x dx es name par cl kl off) (h : Q (.ref kl) { s with toks := s.toks + 1 }) : wpAny (model PG w) A (getAttr (.ref x) (Str.ofString "kids") expr) Q E s :=
  let ⟨n, e⟩ := I.dict; get_inst X I.inst e (by k_is) (by k_is) (by k_is) (by k_is) I.kl rfl h
theorem item_offset (X : (hd.heap_39 w.params).In s.heap) (I : ItemAt (inHeap s.heap) x dx es name par cl kl off) (h : ∀ t, Q (.int off t) { s with toks := s.toks + 1 }) : wpAny (model PG w) A (getAttr (.ref x) (Str.ofString "offset") expr) Q E s :=
  let ⟨n, e⟩ := I.dict; let ⟨t, q⟩ := I.off; get_inst X I.inst e (by k_is) (by k_is) (by k_is) (by k_is) q rfl (h t)
theorem named_name {rows : Addr} (X : (hd.heap_39 w.params).In s.heap) (I : NamedAt (inHeap s.heap) x rows) (h : ∀ t, Q (.str (Str.ofString "N") t) { s with toks := s.toks + 1 }) : wpAny (model PG w) A (getAttr (.ref x) (Str.ofString "name") expr) Q E s :=
  let ⟨dx, es, n, a, b, ⟨t, q⟩, r⟩ := I.at_; get_inst X a b (by k_is) (by k_is) (by k_is) (by k_is) q rfl (h t)
theorem named_rows {rows : Addr} (X : (hd.heap_39 w.params).In s.heap) (I : NamedAt (inHeap s.heap) x rows) (h : Q (.ref rows) { s with toks := s.toks + 1 }) : wpAny (model PG w) A (getAttr (.ref x) (Str.ofString "rows") expr) Q E s :=
  let ⟨dx, es, n, a, b, _, r⟩ := I.at_; get_inst X a b (by k_is) (by k_is) (by k_is) (by k_is) r rfl h
theorem data_files {fd wk lk : Addr} (X : (hd.heap_39 w.params).In s.heap) (I : DataAt (inHeap s.heap) x fd wk lk) (h : Q (.ref fd) { s with toks := s.toks + 1 }) : wpAny (model PG w) A (getAttr (.ref x) (Str.ofString "files") expr) Q E s :=
  let ⟨dx, es, n, a, b, r, _, _⟩ := I.at_; get_inst X a b (by k_is) (by k_is) (by k_is) (by k_is) r rfl h
theorem data_working {fd wk lk : Addr} (X : (hd.heap_39 w.params).In s.heap) (I : DataAt (inHeap s.heap) x fd wk lk) (h : Q (.ref wk) { s with toks := s.toks + 1 }) : wpAny (model PG w) A (getAttr (.ref x) (Str.ofString "working") expr) Q E s :=
  let ⟨dx, es, n, a, b, _, r, _⟩ := I.at_; get_inst X a b (by k_is) (by k_is) (by k_is) (by k_is) r rfl h
theorem data_linkage {fd wk lk : Addr} (X : (hd.heap_39 w.params).In s.heap) (I : DataAt (inHeap s.heap) x fd wk lk) (h : Q (.ref lk) { s with toks := s.toks + 1 }) : wpAny (model PG w) A (getAttr (.ref x) (Str.ofString "linkage") expr) Q E s :=
  let ⟨dx, es, n, a, b, _, _, r⟩ := I.at_; get_inst X a b (by k_is) (by k_is) (by k_is) (by k_is) r rfl h
theorem files_at {h : Heap} {fd fl gl : Addr} (I : FilesAt w (inHeap h) fd fl gl) : ∃ ep, h.DictAt (PySem.strKind PG w) fd [(Str.ofString "F", .ref fl), (Str.ofString "G", .ref gl)] ep := by
  obtain ⟨o, e, es, ep, r⟩ := I.at_
  exact ⟨ep, o, es, e, r⟩
theorem files_map {h : Heap} {fd fl gl : Addr} (I : FilesAt w (inHeap h) fd fl gl) : h.MapOf (PySem.strKind PG w) fd (fun k => if k = Str.ofString "F" then some (.ref fl) else if k = Str.ofString "G" then some (.ref gl) else none) := by
  obtain ⟨o, e, r⟩ := I.at_
  have hm := Heap.DictOf.mapOf (Heap.dictOf_iff.mpr ⟨o, e, r⟩)
  have : (fun k => if k = Str.ofString "F" then some (Value.ref fl) else if k = Str.ofString "G" then some (.ref gl) else none) = valueAt [(Str.ofString "F", Value.ref fl), (Str.ofString "G", .ref gl)] := by
    funext k
    unfold valueAt
    by_cases h1 : k = Str.ofString "F"
    · subst h1; simp
    · by_cases h2 : k = Str.ofString "G"
      · subst h2; simp [h1, Ne.symm h1]
      · simp [h1, h2, Ne.symm h1, Ne.symm h2]
  rw [this]; exact hm
theorem item_files {fd fl gl : Addr} {value slice : Expr} {k : Str} {v : Value} (hk : (PySem.strKind PG w).is k v = true) {r : Addr} (hr : (if k = Str.ofString "F" then some (Value.ref fl) else if k = Str.ofString "G" then some (.ref gl) else none) = some (.ref r))
    (I : FilesAt w (inHeap s.heap) fd fl gl) (h : Q (.ref r) { s with toks := s.toks + 1 })
    (hs : subscripted slice false (.ref fd) v = operate [.ref fd, v] (getItem (.ref fd) v) := by with_unfolding_all rfl) : wpAny (model PG w) A (subscriptTail value slice (.ref fd) v) Q E s :=
  have hm := files_map I
  tail_any hm.typeIs slot_dict_getitem.lookup (wpAny_getItem_of hk hm hr h) hs
end
end
section
open PySem PySem.W PySem.Calls PySem.Spec PyProof.Rows
set_option maxRecDepth 100000
set_option linter.unusedVariables false
structure Gh where
  n : Nat
  ad : Nat → Addr
  dx : Nat → Addr
  cl : Nat → Addr
  kl : Nat → Addr
  es : Nat → List DictEntry
  nm : Nat → Str
  pa : Nat → Option Nat
  rm : Nat → Nat
  mark : Nat → Option Addr
  rw : Nat → Addr
  d : Addr
  fd : Addr
  room : Nat → Addr
  wy : Nat → Addr
  mt : Nat → Addr
def Gh.kids (G : Gh) (i : Nat) : List Nat := (List.range G.n).filter fun j => decide (G.pa j = some i)
def Gh.roots (G : Gh) (r : Nat) : List Nat := (List.range G.n).filter fun j => decide (G.pa j = none ∧ G.rm j = r)
def Gh.ref (G : Gh) (i : Nat) : Value := .ref (G.ad i)
structure Forest (w : World) (P : Place) (G : Gh) : Prop where
  data : DataAt P G.d G.fd (G.room 0) (G.room 3)
  files : FilesAt w P G.fd (G.room 1) (G.room 2)
  rooms : ∀ r, r < 4 → ∃ c, P (G.room r) (lstO ((G.roots r).map G.ref) c)
  item : ∀ i, i < G.n → ItemAt P (G.ad i) (G.dx i) (G.es i) (G.nm i) ((G.pa i).map G.ad) (G.cl i) (G.kl i) i
  kids : ∀ i, i < G.n → ∃ c, P (G.kl i) (lstO ((G.kids i).map G.ref) c)
  conds : ∀ i, i < G.n → ∃ c, P (G.cl i) (lstO ((G.mark i).toList.map .ref) c)
  named : ∀ i, i < G.n → ∀ a, G.mark i = some a → NamedAt P a (G.rw i)
structure Gh.Ok (G : Gh) : Prop where
  few : G.n ≤ 9
  inj : ∀ i j, i < G.n → j < G.n → G.ad i = G.ad j → i = j
  par : ∀ i, i < G.n → ∀ j, G.pa i = some j → j < i
  room : ∀ i, i < G.n → G.rm i < 4
  names : ∀ i, i < G.n → (G.nm i).length ≤ 10
  sys : (G.fd == sysModules) = false
theorem Forest.mono {w : World} {P P' : Place} {G : Gh} (F : Forest w P G) (k : ∀ a o, P a o → P' a o) : Forest w P' G where
  data := F.data.mono k
  files := F.files.mono k
  rooms := fun r hr => let ⟨c, e⟩ := F.rooms r hr; ⟨c, k _ _ e⟩
  item := fun i hi => (F.item i hi).mono k
  kids := fun i hi => let ⟨c, e⟩ := F.kids i hi; ⟨c, k _ _ e⟩
  conds := fun i hi => let ⟨c, e⟩ := F.conds i hi; ⟨c, k _ _ e⟩
  named := fun i hi a e => (F.named i hi a e).mono k
theorem Forest.keeps {w : World} {h h' : Heap} {G : Gh} (F : Forest w (inHeap h) G) (k : ∀ a o, h.get? a = some o → h'.get? a = some o) : Forest w (inHeap h') G := F.mono k
theorem Forest.ofLed {w : World} {h₀ h : Heap} {L : Addr} {nx : List (Addr × Obj)} {G : Gh} (F : Forest w (inLed nx) G) (N : News h₀ L h nx) : Forest w (inHeap h) G := F.mono fun a o e => N.get e
theorem lst_of {h : Heap} {a : Addr} {vs : List Value} (e : ∃ c, h.get? a = some (lstO vs c)) (l : vs.length ≤ 100000) : LstAt h a vs := let ⟨c, e⟩ := e; ⟨⟨_, e, rfl, c, rfl⟩, l⟩
theorem Gh.kids_len (G : Gh) (i : Nat) : (G.kids i).length ≤ G.n := by unfold Gh.kids; exact Nat.le_trans (List.length_filter_le _ _) (by simp)
theorem Gh.roots_len (G : Gh) (i : Nat) : (G.roots i).length ≤ G.n := by unfold Gh.roots; exact Nat.le_trans (List.length_filter_le _ _) (by simp)
theorem Gh.kids_lt (G : Gh) {i j : Nat} (h : j ∈ G.kids i) : j < G.n ∧ G.pa j = some i := by
  unfold Gh.kids at h
  simp only [List.mem_filter, List.mem_range, decide_eq_true_eq] at h
  exact h
theorem Gh.roots_lt (G : Gh) {r j : Nat} (h : j ∈ G.roots r) : j < G.n ∧ G.pa j = none ∧ G.rm j = r := by
  unfold Gh.roots at h
  simp only [List.mem_filter, List.mem_range, decide_eq_true_eq] at h
  exact h
theorem Forest.roomL {w : World} {h : Heap} {G : Gh} (F : Forest w (inHeap h) G) (O : G.Ok) {r : Nat} (hr : r < 4) : LstAt h (G.room r) ((G.roots r).map G.ref) :=
  lst_of (F.rooms r hr) (by rw [List.length_map]; have := G.roots_len r; have := O.few; omega)
theorem Forest.kidsL {w : World} {h : Heap} {G : Gh} (F : Forest w (inHeap h) G) (O : G.Ok) {i : Nat} (hi : i < G.n) : LstAt h (G.kl i) ((G.kids i).map G.ref) :=
  lst_of (F.kids i hi) (by rw [List.length_map]; have := G.kids_len i; have := O.few; omega)
theorem Forest.condsL {w : World} {h : Heap} {G : Gh} (F : Forest w (inHeap h) G) {i : Nat} (hi : i < G.n) : LstAt h (G.cl i) ((G.mark i).toList.map .ref) :=
  lst_of (F.conds i hi) (by rw [List.length_map]; cases G.mark i <;> simp)
def Gh.ancF (G : Gh) : Nat → Nat → List Nat
  | 0, _ => []
  | f + 1, i => match G.pa i with
    | none => []
    | some j => j :: G.ancF f j
def Gh.anc (G : Gh) (i : Nat) : List Nat := G.ancF (i + 1) i
theorem Gh.ancF_le (G : Gh) (O : G.Ok) : ∀ (f f' i : Nat), i < G.n → i < f → i < f' → G.ancF f i = G.ancF f' i
  | 0, _, _, _, h, _ => absurd h (Nat.not_lt_zero _)
  | _ + 1, 0, _, _, _, h => absurd h (Nat.not_lt_zero _)
  | f + 1, f' + 1, i, hi, h, h' => by
    show (match G.pa i with | none => [] | some j => j :: G.ancF f j) = (match G.pa i with | none => [] | some j => j :: G.ancF f' j)
    cases e : G.pa i with
    | none => rfl
    | some j =>
      have := O.par i hi j e
      show j :: _ = j :: _
      rw [G.ancF_le O f f' j (by omega) (by omega) (by omega)]
theorem Gh.anc_eq (G : Gh) (O : G.Ok) {i : Nat} (hi : i < G.n) : G.anc i = match G.pa i with | none => [] | some j => j :: G.anc j := by
  show (match G.pa i with | none => [] | some j => j :: G.ancF i j) = _
  cases e : G.pa i with
  | none => rfl
  | some j =>
    have := O.par i hi j e
    show j :: G.ancF i j = j :: G.ancF (j + 1) j
    rw [G.ancF_le O i (j + 1) j (by omega) (by omega) (by omega)]
theorem Gh.anc_lt (G : Gh) (O : G.Ok) : ∀ (k i : Nat), i < k → i < G.n → ∀ j ∈ G.anc i, j < i
  | 0, _, h, _, _, _ => absurd h (Nat.not_lt_zero _)
  | k + 1, i, h, hi, j, hj => by
    rw [G.anc_eq O hi] at hj
    cases e : G.pa i with
    | none => rw [e] at hj; cases hj
    | some p =>
      rw [e] at hj
      have hp := O.par i hi p e
      rcases List.mem_cons.mp hj with rfl | hj
      · exact hp
      · exact Nat.lt_trans (G.anc_lt O k p (by omega) (by omega) j hj) hp
theorem Gh.anc_len (G : Gh) (O : G.Ok) : ∀ (k i : Nat), i < k → i < G.n → (G.anc i).length ≤ i
  | 0, _, h, _ => absurd h (Nat.not_lt_zero _)
  | k + 1, i, h, hi => by
    rw [G.anc_eq O hi]
    cases e : G.pa i with
    | none => exact Nat.zero_le _
    | some p =>
      have hp := O.par i hi p e
      have := G.anc_len O k p (by omega) (by omega)
      show (G.anc p).length + 1 ≤ i
      omega
end
local macro_rules | `(tactic| walk_at "my item") => `(tactic| first | assumption | exact ItemAt.keeps (by assumption) (Fr.keep (by assumption)))
local macro_rules | `(tactic| walk_at "my nam") => `(tactic| first | assumption | exact NamedAt.keeps (by assumption) (Fr.keep (by assumption)))
local macro_rules | `(tactic| walk_at "my dat") => `(tactic| first | assumption | exact DataAt.keeps (by assumption) (Fr.keep (by assumption)))
local macro_rules | `(tactic| walk_at "getAttr ref") => `(tactic| ((with_reducible refine at_name ?_); first | (refine item_name (by k_in) (by walk_at "my item") ?_; intro _) | (refine named_name (by k_in) (by walk_at "my nam") ?_; intro _)))
local macro_rules | `(tactic| walk_at "getAttr ref") => `(tactic| ((with_reducible refine at_parent ?_); refine item_parent (by k_in) (by walk_at "my item") ?_))
local macro_rules | `(tactic| walk_at "getAttr ref") => `(tactic| ((with_reducible refine at_conditions ?_); refine item_conditions (by k_in) (by walk_at "my item") ?_))
local macro_rules | `(tactic| walk_at "getAttr ref") => `(tactic| ((with_reducible refine at_kids ?_); refine item_kids (by k_in) (by walk_at "my item") ?_))
local macro_rules | `(tactic| walk_at "getAttr ref") => `(tactic| ((with_reducible refine at_offset ?_); refine item_offset (by k_in) (by walk_at "my item") ?_; intro _))
local macro_rules | `(tactic| walk_at "getAttr ref") => `(tactic| ((with_reducible refine at_rows ?_); refine named_rows (by k_in) (by walk_at "my nam") ?_))
local macro_rules | `(tactic| walk_at "getAttr ref") => `(tactic| ((with_reducible refine at_files ?_); refine data_files (by k_in) (by walk_at "my dat") ?_))
local macro_rules | `(tactic| walk_at "getAttr ref") => `(tactic| ((with_reducible refine at_working ?_); refine data_working (by k_in) (by walk_at "my dat") ?_))
local macro_rules | `(tactic| walk_at "getAttr ref") => `(tactic| ((with_reducible refine at_linkage ?_); refine data_linkage (by k_in) (by walk_at "my dat") ?_))
local macro_rules | `(tactic| walk_at "subscriptTail Name Name ref str") => `(tactic| (k_here; (with_unfolding_all refine' item_files ?k1 ?k2 ?k3 ?_ ?k4; (case k3 => first | assumption | exact FilesAt.keeps (by assumption) (Fr.keep (by assumption))); (case k1 => exact strKind_is _ _ _ _); (case k2 => first | assumption | rfl | decide); (case k4 => with_unfolding_all rfl))))
section
open PySem PySem.W PySem.Calls PySem.Spec PyProof.Rows
set_option maxRecDepth 100000
set_option linter.unusedVariables false
def GivesList (vs : List Value) (h : Heap) (v : Value) (h' : Heap) : Prop := ∃ r c, v = .ref r ∧ h.get? r = none ∧ h'.get? r = some (lstO vs c)
set_option maxHeartbeats 800000 in
theorem around_ok {w : World} {mean : ExcName → Option Value} {mg mb : Str → Option Value} (G : Gh) (O : G.Ok) (i : Nat) (hi : i < G.n) :
    Rd w mean mg mb 1 195 [G.ref i] (fun h => Forest w (inHeap h) G) (GivesList ((G.anc i).map G.ref)) := by
  w_top off
  refine Rd.enter (binds := [(Str.ofString "item", G.ref i)]) ?_
  rintro dp un gd outer A₀ base L g s₁ B F N X T hd hu hG
  k_fold
  unfold Gh.ref at F
  have hI := hG.item i hi
  k_steps
  rename Fr _ _ _ _ => F
  rename News _ _ _ _ => N
  refine go ?_
  refine whileV [Str.ofString "above", Str.ofString "found"] (fun k vals nx => ∃ (cur : Option Nat) (pre : List Nat) (c : Nat) (r : Addr), vals = [some (refV (cur.map G.ad)), some (.ref r)] ∧ nx = [(r, lstO (pre.map G.ref) c)] ∧
      (∀ j, cur = some j → j < G.n) ∧ G.anc i = pre ++ (match cur with | none => [] | some j => j :: G.anc j) ∧ k = (match cur with | none => 0 | some j => j + 1)) (match G.pa i with | none => 0 | some j => j + 1)
    F N ⟨G.pa i, [], 0, _, by with_unfolding_all rfl, rfl, fun j e => Nat.lt_trans (O.par i hi j e) hi, by rw [List.nil_append]; exact G.anc_eq O hi, rfl⟩ ?_
  rintro k vals nx h tk ⟨cur, pre, c, r, rfl, rfl, hc, ha, rfl⟩ F₁ N₁
  clear F N
  have hge : g.get? r = none := (N₁ _ (List.mem_singleton.mpr rfl)).2.2
  cases cur with
  | none =>
    simp only [Option.map_none, refV] at F₁
    k_steps
    exact ⟨_, _, rfl, hge, by rw [ha, List.append_nil]; rename News _ _ _ _ => N; exact N.get (List.mem_singleton.mpr rfl)⟩
  | some j =>
    have hj := hc j rfl
    have hJ := hG.item j hj
    simp only [Option.map_some, refV] at F₁
    have hz : (pre.map G.ref).toArray.size ≤ sizeLine := by
      have h1 := congrArg List.length ha
      have h2 := G.anc_len O (i + 1) i (by omega) hi
      have h3 := O.few
      rw [List.length_append] at h1
      simp only [List.size_toArray, List.length_map, sizeLine_eq]
      omega
    k_steps
    rename Fr _ _ _ _ => F
    rename News _ _ _ _ => N
    refine EndWV.intro [(r, lstO ((pre ++ [j]).map G.ref) (c + 1))] (match G.pa j with | none => 0 | some j => j + 1) ?_ F N ?_ ?_ ?_
    · cases e : G.pa j with
      | none => exact Nat.succ_pos _
      | some p => have := O.par j hj p e; show p + 1 < j + 1; omega
    · intro p hp
      rw [List.mem_singleton] at hp ⊢
      rw [hp]
      simp [Gh.ref]
    · refine ⟨G.pa j, pre ++ [j], c + 1, r, by with_unfolding_all rfl, rfl, fun j' e => Nat.lt_trans (O.par j hj j' e) hj, ?_, rfl⟩
      rw [ha]
      show pre ++ (j :: G.anc j) = _
      rw [G.anc_eq O hj, List.append_assoc]
      rfl
    · intro z hz; simp only [NotIn] at hz; simp [hz, put]
end
section
open PySem PySem.W PySem.Calls PySem.Spec PyProof.Rows
set_option linter.unusedVariables false
set_option maxRecDepth 100000
open LCg LCt
section
variable {prog : Program} {w : World} {A : Around} {E : Value → Shared → Prop} {s : Shared} {h₀ : Heap} {L : Addr} {m : Str → Option Value} {env : Env}
theorem compEnd_mono {s₁ s₂ : Shared} {I C D : Addr} {oI oC oD : Obj} {S : List (Addr × Obj) → Prop} {r r' : Value → List (Addr × Obj) → Prop} {y y' : Value} (x : CompEnd h₀ L m s₁ I oI C oC D oD S r y s₂) (h : ∀ nx, r y nx → r' y' nx) : CompEnd h₀ L m s₁ I oI C oC D oD S r' y' s₂ :=
  let ⟨h', tk, nx, a, b, c, d, e, f⟩ := x; ⟨h', tk, nx, a, b, c, d, e, h nx f⟩
theorem restT_inv {ct elt : Expr} {x : Str} {scope : Scope} {cl : List (Str × Addr)} {S : List (Addr × Obj) → Prop} {P : Nat → Value → Prop} {Fin : List Value → List (Addr × Obj) → Prop}
    (J : Nat → List Value → List (Addr × Obj) → Prop) {n : Nat} {ys₀ : List Value} {news₀ : List (Addr × Obj)} (hj : J 0 ys₀ news₀)
    (turn : ∀ i ys news v I oI C oC D m₂ h tk (E' : Value → Shared → Prop), i < n → J i ys news → P i v → NsObj oC m₂ → m₂ x = some v → Fr h₀ L h m → News h₀ L h ((I, oI) :: (C, oC) :: (D, lst ys) :: news) → Off3 I C D news → ((@Ne Nat I C) ∧ (@Ne Nat I D) ∧ (@Ne Nat C D)) →
      wpAny (model prog w) A (isTrue ct (compEnvC scope cl C env) (eval ct (compEnvC scope cl C env))) (fun ok s' => if ok = true then
        wpAny (model prog w) A (eval elt (compEnvC scope cl C env)) (CompEnd h₀ L m { s with heap := h, toks := tk } I oI C oC D (lst ys) S (fun y news' => J (i + 1) (ys ++ [y]) news')) E' s'
        else CompEnd h₀ L m { s with heap := h, toks := tk } I oI C oC D (lst ys) S (fun _ news' => J (i + 1) ys news') Value.none s') E' { s with heap := h, toks := tk })
    (fin : ∀ ys news, J n ys news → Fin ys news) : CompRestT prog w A h₀ L m env ct elt x scope cl s S P Fin n 0 ys₀ news₀ := by
  have key : ∀ k i ys news, i + k = n → J i ys news → CompRestT prog w A h₀ L m env ct elt x scope cl s S P Fin k i ys news := by
    intro k
    induction k with
    | zero => intro i ys news e hJ; obtain rfl : i = n := by omega
              exact .zero (fin _ _ hJ)
    | succ k ih =>
      intro i ys news e hJ
      refine .succ fun v I oI C oC D m₂ h tk E' hP hC hx F N off ne => ?_
      refine wpAny_mono (turn i ys news v I oI C oC D m₂ h tk E' (by omega) hJ hP hC hx F N off ne) (fun ok s' q => ?_) fun _ _ e => e
      cases ok with
      | true => exact wpAny_mono q (fun y s₂ z => compEnd_mono z fun nx j => ih _ _ _ (by omega) j) fun _ _ e => e
      | false =>
        simp only [Bool.false_eq_true, if_false] at q ⊢
        exact compEnd_mono q fun nx j => ih (i + 1) _ _ (by omega) j
  exact key n 0 _ _ (by omega) hj
theorem rest_inv {elt : Expr} {x : Str} {scope : Scope} {cl : List (Str × Addr)} {S : List (Addr × Obj) → Prop} {P : Nat → Value → Prop} {Fin : List Value → List (Addr × Obj) → Prop}
    (J : Nat → List Value → List (Addr × Obj) → Prop) {n : Nat} {ys₀ : List Value} {news₀ : List (Addr × Obj)} (hj : J 0 ys₀ news₀)
    (turn : ∀ i ys news v I oI C oC D m₂ h tk (E' : Value → Shared → Prop), i < n → J i ys news → P i v → NsObj oC m₂ → m₂ x = some v → Fr h₀ L h m → News h₀ L h ((I, oI) :: (C, oC) :: (D, lst ys) :: news) → Off3 I C D news → ((@Ne Nat I C) ∧ (@Ne Nat I D) ∧ (@Ne Nat C D)) →
        wpAny (model prog w) A (eval elt (compEnvC scope cl C env)) (CompEnd h₀ L m { s with heap := h, toks := tk } I oI C oC D (lst ys) S (fun y news' => J (i + 1) (ys ++ [y]) news')) E' { s with heap := h, toks := tk })
    (fin : ∀ ys news, J n ys news → Fin ys news) : CompRest prog w A h₀ L m env elt x scope cl s S P Fin n 0 ys₀ news₀ := by
  have key : ∀ k i ys news, i + k = n → J i ys news → CompRest prog w A h₀ L m env elt x scope cl s S P Fin k i ys news := by
    intro k
    induction k with
    | zero => intro i ys news e hJ; obtain rfl : i = n := by omega
              exact .zero (fin _ _ hJ)
    | succ k ih =>
      intro i ys news e hJ
      refine .succ fun v I oI C oC D m₂ h tk E' hP hC hx F N off ne => ?_
      exact wpAny_mono (turn i ys news v I oI C oC D m₂ h tk E' (by omega) hJ hP hC hx F N off ne) (fun y s₂ z => compEnd_mono z fun nx j => ih _ _ _ (by omega) j) fun _ _ e => e
  exact key n 0 _ _ (by omega) hj
end
def AllNe (d : Addr) : List (Addr × Obj) → Prop
  | [] => True
  | p :: r => @Ne Nat p.1 d ∧ AllNe d r
theorem allNe_of {d : Addr} : ∀ {l : List (Addr × Obj)}, (∀ p ∈ l, p.1 ≠ d) → AllNe d l
  | [], _ => trivial
  | p :: _, h => ⟨h p (.head _), allNe_of fun q hq => h q (.tail _ hq)⟩
theorem Rd.use2 {w : World} {mean : ExcName → Option Value} {mg mb : Str → Option Value} {n : Nat} {f : Addr} {vs : List Value} {pre : Heap → Prop} {post : Heap → Value → Heap → Prop}
    {dp un : Nat} {gd : Option (List Code)} {cn : Str} {cs : Scope} {a : Addr} {ccd : Value} {cl : List (Str × Addr)} {outer : List Env} {A₀ : Around} {base h₀ : Heap} {L : Addr} {m : Str → Option Value} {s : Shared} {Q E : Value → Shared → Prop} {news : List (Addr × Obj)}
    (B : Below A₀ base outer h₀) (F : Fr h₀ L s.heap m) (X : (hd.heap_39 w.params).In h₀) (N : News h₀ L s.heap news) (T : Top PV LS mean mg mb h₀) (hk : cs.kind = .function) (C : Rd w mean mg mb n f vs pre post) (hd : dp + 10 * n ≤ 900) (hu : un + 100 * n ≤ 9000) (hp : pre s.heap)
    (ret : ∀ v h' tk', Fr h₀ L h' m → News h₀ L h' news → s.heap.StaysIn h' → post s.heap v h' → Q v { s with heap := h', toks := tk' }) :
    wpAny (model PG w) (ktrTop dp un gd cn cs L a ccd cl outer) (call (.ref f) vs) Q E s := C.use B F X N T hk hd hu hp ret
theorem Rd.useL {w : World} {mean : ExcName → Option Value} {mg mb : Str → Option Value} {n : Nat} {f : Addr} {vs : List Value} {pre : Heap → Prop} {us : List Value}
    {dp un : Nat} {gd : Option (List Code)} {cn : Str} {cs : Scope} {a : Addr} {ccd : Value} {cl : List (Str × Addr)} {outer : List Env} {A₀ : Around} {base h₀ : Heap} {L : Addr} {m : Str → Option Value} {s : Shared} {Q E : Value → Shared → Prop} {news : List (Addr × Obj)}
    (B : Below A₀ base outer h₀) (F : Fr h₀ L s.heap m) (X : (hd.heap_39 w.params).In h₀) (N : News h₀ L s.heap news) (T : Top PV LS mean mg mb h₀) (hk : cs.kind = .function) (C : Rd w mean mg mb n f vs pre (GivesList us)) (hd : dp + 10 * n ≤ 900) (hu : un + 100 * n ≤ 9000) (hp : pre s.heap)
    (ret : ∀ r c h' tk', Fr h₀ L h' m → News h₀ L h' ((r, lstO us c) :: news) → s.heap.StaysIn h' → AllNe r news → Q (.ref r) { s with heap := h', toks := tk' }) :
    wpAny (model PG w) (ktrTop dp un gd cn cs L a ccd cl outer) (call (.ref f) vs) Q E s := by
  refine C.use B F X N T hk hd hu hp fun v h' tk' F' N' st ⟨r, c, e, h1, h2⟩ => ?_
  subst e
  refine ret r c h' tk' F' (fun p hp => ?_) st (allNe_of fun p hp e => ?_)
  · rcases List.mem_cons.mp hp with rfl | hp
    · refine ⟨h2, ?_, ?_⟩
      · rintro rfl
        obtain ⟨o, _, _, q, _⟩ := F.ns
        rw [h1] at q; cases q
      · cases q : h₀.get? r with
        | none => rfl
        | some o => rw [F.keep _ _ q] at h1; cases h1
    · exact N' p hp
  · have := (N p hp).1; rw [e, h1] at this; cases this
section
variable {prog : Program} {w : World} {A : Around} {E : Value → Shared → Prop} {s : Shared} {Q : Value → Shared → Prop}
theorem ne_nil {a b : Addr} {vs : List Value} (ha : LstAt s.heap a vs) (hb : LstAt s.heap b []) (hu : A.units < cLine) (h : Q (.bool (!vs.isEmpty)) s) : wpAny (model prog w) A (compareOp .NotEq (.ref a) (.ref b)) Q E s := by
  cases vs with
  | nil => exact cmp_ofNotEq (SeqAt.RcNeAt.lists (e := fun _ => true) ha.at_ hb.at_ rfl hu (fun j h1 => absurd h1 (Nat.not_lt_zero _)) prog w E Q h)
  | cons v r => exact cmp_ofNotEq (SeqAt.RcNeAt.lists_lengths ha.at_ hb.at_ (by simp) hu prog w E Q h)
theorem item_last {value slice : Expr} {a : Addr} {vs : List Value} {k : Int} {u : Tok} {v : Value} (x : LstAt s.heap a vs) (hk : k = -1) (hv : vs.getLast? = some v) (h : Q v s)
    (hs : subscripted slice false (.ref a) (.int k u) = operate [.ref a, .int k u] (getItem (.ref a) (.int k u)) := by with_unfolding_all rfl) :
    wpAny (model prog w) A (subscriptTail value slice (.ref a) (.int k u)) Q E s := by
  subst hk
  have hl := x.len
  have hL := x.at_
  have h0 : vs ≠ [] := by rintro rfl; cases hv
  have h1 : 0 < vs.length := List.length_pos_iff.mpr h0
  refine tail_any hL.typeIs slot_list_getitem.lookup (wpAny_getItem_list_neg hL (by decide) (by simp only [List.size_toArray]; omega) (by decide) (x := v) ?_ h) hs
  rw [List.getLast?_eq_getElem?] at hv
  rw [List.size_toArray, show ((-1 : Int) + (vs.length : Int)).toNat = vs.length - 1 by omega]
  simpa using hv
end
end
section
open PySem PySem.W PySem.Calls PySem.Spec PyProof.Rows
set_option linter.unusedVariables false
set_option maxRecDepth 100000
section
variable {w : World} {mean : ExcName → Option Value} {mg mb : Str → Option Value} {n : Nat} {f : Addr} {vs : List Value} {pre : Heap → Prop} {post : Heap → Value → Heap → Prop} {exc : Heap → Prop}
  {name qual : Str} {params : Arguments} {body : List Stmt} {scope : Scope} {dV kV doc pm cdv ct oc : Value} {an od : Option Addr} {osl : Array (Option Value)} {binds : List (Str × Value)}
theorem enterC {A₀ : Around} {base : Heap} {outer : List Env} {env : Env} {h₀ : Heap} {L : Addr} {m : Str → Option Value} {s : Shared} {A : Around} {R : Result → Shared → Prop} {args : Args}
    (B : Below A₀ base outer h₀) (F : Fr h₀ L s.heap m) (X : (hd.heap_39 w.params).In h₀) (T : Top PV LS mean mg mb h₀) (hf : env.frame = some L) (hke : env.scope.kind = .function) (hroom : A.depth < recursionLimit)
    (ho : (hd.heap_39 w.params).lookup f = some ⟨oc, od, .func (fnOf name qual params body scope dV kV doc pm an cdv ct), osl⟩) (hcd : codeIn (hd.heap_39 w.params) cdv qual = true)
    (hbind : BindsTo s (fnOf name qual params body scope dV kV doc pm an cdv ct) args binds) (hkind : (binds.all fun y => scope.names.lookup y.1 == some .local || scope.names.lookup y.1 == some .cell) = true)
    (hnd : ((cellsFrom 0 scope.names []).map (·.1)).Nodup)
    (h : ∀ h₁ tk cells, Fr s.heap s.heap.objs.size h₁ (bindL (envOfC qual scope s.heap.objs.size f cdv).kindOf binds fun _ => none) → News s.heap s.heap.objs.size h₁ cells →
      CellsAre (bindC (envOfC qual scope s.heap.objs.size f cdv).kindOf binds fun _ => none) (cellsFrom (s.heap.objs.size + 1) scope.names []) cells → Below (A₀.deeper env) base (env :: outer) s.heap → (hd.heap_39 w.params).In s.heap → Top PV LS mean mg mb s.heap →
      wpAny (model PG w) (A.deeper (envOfC qual scope s.heap.objs.size f cdv)) (execs body (envOfC qual scope s.heap.objs.size f cdv))
        (fun fl s' => R (.ok (.ret (match fl with | .ret v => v | _ => .none))) s')
        (fun e s' => wpAny (model PG w) (A.deeper (envOfC qual scope s.heap.objs.size f cdv)) (leaving (envOfC qual scope s.heap.objs.size f cdv) e) (fun _ s'' => R (.error e) s'') (fun e' s'' => R (.error e') s'') s')
        { s with heap := h₁, toks := tk })
    (hco : scope.isCoroutine = false) (hgen : scope.isGenerator = false) (hk : scope.kind = .function) : codeAny (model PG w) A (.call (.ref f) args) R s := by
  refine codeAny_call_function hroom ((X.keeps F.keep) _ _ ho) rfl hco hgen rfl (codeRec_of (X.keeps F.keep) hcd) (hbind _ _ _ _ ?_)
  refine wpAny_newFunctionEnv_cells hk (kindsX hkind _) fun env' he s' x => ?_
  subst he
  refine ⟨(T.nolimit.keeps F.keep).keeps x.toInCall.keep, codeAny_func ?_⟩
  obtain ⟨h₁, tk, rfl, _⟩ := x.done
  have hk₁ := x.toInCall.keep
  obtain ⟨cells, NC, Y⟩ := Cl.news (h₀ := s.heap) (Nat.le_refl _) fun n c hm => ⟨x.cell n c (lookup_of_mem_nodup (cellsFrom_names scope.names 0 (s.heap.objs.size + 1) [] [] rfl ▸ hnd) hm), x.above n c hm⟩
  exact h h₁ tk cells ⟨x.toInCall.ns, hk₁, Nat.le_refl _⟩ NC Y (pushX B F hf hke) (X.keeps F.keep) (T.keeps F.keep)
theorem Rd.enterC
    (h : ∀ (dp un : Nat) (gd : Option (List Code)) (outer : List Env) (A₀ : Around) (base : Heap) (L' : Addr) (g : Heap) (s₁ : Shared) (cells : List (Addr × Obj)), Below A₀ base outer g → Fr g L' s₁.heap (bindL (envOfC qual scope L' f cdv).kindOf binds fun _ => none) → News g L' s₁.heap cells →
      CellsAre (bindC (envOfC qual scope L' f cdv).kindOf binds fun _ => none) (cellsFrom (L' + 1) scope.names []) cells → (hd.heap_39 w.params).In g → Top PV LS mean mg mb g →
      dp + 10 * n ≤ 901 → un + 100 * n ≤ 9003 → pre g →
      wpAny (model PG w) (ktrTop dp un gd qual scope L' f cdv (cellsFrom (L' + 1) scope.names []) outer) (execs body (envOfC qual scope L' f cdv)) (fun fl s' => EndR g L' (post g) s₁ (match fl with | .ret v => v | _ => .none) s') (fun _ _ => False) s₁)
    (ho : (hd.heap_39 w.params).lookup f = some ⟨oc, od, .func (fnOf name qual params body scope dV kV doc pm an cdv ct), osl⟩ := by k_is) (hcd : codeIn (hd.heap_39 w.params) cdv qual = true := by k_is)
    (hbind : ∀ s, BindsTo s (fnOf name qual params body scope dV kV doc pm an cdv ct) ⟨vs, []⟩ binds := by (intro _; exact BindsTo.of_eq rfl))
    (hkind : (binds.all fun y => scope.names.lookup y.1 == some .local || scope.names.lookup y.1 == some .cell) = true := by with_unfolding_all rfl) (hnd : ((cellsFrom 0 scope.names []).map (·.1)).Nodup := by decide)
    (hco : scope.isCoroutine = false := by exact rfl) (hgen : scope.isGenerator = false := by exact rfl) (hk : scope.kind = .function := by exact rfl)
    (hn : 1 ≤ n := by decide) : Rd w mean mg mb n f vs pre post := by
  intro dp un gd cn cs a ccd cl outer A₀ base h₀ L m s Q E B F X T hkc hd hu hp hret
  refine wpAny_call ?_
  have hroom : (ktrTop dp un gd cn cs L a ccd cl outer).depth < recursionLimit := by show dp < 1000; omega
  refine Mine.enterC (env := envX cn cs L a ccd cl) B F X T rfl hkc hroom ho hcd (hbind s) hkind hnd (fun h₁ tk cells F' N' Y B' X' T' => ?_) hco hgen hk
  refine wpAny_mono (h (dp + 1) (un + 3) gd (envX cn cs L a ccd cl :: outer) _ base s.heap.objs.size s.heap { s with heap := h₁, toks := tk } cells B' F' N' Y X' T' (by omega) (by omega) hp) (fun fl s' hl => ?_) fun _ _ y => y.elim
  obtain ⟨h', tk', m', rfl, F', hq⟩ := hl
  exact hret _ h' tk' (fun b o e => F'.keep b o e) hq
theorem Rx.enterC
    (h : ∀ (dp un : Nat) (gd : Option (List Code)) (outer : List Env) (A₀ : Around) (base : Heap) (L' : Addr) (g : Heap) (s₁ : Shared) (cells : List (Addr × Obj)), Below A₀ base outer g → Fr g L' s₁.heap (bindL (envOfC qual scope L' f cdv).kindOf binds fun _ => none) → News g L' s₁.heap cells →
      CellsAre (bindC (envOfC qual scope L' f cdv).kindOf binds fun _ => none) (cellsFrom (L' + 1) scope.names []) cells → (hd.heap_39 w.params).In g → Top PV LS mean mg mb g →
      dp + 10 * n ≤ 901 → un + 100 * n ≤ 9003 → pre g →
      wpAny (model PG w) (ktrTop dp un gd qual scope L' f cdv (cellsFrom (L' + 1) scope.names []) outer) (execs body (envOfC qual scope L' f cdv)) (fun fl s' => EndR g L' (post g) s₁ (match fl with | .ret v => v | _ => .none) s') (PassesR g L' (envOfC qual scope L' f cdv :: outer) (exc g) s₁) s₁)
    (ho : (hd.heap_39 w.params).lookup f = some ⟨oc, od, .func (fnOf name qual params body scope dV kV doc pm an cdv ct), osl⟩ := by k_is) (hcd : codeIn (hd.heap_39 w.params) cdv qual = true := by k_is)
    (hbind : ∀ s, BindsTo s (fnOf name qual params body scope dV kV doc pm an cdv ct) ⟨vs, []⟩ binds := by (intro _; exact BindsTo.of_eq rfl))
    (hkind : (binds.all fun y => scope.names.lookup y.1 == some .local || scope.names.lookup y.1 == some .cell) = true := by with_unfolding_all rfl) (hnd : ((cellsFrom 0 scope.names []).map (·.1)).Nodup := by decide)
    (hco : scope.isCoroutine = false := by exact rfl) (hgen : scope.isGenerator = false := by exact rfl) (hk : scope.kind = .function := by exact rfl)
    (hn : 1 ≤ n := by decide) : Rx w mean mg mb n f vs pre post exc := by
  intro dp un gd cn cs a ccd cl outer A₀ base h₀ L m s Q E B F X T hkc hd hu hp hret hexc
  refine wpAny_call ?_
  have hroom : (ktrTop dp un gd cn cs L a ccd cl outer).depth < recursionLimit := by show dp < 1000; omega
  refine Mine.enterC (env := envX cn cs L a ccd cl) B F X T rfl hkc hroom ho hcd (hbind s) hkind hnd (fun h₁ tk cells F' N' Y B' X' T' => ?_) hco hgen hk
  refine wpAny_mono (h (dp + 1) (un + 3) gd (envX cn cs L a ccd cl :: outer) _ base s.heap.objs.size s.heap { s with heap := h₁, toks := tk } cells B' F' N' Y X' T' (by omega) (by omega) hp) (fun fl s' hl => ?_) fun x s' hx => ?_
  · obtain ⟨h', tk', m', rfl, F', hq⟩ := hl
    exact hret _ h' tk' (fun b o e => F'.keep b o e) hq
  · exact passes_leave (Heap.get?_none_of_le (Nat.le_refl _)) hexc hx
end
end
local macro_rules | `(tactic| walk_at "eval ListComp") => `(tactic| (k_here; k_dflt (refine LCt.ListComp_T (F₀ := by k_asm) (by with_unfolding_all rfl) (by decide) (by rfl) (by decide) (by rfl) ?_); k_dflt lct_toSrc))
local macro_rules | `(tactic| walk_at "exec Assign cons ListComp") => `(tactic| (k_here; k_dflt (refine LCt.Assign_ListComp_T (F₀ := by k_asm) (by rfl) (by with_unfolding_all rfl) (by with_unfolding_all rfl) (by decide) (by rfl) (by decide) (by rfl) (by rfl) (by rfl) ?_); k_dflt lct_toSrc))
local macro_rules | `(tactic| walk_at "my gf") => `(tactic| first | assumption | exact Forest.keeps (by assumption) (Fr.keep (by assumption)))
local macro_rules | `(tactic| walk_at "my con") => `(tactic| exact around_ok _ (by assumption) _ (by assumption))
local macro_rules | `(tactic| walk_at "my ne'") => `(tactic| ((rename AllNe _ _ => ne'); (try simp only [List.cons_append, List.nil_append, AllNe] at ne')))
local macro_rules | `(tactic| walk_at "call ref") => `(tactic| (k_dflt (refine' Rd.useL (by k_asm) (by k_asm) (by k_asm) (by k_asm) (by k_asm) (by exact rfl) (by walk_at "my con") (by walk_at "my rm") (by walk_at "my rm") (by walk_at "my gf") ?_; k_whole); intro r' c' h' tk' F' N' st' ne'; walk_at "my ne'"))
local macro_rules | `(tactic| walk_at "CompSrcT") => `(tactic| (refine halt ?_))
local macro_rules | `(tactic| walk_at "CompSrc") => `(tactic| (refine halt ?_))
local macro_rules | `(tactic| walk_at "CompEnd") => `(tactic| (refine halt ?_))
local macro_rules | `(tactic| walk_at "my lst") => `(tactic| first | walk_at "my lst0" | exact LstAt.of_news (by k_asm) (by k_mem) (by first | exact Nat.zero_le _ | assumption | omega | exact Nat.le_of_ble_eq_true rfl | (simp only [List.length_append, List.length_cons, List.length_nil]; omega)))
local macro_rules | `(tactic| walk_at "compareOp NotEq ref ref") => `(tactic| (k_dflt (refine' ne_nil (by walk_at "my lst") (by walk_at "my lst") (by first | (show _ < cLine; rw [cLine_is]; omega) | (rw [cLine_is]; dsimp only; omega)) ?_; k_whole)))
local macro_rules | `(tactic| walk_at "my rm") => `(tactic| omega)
local macro_rules | `(tactic| walk_at "my ne") => `(tactic| k_ne)
local macro_rules | `(tactic| walk_at "my upd") => `(tactic| first | (refine' Upd.head ?a; (case a => walk_at "my all")) | (refine' Upd.tail ?a ?b; (case a => walk_at "my ne"); (case b => walk_at "my upd")))
local macro_rules | `(tactic| walk_at "call builtin:list.append") => `(tactic| (k_dflt (refine' append_K ?k1 ?k2 ?k3 ?_ ?z; (case k1 => k_asm); (case k2 => k_asm); (case k3 => walk_at "my upd"); (case z => first | assumption | size_fits); k_whole); intro h' F' N'; (try k_sweep)))
section
open PySem PySem.W PySem.Calls PySem.Spec PyProof.Rows
set_option maxRecDepth 100000
set_option linter.unusedVariables false
def Gh.names (G : Gh) (i : Nat) : List Str := ((G.anc i).map G.nm).filter fun x => !(x == Str.ofString "FILLER")
def GivesStrs (xs : List Str) (h : Heap) (v : Value) (h' : Heap) : Prop := ∃ vs, StrsAre vs xs ∧ GivesList vs h v h'
theorem anc_size (G : Gh) (O : G.Ok) {i : Nat} (hi : i < G.n) : (G.anc i).length ≤ 9 := by
  have := G.anc_len O (i + 1) i (by omega) hi
  have := O.few
  omega
set_option maxHeartbeats 800000 in
theorem names_ok {w : World} {mean : ExcName → Option Value} {mg mb : Str → Option Value} (G : Gh) (O : G.Ok) (i : Nat) (hi : i < G.n) :
    Rd w mean mg mb 2 207 [G.ref i] (fun h => Forest w (inHeap h) G) (GivesStrs (G.names i)) := by
  w_top off
  refine Rd.enter (binds := [(Str.ofString "item", G.ref i)]) ?_
  rintro dp un gd outer A₀ base L g s₁ B F N X T hd hu hG
  k_fold
  have hz := anc_size G O hi
  unfold Gh.ref at F
  k_steps
  rename Fr _ _ _ _ => F
  rename News _ _ _ _ => N
  refine go (LCt.CompSrcT.ledger (by rfl) F N (List.mem_singleton.mpr rfl) (by simp only [List.size_toArray, List.length_map, sizeLine_eq]; omega) fun g' => ?_)
  refine restT_inv (fun k ys nx => nx = [_] ∧ StrsAre ys ((((G.anc i).take k).map G.nm).filter fun x => !(x == Str.ofString "FILLER"))) ⟨rfl, by simp only [List.take_zero, List.map_nil, List.filter_nil]; exact .nil⟩ ?_ ?_
  · rintro k ys nx v I oI C oC D m₂ h tk E' hk ⟨rfl, hys⟩ hv hC hx F₁ N₁ off ne
    clear F N
    rw [List.size_toArray, List.length_map] at hk
    simp only [List.getElem?_toArray, List.getElem?_map, List.getElem?_eq_getElem hk, Option.map_some, Option.some.injEq] at hv
    subst hv
    have hj := hG.item ((G.anc i)[k]) (Nat.lt_trans (G.anc_lt O (i + 1) i (by omega) hi _ (List.getElem_mem hk)) hi)
    unfold Gh.ref at hx
    have hs : (((G.anc i).take (k + 1)).map G.nm) = ((G.anc i).take k).map G.nm ++ [G.nm (G.anc i)[k]] := by
      rw [List.take_add_one, List.getElem?_eq_getElem hk, List.map_append]; rfl
    dsimp only
    k_steps
    · rename (_ != _) = true => hb
      rename Fr _ _ _ _ => F
      rename News _ _ _ _ => N
      refine go (LCg.CompEnd.intro F N [_] (by lcg_sub) off (Or.inr ⟨_, List.Mem.head _, rfl, _, rfl⟩) ⟨rfl, ?_⟩)
      rw [hs, List.filter_append]
      simp only [bne] at hb
      simp only [List.filter_cons, hb, if_true, List.filter_nil]
      exact hys.append' (.cons _ _ .nil)
    · rename (_ != _) = false => hb
      rename Fr _ _ _ _ => F
      rename News _ _ _ _ => N
      refine go (LCg.CompEnd.intro F N [_] (by lcg_sub) off (Or.inr ⟨_, List.Mem.head _, rfl, _, rfl⟩) ⟨rfl, ?_⟩)
      rw [hs, List.filter_append]
      simp only [bne] at hb
      simp only [List.filter_cons, hb, List.filter_nil, Bool.false_eq_true, if_false, List.append_nil]
      exact hys
  · rintro ys nx ⟨rfl, hys⟩
    rw [List.size_toArray, List.length_map, List.take_length] at hys
    k_steps
    rename News _ _ _ _ => N'
    exact ⟨ys, hys, _, _, rfl, (N' _ (List.Mem.head _)).2.2, (N' _ (List.Mem.head _)).1⟩
set_option maxHeartbeats 800000 in
theorem root_ok {w : World} {mean : ExcName → Option Value} {mg mb : Str → Option Value} (G : Gh) (O : G.Ok) (i : Nat) (hi : i < G.n) :
    Rd w mean mg mb 2 202 [G.ref i] (fun h => Forest w (inHeap h) G) (fun h v h' => v = .ref (G.ad (((G.anc i).getLast?).getD i))) := by
  w_top off
  refine Rd.enter (binds := [(Str.ofString "item", G.ref i)]) ?_
  rintro dp un gd outer A₀ base L g s₁ B F N X T hd hu hG
  k_fold
  have hz := anc_size G O hi
  have hz' : ((G.anc i).map G.ref).length ≤ 100000 := by rw [List.length_map]; omega
  unfold Gh.ref at F
  k_steps
  · rename List.isEmpty _ = true => he
    have he : G.anc i = [] := by simpa using he
    show Value.ref (G.ad i) = Value.ref (G.ad _)
    rw [he]
    rfl
  · rename List.isEmpty _ = false => he
    have he : G.anc i ≠ [] := by simpa using he
    rename News _ _ _ _ => N
    have e : ((G.anc i).map G.ref).getLast? = some (G.ref ((G.anc i).getLast he)) := by rw [List.getLast?_map, List.getLast?_eq_some_getLast he]; rfl
    with_unfolding_all refine item_last (LstAt.of_news N (List.Mem.tail _ (List.Mem.head _)) hz') rfl e ?_
    k_steps
    rw [List.getLast?_eq_some_getLast he]
    rfl
end
local macro_rules | `(tactic| walk_at "call ref") => `(tactic| (k_dflt (refine' Rd.use2 (by k_asm) (by k_asm) (by k_asm) (by k_asm) (by k_asm) (by exact rfl) (by walk_at "my cov") (by walk_at "my rm") (by walk_at "my rm") (by walk_at "my gf") ?_; k_whole); intro v' h' tk' F' N' st' hv'; first | subst hv' | (obtain ⟨t', hv'⟩ := hv'; subst hv')))
local macro_rules | `(tactic| walk_at "my cov") => `(tactic| exact root_ok _ (by assumption) _ (by assumption))
section
open PySem PySem.W PySem.Calls PySem.Spec PyProof.Rows
set_option maxRecDepth 100000
set_option linter.unusedVariables false
def IsStr (x : Str) (v : Value) : Prop := ∃ t, v = .str x t
def Gh.root (G : Gh) (i : Nat) : Nat := ((G.anc i).getLast?).getD i
def Gh.file (G : Gh) (i : Nat) : Str := if G.rm (G.root i) = 1 then Str.ofString "F" else if G.rm (G.root i) = 2 then Str.ofString "G" else Str.ofString ""
theorem dict_lt {w : World} {prog : Program} {h : Heap} {d : Addr} {kvs : List (Str × Value)} {ep : Nat} (x : h.DictAt (PySem.strKind prog w) d kvs ep) : d < h.objs.size :=
  let ⟨_, _, e, _⟩ := x; Heap.lt_size e
theorem dict_keeps {w : World} {prog : Program} {h h' : Heap} {d : Addr} {kvs : List (Str × Value)} {ep : Nat} (x : h.DictAt (PySem.strKind prog w) d kvs ep) (k : ∀ b o, h.get? b = some o → h'.get? b = some o) : h'.DictAt (PySem.strKind prog w) d kvs ep :=
  let ⟨o, es, e, r⟩ := x; ⟨o, es, k _ _ e, r⟩
theorem str_of_is {w : World} {prog : Program} {k : Str} {v : Value} (h : (PySem.strKind prog w).is k v = true) : ∃ t, v = .str k t := by
  cases v <;> simp [PySem.strKind, Value.isStrOf] at h
  exact ⟨_, by rw [h]⟩
theorem news_old {g h : Heap} {L d : Addr} {news : List (Addr × Obj)} (N : News g L h news) (x : d < g.objs.size) (hd : g.get? d ≠ none) : ∀ p ∈ news, p.1 ≠ d := fun p hp e => hd (e ▸ (N p hp).2.2)
theorem dict_some {w : World} {prog : Program} {h : Heap} {d : Addr} {kvs : List (Str × Value)} {ep : Nat} (x : h.DictAt (PySem.strKind prog w) d kvs ep) : h.get? d ≠ none :=
  let ⟨_, _, e, _⟩ := x; fun q => by rw [e] at q; cases q
theorem is_refs {M : Model} {A : Around} {E : Value → Shared → Prop} {s : Shared} {Q : Value → Shared → Prop} {x y : Addr} {ox oy : Obj} (hx : s.heap.get? x = some ox) (hy : s.heap.get? y = some oy) (hb : ox.cls ≠ Value.type "tuple") (hq : Q (.bool (decide (x = y))) s) :
    wpAny M A (compareOp .Is (.ref x) (.ref y)) Q E s := by
  by_cases h : x = y
  · subst h; exact wpAny_is_ref_self (by simpa using hq)
  · exact kto_is hx hy h hb (by simpa [h] using hq)
theorem Gh.root_lt (G : Gh) (O : G.Ok) {i : Nat} (hi : i < G.n) : G.root i < G.n := by
  unfold Gh.root
  cases e : (G.anc i).getLast? with
  | none => exact hi
  | some j => exact Nat.lt_trans (G.anc_lt O (i + 1) i (by omega) hi j (List.mem_of_getLast? e)) hi
theorem Gh.root_top (G : Gh) (O : G.Ok) : ∀ (k i : Nat), i < k → i < G.n → G.pa (G.root i) = none
  | 0, _, h, _ => absurd h (Nat.not_lt_zero _)
  | k + 1, i, h, hi => by
    cases e : G.pa i with
    | none =>
      have : G.anc i = [] := by rw [G.anc_eq O hi, e]
      have : G.root i = i := by unfold Gh.root; rw [this]; rfl
      rw [this, e]
    | some p =>
      have hp := O.par i hi p e
      have ha : G.anc i = p :: G.anc p := by rw [G.anc_eq O hi, e]
      have : G.root i = G.root p := by
        unfold Gh.root
        rw [ha, List.getLast?_cons]
        rfl
      rw [this]
      exact G.root_top O k p (by omega) (by omega)
theorem found_iff (G : Gh) (O : G.Ok) {i r : Nat} (hi : i < G.n) : (((G.roots r).filter fun j => decide (G.ad j = G.ad (G.root i))).map G.ref).isEmpty = !decide (G.rm (G.root i) = r) := by
  have hr := G.root_lt O hi
  have ht := G.root_top O (i + 1) i (by omega) hi
  rw [List.isEmpty_map]
  by_cases h : G.rm (G.root i) = r
  · have : G.root i ∈ (G.roots r).filter fun j => decide (G.ad j = G.ad (G.root i)) := by
      rw [List.mem_filter]
      refine ⟨?_, by simp⟩
      unfold Gh.roots
      simp [hr, ht, h]
    rw [show (!decide (G.rm (G.root i) = r)) = false by simp [h]]
    cases e : (G.roots r).filter fun j => decide (G.ad j = G.ad (G.root i)) with
    | nil => rw [e] at this; cases this
    | cons => rfl
  · rw [show (!decide (G.rm (G.root i) = r)) = true by simp [h], List.isEmpty_iff, List.filter_eq_nil_iff]
    intro j hj q
    obtain ⟨hjn, _, hjr⟩ := G.roots_lt hj
    have := O.inj j (G.root i) hjn hr (by simpa using q)
    exact h (this ▸ hjr)
set_option maxHeartbeats 800000 in
theorem file_ok {w : World} {mean : ExcName → Option Value} {mg mb : Str → Option Value} (G : Gh) (O : G.Ok) (i : Nat) (hi : i < G.n) :
    Rd w mean mg mb 3 212 [.ref G.d, G.ref i] (fun h => Forest w (inHeap h) G) (fun h v h' => IsStr (G.file i) v) := by
  w_top off
  refine Rd.enterC (binds := [(Str.ofString "data", .ref G.d), (Str.ofString "item", G.ref i)]) ?_
  rintro dp un gd outer A₀ base L g s₁ cells B F N Y X T hd hu hG
  k_fold
  k_cells Y
  have hD := hG.data
  unfold Gh.ref at F
  k_steps
  rename Fr _ _ _ _ => F
  rename News _ _ _ _ => N
  have hfiles := hG.files
  obtain ⟨ep, hfd⟩ := files_at hG.files
  refine go ?_
  (with_unfolding_all refine' For_invVF F ?k1 ?k2 ?_; (case k1 => exact rfl); (case k2 => exact rfl))
  k_steps
  refine go ?_
  have hfl := dict_lt hfd
  refine iterK [] (fun k vals nx => vals = [] ∧ nx = [_] ∧ (0 < k → G.rm (G.root i) ≠ 1) ∧ (1 < k → G.rm (G.root i) ≠ 2)) (by rfl) O.sys (dict_keeps hfd F.keep) ?_ ?_ F N ⟨rfl, rfl, fun h => absurd h (by decide), fun h => absurd h (by decide)⟩ ?_ ?_
  · exact old_ne F hfl
  · exact news_old N hfl (dict_some hfd)
  · rintro k key y v vals nx h tk own hkv hv hoff ⟨rfl, rfl, h1, h2⟩ F₁ N₁
    obtain ⟨t, rfl⟩ := str_of_is hv
    clear F N
    have hk2 : k < 2 := (List.getElem?_eq_some_iff.mp hkv).1
    have hr : (if key = Str.ofString "F" then some (Value.ref (G.room 1)) else if key = Str.ofString "G" then some (.ref (G.room 2)) else none) = some (.ref (G.room (k + 1))) ∧ (k = 0 ∧ key = Str.ofString "F" ∨ k = 1 ∧ key = Str.ofString "G") := by
      match k, hk2, hkv with
      | 0, _, hkv => simp only [List.getElem?_cons_zero, Option.some.injEq, Prod.mk.injEq] at hkv; obtain ⟨rfl, rfl⟩ := hkv; exact ⟨rfl, .inl ⟨rfl, rfl⟩⟩
      | 1, _, hkv => simp only [List.getElem?_cons_succ, List.getElem?_cons_zero, Option.some.injEq, Prod.mk.injEq] at hkv; obtain ⟨rfl, rfl⟩ := hkv; exact ⟨rfl, .inr ⟨rfl, rfl⟩⟩
    obtain ⟨hr, hcase⟩ := hr
    k_steps
    rename Fr _ _ _ _ => F
    rename News _ _ _ _ => N
    have hroom := hG.roomL O (r := k + 1) (by omega)
    have hsz : ((G.roots (k + 1)).map G.ref).length ≤ 100000 := hroom.len
    refine go (LCt.CompSrcT.base (by rfl) F N hroom.at_ (by rw [List.size_toArray, sizeLine_eq]; omega) fun g' => ?_)
    refine restT_inv (fun q ys nx => nx = [_] ++ own ∧ ys = (((G.roots (k + 1)).take q).filter fun j => decide (G.ad j = G.ad (G.root i))).map G.ref) ⟨rfl, rfl⟩ ?_ ?_
    · rintro q ys nx v I oI C oC D m₂ h tk E' hq ⟨rfl, hys⟩ hv hC hx F₁ N₁ off ne
      clear F N
      rw [List.size_toArray, List.length_map] at hq
      simp only [List.getElem?_toArray, List.getElem?_map, List.getElem?_eq_getElem hq, Option.map_some, Option.some.injEq] at hv
      subst hv
      unfold Gh.ref at hx
      dsimp only
      k_steps
      have hjn := (G.roots_lt (List.getElem_mem hq)).1
      have hI1 := hG.item _ hjn
      have hI2 := hG.item _ (G.root_lt O hi)
      have hs : (((G.roots (k + 1)).take (q + 1)).filter fun j => decide (G.ad j = G.ad (G.root i))).map G.ref = (((G.roots (k + 1)).take q).filter fun j => decide (G.ad j = G.ad (G.root i))).map G.ref ++ (if G.ad (G.roots (k + 1))[q] = G.ad (G.root i) then [G.ref (G.roots (k + 1))[q]] else []) := by
        rw [List.take_add_one, List.getElem?_eq_getElem hq, List.filter_append, List.map_append]
        congr 1
        simp only [Option.toList_some, List.filter_cons, List.filter_nil, decide_eq_true_eq]
        split <;> rfl
      refine is_refs (hI1.keeps F₁.keep).inst (hI2.keeps F₁.keep).inst (by intro e; cases e) ?_
      by_cases he : G.ad (G.roots (k + 1))[q] = G.ad (G.root i)
      · rw [show (decide (G.ad (G.roots (k + 1))[q] = G.ad ((G.anc i).getLast?.getD i))) = true from decide_eq_true he]
        k_steps
        refine go (LCg.CompEnd.intro F₁ N₁ ([_] ++ own) (fun p hp => by simpa using hp) off (Or.inl hroom.at_) ⟨rfl, ?_⟩)
        rw [hs, if_pos he, hys]
        rfl
      · rw [show (decide (G.ad (G.roots (k + 1))[q] = G.ad ((G.anc i).getLast?.getD i))) = false from decide_eq_false he]
        k_steps
        refine go (LCg.CompEnd.intro F₁ N₁ ([_] ++ own) (fun p hp => by simpa using hp) off (Or.inl hroom.at_) ⟨rfl, ?_⟩)
        rw [hs, if_neg he, hys, List.append_nil]
    · rintro ys nx ⟨rfl, hys⟩
      rw [List.size_toArray, List.length_map, List.take_length] at hys
      have hys' : ys.length ≤ 100000 := by
        rw [hys, List.length_map]
        refine Nat.le_trans (List.length_filter_le _ _) ?_
        rw [List.length_map] at hsz
        exact hsz
      have hfi := found_iff G O (r := k + 1) hi
      rw [← hys] at hfi
      k_steps
      · rename List.isEmpty _ = true => he
        rename Fr _ _ _ _ => F
        rename News _ _ _ _ => N
        rw [he] at hfi
        have hne : G.rm (G.root i) ≠ k + 1 := by simpa using hfi
        refine EndV.intro [_] F N (by intro p hp; rw [List.mem_singleton] at hp; subst hp; simp) (by intro p hp; simp [hp]) hoff ⟨rfl, rfl, ?_, ?_⟩ ?_
        · intro _; rcases hcase with ⟨rfl, _⟩ | ⟨rfl, _⟩
          · exact hne
          · exact h1 (by decide)
        · intro h; rcases hcase with ⟨rfl, _⟩ | ⟨rfl, _⟩
          · omega
          · exact hne
        · intro z hz; simp only [NotIn] at hz; simp [hz, put]
      · rename List.isEmpty _ = false => he
        rw [he] at hfi
        have hre : G.rm (G.root i) = k + 1 := by simpa using hfi
        show IsStr (G.file i) _
        refine ⟨t, ?_⟩
        unfold Gh.file
        rcases hcase with ⟨rfl, rfl⟩ | ⟨rfl, rfl⟩
        · rw [if_pos hre]
        · rw [if_neg (by rw [hre]; decide), if_pos hre]
  · rintro u vals nx h tk ⟨rfl, rfl, h1, h2⟩ F₁ N₁
    clear F N
    k_steps
    show IsStr (G.file i) _
    have e : G.file i = Str.ofString "" := by
      unfold Gh.file
      rw [if_neg (h1 (Nat.succ_pos _)), if_neg (h2 (Nat.lt_succ_self _))]
    rw [e]
    exact ⟨_, rfl⟩
end
section
open PySem PySem.W PySem.Calls PySem.Spec PyProof.Rows
set_option linter.unusedVariables false
set_option maxRecDepth 100000
theorem news_tail {g h : Heap} {L : Addr} {p : Addr × Obj} {r : List (Addr × Obj)} (N : News g L h (p :: r)) : News g L h r := fun q hq => N q (List.mem_cons_of_mem _ hq)
theorem news_any {g h : Heap} {L l : Addr} {xs : List Value} {n : Nat} {r : List (Addr × Obj)} (N : News g L h ((l, lstO xs n) :: r)) : ∃ n', News g L h ((l, lstO xs n') :: r) := ⟨n, N⟩
theorem off_at {own nx : List (Addr × Obj)} {d : Addr} {o : Obj} (h : OffL own nx) (m : (d, o) ∈ nx) : ∀ p ∈ own, p.1 ≠ d := fun p hp => h p hp _ m
section
variable {prog : Program} {w : World} {A : Around} {E : Value → Shared → Prop} {s : Shared} {h₀ : Heap} {L D b : Addr} {m : Str → Option Value} {news : List (Addr × Obj)}
theorem extend_any {news' : Nat → List (Addr × Obj)} {vs ws : List Value} {n c : Nat} {Q : Value → Shared → Prop} (F : Fr h₀ L s.heap m) (N : News h₀ L s.heap news) (hb : s.heap.get? b = some (lstO ws c))
    (U : ∀ n', Upd D (lstO vs n) (lstO (vs ++ ws) n') news (news' n')) (hl : vs.length + ws.length ≤ 100000)
    (h : ∀ h' n', Fr h₀ L h' m → News h₀ L h' (news' n') → Q .none { s with heap := h' }) : wpAny (model prog w) A (call (.builtin "list.extend") [.ref D, .ref b]) Q E s := by
  have hsz : ¬(!vs.toArray.isEmpty && Builtin.List.listTooLong (vs.toArray.size + ws.toArray.size)) = true := by
    have : Builtin.List.listTooLong (vs.toArray.size + ws.toArray.size) = false := by
      unfold Builtin.List.listTooLong
      rw [sizeLine_eq]
      simp only [List.size_toArray, decide_eq_false_iff_not, gt_iff_lt]
      omega
    rw [this, Bool.and_false]
    decide
  have hz : vs.toArray.toList.length ≤ sizeLine := by rw [sizeLine_eq]; show vs.length ≤ _; omega
  have hz2 : vs.toArray.size + ws.toArray.size ≤ sizeLine + 1 := by rw [sizeLine_eq]; simp only [List.size_toArray]; omega
  cases ws with
  | nil =>
    obtain ⟨pre, post, hpr, hpo, a, c⟩ := (U n).split
    rw [hpr] at N
    have z := N (D, lstO vs n) (List.mem_append.mpr (.inr (.head _)))
    exact call_meets PySem.F.slot_list_extend ⟨_, z.1, rfl⟩ PySem.F.entry_list_extend (PySem.F.args_list_extend_2 _ _) (PySem.AutoSeq1.list_extend_list_list_0 D vs.toArray n b _ _ hsz (by simpa using hz) hz2)
      ⟨z.1, hb, h _ n (F.change (Heap.SameBut.update ..) z.2.1 z.2.2) (hpo ▸ kl_turn0 (fun x => x ++ _) N a c (by simp) (by simp))⟩
  | cons v r =>
    obtain ⟨pre, post, hpr, hpo, a, c⟩ := (U (n + 1)).split
    rw [hpr] at N
    have z := N (D, lstO vs n) (List.mem_append.mpr (.inr (.head _)))
    exact call_meets PySem.F.slot_list_extend ⟨_, z.1, rfl⟩ PySem.F.entry_list_extend (PySem.F.args_list_extend_2 _ _) (PySem.AutoSeq1.list_extend_list_list_0 D vs.toArray n b _ _ hsz (by simpa using hz) hz2)
      ⟨z.1, hb, h _ (n + 1) (F.change (Heap.SameBut.update ..) z.2.1 z.2.2) (hpo ▸ kl_turn (fun x => x ++ _) N a c (by simp) (by simp))⟩
theorem add_any {vs ws : List Value} {Q : Value → Shared → Prop} {l : Addr} (F : Fr h₀ L s.heap m) (N : News h₀ L s.heap news) (ha : LstAt s.heap l vs) (hb : LstAt s.heap b ws)
    (h : ∀ D h', Fr h₀ L h' m → News h₀ L h' ((D, lstO (vs ++ ws) 0) :: news) → (∀ p ∈ news, p.1 < D) → Q (.ref D) { s with heap := h' }) : wpAny (model prog w) A (binaryOp .Add (.ref l) (.ref b)) Q E s :=
  add_lists F N ha.at_ hb.at_ (fun h' F' N' => h _ h' F' N' fun p hp => Heap.lt_size (N p hp).1) (by have := ha.len; have := hb.len; rw [sizeLine_eq]; omega)
theorem last_snoc : ∀ (vs : List Value) (y : Value), kl_last (vs ++ [y]) = some (vs, y)
  | [], y => rfl
  | x :: r, y => by
    show (match kl_last (r ++ [y]) with | some (p, y) => some (x :: p, y) | none => some ([], x)) = _
    rw [last_snoc r y]
theorem pop_any {news' : List (Addr × Obj)} {vs : List Value} {y : Value} {n : Nat} {Q : Value → Shared → Prop} (F : Fr h₀ L s.heap m) (N : News h₀ L s.heap news) (U : Upd D (lstO (vs ++ [y]) n) (lstO vs (n + 1)) news news')
    (hz : (vs ++ [y]).length ≤ 100000) (h : ∀ h', Fr h₀ L h' m → News h₀ L h' news' → Q y { s with heap := h' }) : wpAny (model prog w) A (call (.builtin "list.pop") [.ref D]) Q E s :=
  kl_pop F N (its := (vs ++ [y]).toArray) (last_snoc vs y) U (by rw [sizeLine_eq]; show (vs ++ [y]).length ≤ _; omega) h
theorem rev_any {value slice : PySem.Expr} {l : Addr} {vs ops : List Value} {vk : Value} {Q : Value → Shared → Prop} (F : Fr h₀ L s.heap m) (N : News h₀ L s.heap news) (hl : LstAt s.heap l vs) (pk : IsPart vk (some (-1)))
    (h : ∀ D h', Fr h₀ L h' m → News h₀ L h' ((D, lstO vs.reverse 0) :: news) → (∀ p ∈ news, p.1 < D) → Q (.ref D) { s with heap := h' })
    (hs : subscripted slice false (.ref l) (.ref s.heap.objs.size) = operate ops (getItem (.ref l) (.ref s.heap.objs.size))) (ht : ∀ r, letTemporaryGo value (.ref l) r = pure ()) :
    wpAny (model prog w) A (subscriptTail value slice (.ref l) (.ref s.heap.objs.size)) Q E { s with heap := s.heap.push { cls := .type "slice", data := .fields #[.none, .none, vk] } } :=
  krv_lit (its := vs.toArray) (zs := vs.reverse) F N hl.at_ pk rfl h hs ht (by have := hl.len; rw [List.size_toArray, sizeLine_eq]; omega)
end
end
section
open PySem PySem.W PySem.Calls PySem.Spec PyProof.Rows
set_option linter.unusedVariables false
def Gh.underF (G : Gh) : Nat → Nat → List Nat
  | 0, _ => []
  | f + 1, i => i :: (G.kids i).flatMap (G.underF f)
def Gh.under (G : Gh) (i : Nat) : List Nat := G.underF (G.n - i) i
theorem flatMap_congr {α β : Type} {l : List α} {f g : α → List β} (h : ∀ a ∈ l, f a = g a) : l.flatMap f = l.flatMap g := by
  rw [List.flatMap_def, List.flatMap_def, List.map_congr_left h]
theorem Gh.kids_gt (G : Gh) (O : G.Ok) {i j : Nat} (h : j ∈ G.kids i) : i < j := O.par j (G.kids_lt h).1 i (G.kids_lt h).2
theorem Gh.underF_eq (G : Gh) (O : G.Ok) : ∀ (f f' i : Nat), i < G.n → G.n - i ≤ f → G.n - i ≤ f' → G.underF f i = G.underF f' i
  | 0, _, _, h, a, _ => by omega
  | _ + 1, 0, _, h, _, b => by omega
  | f + 1, f' + 1, i, h, a, b => by
    show i :: _ = i :: _
    refine congrArg (List.cons i) (flatMap_congr fun j hj => ?_)
    have h1 := G.kids_gt O hj
    have h2 := (G.kids_lt hj).1
    exact G.underF_eq O f f' j h2 (by omega) (by omega)
theorem Gh.under_eq (G : Gh) (O : G.Ok) {i : Nat} (hi : i < G.n) : G.under i = i :: (G.kids i).flatMap G.under := by
  unfold Gh.under
  obtain ⟨f, e⟩ : ∃ f, G.n - i = f + 1 := ⟨G.n - i - 1, by omega⟩
  rw [e]
  show i :: _ = i :: _
  refine congrArg (List.cons i) (flatMap_congr fun j hj => ?_)
  have h1 := G.kids_gt O hj
  have h2 := (G.kids_lt hj).1
  exact G.underF_eq O _ _ j h2 (by omega) (by omega)
def Gh.chain (G : Gh) (j : Nat) : List Nat := j :: G.anc j
theorem Gh.anc_some (G : Gh) (O : G.Ok) {j p : Nat} (hj : j < G.n) (e : G.pa j = some p) : G.anc j = G.chain p := by rw [G.anc_eq O hj, e]; rfl
theorem Gh.anc_none (G : Gh) (O : G.Ok) {j : Nat} (hj : j < G.n) (e : G.pa j = none) : G.anc j = [] := by rw [G.anc_eq O hj, e]
theorem Gh.chain_le (G : Gh) (O : G.Ok) {j k : Nat} (hj : j < G.n) (h : k ∈ G.chain j) : k ≤ j := by
  rcases List.mem_cons.mp h with rfl | h
  · exact Nat.le_refl _
  · exact Nat.le_of_lt (G.anc_lt O (j + 1) j (by omega) hj k h)
theorem Gh.chain_up (G : Gh) (O : G.Ok) : ∀ (b j : Nat), j < b → j < G.n → ∀ k i, k ∈ G.chain j → G.pa k = some i → i ∈ G.anc j
  | 0, _, h, _, _, _, _, _ => absurd h (Nat.not_lt_zero _)
  | b + 1, j, h, hj, k, i, hk, e => by
    rcases List.mem_cons.mp hk with rfl | hk
    · rw [G.anc_some O hj e]; exact List.mem_cons_self
    · cases q : G.pa j with
      | none => rw [G.anc_none O hj q] at hk; cases hk
      | some p =>
        have hp := O.par j hj p q
        rw [G.anc_some O hj q] at hk ⊢
        exact List.mem_cons_of_mem _ (G.chain_up O b p (by omega) (by omega) k i hk e)
theorem Gh.chain_down (G : Gh) (O : G.Ok) : ∀ (b j : Nat), j < b → j < G.n → ∀ i, i ∈ G.anc j → ∃ k, k ∈ G.chain j ∧ G.pa k = some i
  | 0, _, h, _, _, _ => absurd h (Nat.not_lt_zero _)
  | b + 1, j, h, hj, i, hi => by
    cases q : G.pa j with
    | none => rw [G.anc_none O hj q] at hi; cases hi
    | some p =>
      have hp := O.par j hj p q
      have ea := G.anc_some O hj q
      rw [ea] at hi
      rcases List.mem_cons.mp hi with rfl | hi
      · exact ⟨j, List.mem_cons_self, q⟩
      · obtain ⟨k, hk, e⟩ := G.chain_down O b p (by omega) (by omega) i hi
        exact ⟨k, by unfold Gh.chain; rw [ea]; exact List.mem_cons_of_mem _ hk, e⟩
theorem Gh.chain_one (G : Gh) (O : G.Ok) : ∀ (b j : Nat), j < b → j < G.n → ∀ k₁ k₂, k₁ ∈ G.chain j → k₂ ∈ G.chain j → G.pa k₁ = G.pa k₂ → k₁ = k₂
  | 0, _, h, _, _, _, _, _, _ => absurd h (Nat.not_lt_zero _)
  | b + 1, j, h, hj, k₁, k₂, h₁, h₂, e => by
    have key : ∀ k, k ∈ G.anc j → G.pa j = G.pa k → False := by
      intro k hk e
      cases q : G.pa j with
      | none => rw [G.anc_none O hj q] at hk; cases hk
      | some p =>
        have hp := O.par j hj p q
        rw [G.anc_some O hj q] at hk
        have hl := G.chain_le O (by omega) hk
        have := O.par k (by omega) p (by rw [← e, q])
        omega
    rcases List.mem_cons.mp h₁ with rfl | h₁ <;> rcases List.mem_cons.mp h₂ with rfl | h₂
    · rfl
    · exact (key _ h₂ e).elim
    · exact (key _ h₁ e.symm).elim
    · cases q : G.pa j with
      | none => rw [G.anc_none O hj q] at h₁; cases h₁
      | some p =>
        have hp := O.par j hj p q
        rw [G.anc_some O hj q] at h₁ h₂
        exact G.chain_one O b p (by omega) (by omega) k₁ k₂ h₁ h₂ e
theorem Gh.mem_under (G : Gh) (O : G.Ok) : ∀ (b i : Nat), G.n - i < b → i < G.n → ∀ j, j ∈ G.under i ↔ j < G.n ∧ i ∈ G.chain j
  | 0, _, h, _, _ => absurd h (Nat.not_lt_zero _)
  | b + 1, i, h, hi, j => by
    rw [G.under_eq O hi, List.mem_cons, List.mem_flatMap]
    constructor
    · rintro (rfl | ⟨k, hk, hj⟩)
      · exact ⟨hi, List.mem_cons_self⟩
      · have h1 := G.kids_gt O hk
        obtain ⟨h2, h3⟩ := G.kids_lt hk
        obtain ⟨h4, h5⟩ := (G.mem_under O b k (by omega) h2 j).mp hj
        exact ⟨h4, List.mem_cons_of_mem _ (G.chain_up O (j + 1) j (by omega) h4 k i h5 h3)⟩
    · rintro ⟨hj, hc⟩
      rcases List.mem_cons.mp hc with rfl | hc
      · exact .inl rfl
      · obtain ⟨k, hk, e⟩ := G.chain_down O (j + 1) j (by omega) hj i hc
        have hkn : k < G.n := Nat.lt_of_le_of_lt (G.chain_le O hj hk) hj
        have hik := O.par k hkn i e
        refine .inr ⟨k, ?_, (G.mem_under O b k (by omega) hkn j).mpr ⟨hj, hk⟩⟩
        unfold Gh.kids
        simp [hkn, e]
theorem nodup_filter {α : Type} {l : List α} (p : α → Bool) (h : l.Nodup) : (l.filter p).Nodup := h.sublist List.filter_sublist
theorem Gh.kids_nodup (G : Gh) (i : Nat) : (G.kids i).Nodup := nodup_filter _ List.nodup_range
theorem Gh.roots_nodup (G : Gh) (i : Nat) : (G.roots i).Nodup := nodup_filter _ List.nodup_range
theorem pair_mem {α : Type} {R S : α → α → Prop} : ∀ {l : List α}, l.Pairwise R → (∀ a ∈ l, ∀ b ∈ l, R a b → S a b) → l.Pairwise S
  | [], _, _ => .nil
  | a :: l, h, k => by
    rw [List.pairwise_cons] at h ⊢
    exact ⟨fun b hb => k a List.mem_cons_self b (List.mem_cons_of_mem _ hb) (h.1 b hb), pair_mem h.2 fun x hx y hy => k x (List.mem_cons_of_mem _ hx) y (List.mem_cons_of_mem _ hy)⟩
theorem Gh.under_apart (G : Gh) (O : G.Ok) {k₁ k₂ : Nat} (h₁ : k₁ < G.n) (h₂ : k₂ < G.n) (e : G.pa k₁ = G.pa k₂) (ne : k₁ ≠ k₂) : ∀ x ∈ G.under k₁, ∀ y ∈ G.under k₂, x ≠ y := by
  rintro x hx y hy rfl
  obtain ⟨a, b⟩ := (G.mem_under O _ k₁ (Nat.lt_succ_self _) h₁ x).mp hx
  obtain ⟨_, c⟩ := (G.mem_under O _ k₂ (Nat.lt_succ_self _) h₂ x).mp hy
  exact ne (G.chain_one O _ x (Nat.lt_succ_self _) a k₁ k₂ b c e)
theorem Gh.under_nodup (G : Gh) (O : G.Ok) : ∀ (b i : Nat), G.n - i < b → i < G.n → (G.under i).Nodup
  | 0, _, h, _ => absurd h (Nat.not_lt_zero _)
  | b + 1, i, h, hi => by
    rw [G.under_eq O hi, List.nodup_cons]
    refine ⟨fun q => ?_, List.pairwise_flatMap.mpr ⟨fun k hk => ?_, pair_mem (G.kids_nodup i) fun k₁ h₁ k₂ h₂ ne => ?_⟩⟩
    · obtain ⟨k, hk, hj⟩ := List.mem_flatMap.mp q
      have h1 := G.kids_gt O hk
      obtain ⟨h2, h3⟩ := G.kids_lt hk
      have := G.chain_le O hi ((G.mem_under O _ k (Nat.lt_succ_self _) h2 i).mp hj).2
      omega
    · have h1 := G.kids_gt O hk
      exact G.under_nodup O b k (by omega) (G.kids_lt hk).1
    · exact G.under_apart O (G.kids_lt h₁).1 (G.kids_lt h₂).1 ((G.kids_lt h₁).2.trans (G.kids_lt h₂).2.symm) ne
def Gh.recs (G : Gh) : List Nat := G.roots 1 ++ G.roots 2 ++ G.roots 0 ++ G.roots 3
def Gh.all (G : Gh) : List Nat := G.recs.flatMap G.under
theorem Gh.recs_mem (G : Gh) {j : Nat} (h : j ∈ G.recs) : j < G.n ∧ G.pa j = none := by
  unfold Gh.recs at h
  simp only [List.mem_append] at h
  rcases h with ((h | h) | h) | h <;> exact ⟨(G.roots_lt h).1, (G.roots_lt h).2.1⟩
theorem Gh.recs_nodup (G : Gh) : G.recs.Nodup := by
  have key : ∀ r r' j, r ≠ r' → j ∈ G.roots r → j ∈ G.roots r' → False := fun r r' j ne a b => ne ((G.roots_lt a).2.2.symm.trans (G.roots_lt b).2.2)
  unfold Gh.recs
  simp only [List.nodup_append, List.mem_append]
  refine ⟨⟨⟨G.roots_nodup 1, G.roots_nodup 2, ?_⟩, G.roots_nodup 0, ?_⟩, G.roots_nodup 3, ?_⟩
  · rintro a h1 b h2 rfl; exact key 1 2 a (by decide) h1 h2
  · rintro a (h1 | h1) b h2 rfl
    · exact key 1 0 a (by decide) h1 h2
    · exact key 2 0 a (by decide) h1 h2
  · rintro a ((h1 | h1) | h1) b h2 rfl
    · exact key 1 3 a (by decide) h1 h2
    · exact key 2 3 a (by decide) h1 h2
    · exact key 0 3 a (by decide) h1 h2
theorem Gh.top_of (G : Gh) (O : G.Ok) : ∀ (b j : Nat), j < b → j < G.n → ∃ k, k ∈ G.chain j ∧ G.pa k = none
  | 0, _, h, _ => absurd h (Nat.not_lt_zero _)
  | b + 1, j, h, hj => by
    cases q : G.pa j with
    | none => exact ⟨j, List.mem_cons_self, q⟩
    | some p =>
      have hp := O.par j hj p q
      obtain ⟨k, hk, e⟩ := G.top_of O b p (by omega) (by omega)
      exact ⟨k, by unfold Gh.chain; rw [G.anc_some O hj q]; exact List.mem_cons_of_mem _ hk, e⟩
theorem Gh.all_perm (G : Gh) (O : G.Ok) : G.all.Perm (List.range G.n) := by
  refine (List.perm_ext_iff_of_nodup ?_ List.nodup_range).mpr fun j => ?_
  · refine List.pairwise_flatMap.mpr ⟨fun k hk => G.under_nodup O _ k (Nat.lt_succ_self _) (G.recs_mem hk).1, pair_mem G.recs_nodup fun k₁ h₁ k₂ h₂ ne => ?_⟩
    exact G.under_apart O (G.recs_mem h₁).1 (G.recs_mem h₂).1 ((G.recs_mem h₁).2.trans (G.recs_mem h₂).2.symm) ne
  · unfold Gh.all
    rw [List.mem_flatMap, List.mem_range]
    constructor
    · rintro ⟨k, hk, hj⟩
      exact ((G.mem_under O _ k (Nat.lt_succ_self _) (G.recs_mem hk).1 j).mp hj).1
    · intro hj
      obtain ⟨k, hk, e⟩ := G.top_of O _ j (Nat.lt_succ_self _) hj
      have hkn : k < G.n := Nat.lt_of_le_of_lt (G.chain_le O hj hk) hj
      refine ⟨k, ?_, (G.mem_under O _ k (Nat.lt_succ_self _) hkn j).mpr ⟨hj, hk⟩⟩
      have hr := O.room k hkn
      have : ∀ r, G.rm k = r → k ∈ G.roots r := fun r q => by unfold Gh.roots; simp [hkn, e, q]
      unfold Gh.recs
      simp only [List.mem_append]
      match q : G.rm k, hr with
      | 0, _ => exact .inl (.inr (this 0 q))
      | 1, _ => exact .inl (.inl (.inl (this 1 q)))
      | 2, _ => exact .inl (.inl (.inr (this 2 q)))
      | 3, _ => exact .inr (this 3 q)
theorem Gh.all_lt (G : Gh) (O : G.Ok) {j : Nat} (h : j ∈ G.all) : j < G.n := List.mem_range.mp ((G.all_perm O).mem_iff.mp h)
theorem Gh.all_len (G : Gh) (O : G.Ok) : G.all.length = G.n := by rw [(G.all_perm O).length_eq, List.length_range]
theorem Gh.under_len (G : Gh) (O : G.Ok) {i : Nat} (hi : i < G.n) : (G.under i).length ≤ G.n := by
  have hp : (G.under i).Perm ((List.range G.n).filter fun j => decide (i ∈ G.chain j)) := by
    refine (List.perm_ext_iff_of_nodup (G.under_nodup O _ i (Nat.lt_succ_self _) hi) (nodup_filter _ List.nodup_range)).mpr fun j => ?_
    rw [G.mem_under O _ i (Nat.lt_succ_self _) hi, List.mem_filter, List.mem_range, decide_eq_true_iff]
  rw [hp.length_eq]
  exact Nat.le_trans (List.length_filter_le _ _) (by rw [List.length_range]; exact Nat.le_refl _)
end
local macro_rules | `(tactic| walk_at "call builtin:list.extend") => `(tactic| (k_dflt (refine' extend_any ?F ?N ?b ?U ?z ?_; (case F => k_asm); (case N => k_asm); (case b => first | exact (News.get (by k_asm) (by k_mem)) | exact Fr.keep (by k_asm) _ _ (by assumption)); (case U => intro _; walk_at "my upd"); (case z => first | assumption | omega); k_whole); intro h' n' F' N'; (try k_sweep)))
local macro_rules | `(tactic| walk_at "binaryOp Add ref ref") => `(tactic| (k_dflt (refine' add_any (by k_asm) (by k_asm) (by walk_at "my lst") (by walk_at "my lst") ?_; k_whole); intro D' h' F' N' l1; (try k_lt l1); (try k_sweep)))
local macro_rules | `(tactic| walk_at "my all") => `(tactic| first | exact List.forall_mem_nil _ | (refine' List.forall_mem_cons.mpr ⟨?a, ?b⟩; (case a => walk_at "my ne"); (case b => walk_at "my all")) | exact off_at (by assumption) (by k_mem))
local macro_rules | `(tactic| walk_at "call builtin:list.pop") => `(tactic| (k_dflt (refine' pop_any ?F ?N ?U ?z ?_; (case F => k_asm); (case N => k_asm); (case U => walk_at "my upd"); (case z => first | assumption | omega); k_whole); intro h' F' N'; (try k_sweep)))
local macro_rules | `(tactic| walk_at "subscriptTail Name Slice ref ref") => `(tactic| (k_here; (with_reducible show wpAny _ _ (subscriptTail _ (PySem.Expr.Slice none none (some _) _) (Value.ref _) (Value.ref _)) _ _ _); k_dflt (refine' rev_any ?F ?N ?l ?k ?_ ?s ?t; (case F => k_asm); (case N => k_asm); (case l => walk_at "my lst"); (case k => exact IsPart.int _ _); (case s => with_unfolding_all rfl); (case t => kmk_pure)); intro D' h' F' N' l1; (try k_lt l1); (try k_sweep)))
section
open PySem PySem.W PySem.Calls PySem.Spec PyProof.Rows
set_option maxRecDepth 100000
set_option linter.unusedVariables false
local macro_rules | `(tactic| walk_at "my con") => `(tactic| exact records_ok _ (by assumption))
local macro_rules | `(tactic| walk_at "my con") => `(tactic| exact records_ok _ (by assumption))
local macro_rules | `(tactic| walk_at "my con") => `(tactic| exact records_ok _ (by assumption))
local macro_rules | `(tactic| walk_at "my con") => `(tactic| exact records_ok _ (by assumption))
set_option maxHeartbeats 800000 in
theorem records_ok {w : World} {mean : ExcName → Option Value} {mg mb : Str → Option Value} (G : Gh) (O : G.Ok) :
    Rd w mean mg mb 1 174 [.ref G.d] (fun h => Forest w (inHeap h) G) (GivesList (G.recs.map G.ref)) := by
  w_top off
  refine Rd.enter (binds := [(Str.ofString "data", .ref G.d)]) ?_
  rintro dp un gd outer A₀ base L g s₁ B F N X T hd hu hG
  k_fold
  have hD := hG.data
  have hfiles := hG.files
  obtain ⟨ep, hfd⟩ := files_at hG.files
  have hfl := dict_lt hfd
  k_steps
  rename Fr _ _ _ _ => F
  rename News _ _ _ _ => N
  refine go ?_
  (with_unfolding_all refine' For_invVF F ?k1 ?k2 ?_; (case k1 => exact rfl); (case k2 => exact rfl))
  k_steps
  refine go ?_
  refine iterK [Str.ofString "found"] (fun k vals nx => ∃ r c, vals = [some (.ref r)] ∧ nx = [(r, lstO ((if k = 0 then [] else if k = 1 then G.roots 1 else G.roots 1 ++ G.roots 2).map G.ref) c)]) (by rfl) O.sys (dict_keeps hfd F.keep) (old_ne F hfl) (news_old N hfl (dict_some hfd)) F N ⟨_, 0, by with_unfolding_all rfl, rfl⟩ ?_ ?_
  · rintro k key y v vals nx h tk own hkv hv hoff ⟨r, c, rfl, rfl⟩ F₁ N₁
    obtain ⟨t, rfl⟩ := str_of_is hv
    clear F N
    have hk2 : k < 2 := (List.getElem?_eq_some_iff.mp hkv).1
    have hr : (if key = Str.ofString "F" then some (Value.ref (G.room 1)) else if key = Str.ofString "G" then some (.ref (G.room 2)) else none) = some (.ref (G.room (k + 1))) := by
      match k, hk2, hkv with
      | 0, _, hkv => simp only [List.getElem?_cons_zero, Option.some.injEq, Prod.mk.injEq] at hkv; obtain ⟨rfl, rfl⟩ := hkv; exact rfl
      | 1, _, hkv => simp only [List.getElem?_cons_succ, List.getElem?_cons_zero, Option.some.injEq, Prod.mk.injEq] at hkv; obtain ⟨rfl, rfl⟩ := hkv; exact rfl
    obtain ⟨c', hroom⟩ := hG.rooms (k + 1) (by omega)
    have hl : ((if k = 0 then [] else if k = 1 then G.roots 1 else G.roots 1 ++ G.roots 2).map G.ref).length + ((G.roots (k + 1)).map G.ref).length ≤ 100000 := by
      have q1 := G.roots_len 1
      have q2 := G.roots_len 2
      have q3 := G.roots_len (k + 1)
      have := O.few
      rw [List.length_map, List.length_map]
      split
      · simp only [List.length_nil]; omega
      · split
        · omega
        · rw [List.length_append]; omega
    k_steps
    rename Fr _ _ _ _ => F
    rename News _ _ _ _ => N
    have e : (if k = 0 then [] else if k = 1 then G.roots 1 else G.roots 1 ++ G.roots 2).map G.ref ++ (G.roots (k + 1)).map G.ref = (if k + 1 = 0 then [] else if k + 1 = 1 then G.roots 1 else G.roots 1 ++ G.roots 2).map G.ref := by
      match k, hk2 with
      | 0, _ => rfl
      | 1, _ => rw [← List.map_append]; rfl
    rw [e] at N
    obtain ⟨n', N⟩ : ∃ n', News g _ _ ((r, lstO ((if k + 1 = 0 then [] else if k + 1 = 1 then G.roots 1 else G.roots 1 ++ G.roots 2).map G.ref) n') :: own) := ⟨_, N⟩
    refine EndV.intro [(r, lstO ((if k + 1 = 0 then [] else if k + 1 = 1 then G.roots 1 else G.roots 1 ++ G.roots 2).map G.ref) n')] F N (fun p hp => by rw [List.mem_singleton] at hp; subst hp; exact List.Mem.head _) (fun p hp => List.mem_cons_of_mem _ hp) (fun p hp q hq => by rw [List.mem_singleton] at hq; subst hq; exact off_at hoff (List.Mem.head _) p hp) ⟨r, n', rfl, rfl⟩ ?_
    · intro z hz; simp only [NotIn] at hz; simp [hz, put]
  · rintro u vals nx h tk ⟨r, c, rfl, rfl⟩ F₁ N₁
    clear F N
    have N₁ : News g L h [(r, lstO ((G.roots 1 ++ G.roots 2).map G.ref) c)] := N₁
    have h0 := hG.roomL O (r := 0) (by omega)
    have h3 := hG.roomL O (r := 3) (by omega)
    have q0 := G.roots_len 0
    have q1 := G.roots_len 1
    have q2 := G.roots_len 2
    have q3 := G.roots_len 3
    have q9 := O.few
    have z1 : ((G.roots 1 ++ G.roots 2).map G.ref).length ≤ 100000 := by rw [List.length_map, List.length_append]; omega
    have z2 : ((G.roots 1 ++ G.roots 2).map G.ref ++ (G.roots 0).map G.ref).length ≤ 100000 := by rw [List.length_append, List.length_map, List.length_map, List.length_append]; omega
    k_steps
    rename News _ _ _ _ => N
    exact ⟨_, 0, rfl, (N _ (List.Mem.head _)).2.2, by have := (N _ (List.Mem.head _)).1; simp only [Gh.recs, List.map_append] at this ⊢; exact this⟩
end
local macro_rules | `(tactic| walk_at "my con") => `(tactic| exact records_ok _ (by assumption))
section
open PySem PySem.W PySem.Calls PySem.Spec PyProof.Rows
set_option maxRecDepth 100000
set_option linter.unusedVariables false
local macro_rules | `(tactic| walk_at "my con") => `(tactic| exact under_ok _ (by assumption) _ (by assumption))
local macro_rules | `(tactic| walk_at "my con") => `(tactic| exact under_ok _ (by assumption) _ (by assumption))
local macro_rules | `(tactic| walk_at "my con") => `(tactic| exact under_ok _ (by assumption) _ (by assumption))
local macro_rules | `(tactic| walk_at "my con") => `(tactic| exact under_ok _ (by assumption) _ (by assumption))
set_option maxHeartbeats 800000 in
theorem under_ok {w : World} {mean : ExcName → Option Value} {mg mb : Str → Option Value} (G : Gh) (O : G.Ok) (i : Nat) (hi : i < G.n) :
    Rd w mean mg mb 1 181 [G.ref i] (fun h => Forest w (inHeap h) G) (GivesList ((G.under i).map G.ref)) := by
  w_top off
  refine Rd.enter (binds := [(Str.ofString "item", G.ref i)]) ?_
  rintro dp un gd outer A₀ base L g s₁ B F N X T hd hu hG
  k_fold
  unfold Gh.ref at F
  k_steps
  rename Fr _ _ _ _ => F
  rename News _ _ _ _ => N
  rename _ < _ => hlt
  refine go ?_
  refine whileV [Str.ofString "found", Str.ofString "line", Str.ofString "one"] (fun k vals nx => ∃ (pre st : List Nat) (c₁ c₂ : Nat) (r l : Addr) (u : Option Value), vals = [some (.ref r), some (.ref l), u] ∧ nx = [(l, lstO (st.map G.ref) c₂), (r, lstO (pre.map G.ref) c₁)] ∧ @Ne Nat r l ∧
      G.under i = pre ++ st.reverse.flatMap G.under ∧ (∀ j ∈ st, j < G.n) ∧ k = (st.reverse.flatMap G.under).length) (G.under i).length
    F N ⟨[], [i], 0, 0, _, _, _, by with_unfolding_all rfl, rfl, Nat.ne_of_lt hlt, by simp, by simpa using hi, by simp⟩ ?_
  rintro k vals nx h tk ⟨pre, st, c₁, c₂, r, l, u, rfl, rfl, hne, hun, hst, rfl⟩ F₁ N₁
  clear F N
  have hge : g.get? r = none := (N₁ _ (List.Mem.tail _ (List.Mem.head _))).2.2
  have hul := G.under_len O hi
  have hn := O.few
  have hlen := congrArg List.length hun
  rw [List.length_append] at hlen
  have hps : (pre.map G.ref).toArray.size ≤ sizeLine := by simp only [List.size_toArray, List.length_map, sizeLine_eq]; omega
  have hss : st.length ≤ (st.reverse.flatMap G.under).length := by
    have : ∀ l : List Nat, (∀ j ∈ l, j < G.n) → l.length ≤ (l.flatMap G.under).length := by
      intro l
      induction l with
      | nil => intro _; exact Nat.le_refl _
      | cons a r ih =>
        intro h
        rw [List.flatMap_cons, List.length_append, List.length_cons, G.under_eq O (h a List.mem_cons_self), List.length_cons]
        have := ih fun j hj => h j (List.mem_cons_of_mem _ hj)
        omega
    have := this st.reverse fun j hj => hst j (List.mem_reverse.mp hj)
    rwa [List.length_reverse] at this
  have hsl : (st.map G.ref).length ≤ 100000 := by rw [List.length_map]; omega
  rcases List.eq_nil_or_concat st with rfl | ⟨st', j, hcat⟩
  · rw [List.reverse_nil, List.flatMap_nil, List.append_nil] at hun
    k_steps
    rename News _ _ _ _ => N
    · exact ⟨r, c₁, rfl, hge, by rw [hun]; exact (N _ (List.Mem.tail _ (List.Mem.tail _ (List.Mem.head _)))).1⟩
    · rename List.isEmpty _ = false => he; cases he
  · rw [List.concat_eq_append] at hcat
    subst hcat
    have hj := hst j (by simp)
    have hJ := hG.item j hj
    have hkl := hG.kidsL O hj
    have hke := G.under_eq O hj
    have hkn := G.kids_len j
    rw [List.reverse_append, List.reverse_singleton, List.singleton_append, List.flatMap_cons, hke] at hun hss hlen
    rw [List.map_append] at hsl N₁
    have hp : (st' ++ [j]).length = st'.length + 1 := by simp
    have hl2 : (st'.map G.ref).length + (((G.kids j).map G.ref).reverse).length ≤ 100000 := by
      rw [List.length_append, List.length_map] at hsl
      rw [List.length_reverse, List.length_map, List.length_map]
      omega
    have hemp : ((st'.map G.ref) ++ [Value.ref (G.ad j)]).isEmpty = false := by cases st' <;> rfl
    have N₁ : News g _ h [(l, lstO (st'.map G.ref ++ [Value.ref (G.ad j)]) c₂), (r, lstO (pre.map G.ref) c₁)] := N₁
    have hsl : (st'.map G.ref ++ [Value.ref (G.ad j)]).length ≤ 100000 := hsl
    k_steps
    rename Fr _ _ _ _ => F
    rename News _ _ _ _ => N
    have e1 : st'.map G.ref ++ ((G.kids j).map G.ref).reverse = (st' ++ (G.kids j).reverse).map G.ref := by rw [List.map_append, List.map_reverse]
    rw [e1, List.push_toArray, show pre.map G.ref ++ [Value.ref (G.ad j)] = (pre ++ [j]).map G.ref by rw [List.map_append]; rfl] at N
    obtain ⟨n', N⟩ := news_any (news_tail (news_tail N))
    refine EndWV.intro [(l, lstO ((st' ++ (G.kids j).reverse).map G.ref) n'), (r, lstO ((pre ++ [j]).map G.ref) (c₁ + 1))] (((st' ++ (G.kids j).reverse).reverse.flatMap G.under).length) ?_ F N (fun p hp => hp) ⟨pre ++ [j], st' ++ (G.kids j).reverse, c₁ + 1, n', r, l, _, rfl, rfl, hne, ?_, ?_, rfl⟩ ?_
    · rw [List.reverse_append, List.reverse_append, List.reverse_reverse, List.reverse_singleton, List.singleton_append, List.flatMap_append, List.flatMap_cons, hke]
      simp only [List.length_append, List.length_cons]
      omega
    · rw [hun, List.reverse_append, List.reverse_reverse, List.flatMap_append]
      simp
    · intro q hq
      rcases List.mem_append.mp hq with hq | hq
      · exact hst q (List.mem_append_left _ hq)
      · exact (G.kids_lt (List.mem_reverse.mp hq)).1
    · intro z hz; simp only [NotIn] at hz; simp [hz, put]
end
local macro_rules | `(tactic| walk_at "my con") => `(tactic| exact under_ok _ (by assumption) _ (by assumption))
section
open PySem PySem.W PySem.Calls PySem.Spec PyProof.Rows
set_option maxRecDepth 100000
set_option linter.unusedVariables false
set_option maxHeartbeats 800000 in
theorem all_ok {w : World} {mean : ExcName → Option Value} {mg mb : Str → Option Value} (G : Gh) (O : G.Ok) :
    Rd w mean mg mb 2 188 [.ref G.d] (fun h => Forest w (inHeap h) G) (GivesList (G.all.map G.ref)) := by
  w_top off
  refine Rd.enter (binds := [(Str.ofString "data", .ref G.d)]) ?_
  rintro dp un gd outer A₀ base L g s₁ B F N X T hd hu hG
  k_fold
  have hn := O.few
  k_steps
  rename Fr _ _ _ _ => F
  rename News _ _ _ _ => N
  refine go ?_
  (with_unfolding_all refine' For_invVF F ?k1 ?k2 ?_; (case k1 => exact rfl); (case k2 => exact rfl))
  k_steps
  rename Fr _ _ _ _ => F
  rename News _ _ _ _ => N
  rename _ ∧ True => ne
  have hrl : (G.recs.map G.ref).length ≤ 100000 := by
    rw [List.length_map]
    have q0 := G.roots_len 0
    have q1 := G.roots_len 1
    have q2 := G.roots_len 2
    have q3 := G.roots_len 3
    unfold Gh.recs
    simp only [List.length_append]
    omega
  have hlen : ∀ i, ((G.recs.take i).flatMap G.under).length ≤ G.n := by
    intro i
    have e : G.all = (G.recs.take i).flatMap G.under ++ (G.recs.drop i).flatMap G.under := by
      rw [← List.flatMap_append, List.take_append_drop]; rfl
    have := G.all_len O
    rw [e, List.length_append] at this
    omega
  refine go ?_
  refine iterL [Str.ofString "found"] (fun i vals nx => ∃ r c, vals = [some (.ref r)] ∧ nx = [(r, lstO (((G.recs.take i).flatMap G.under).map G.ref) c)]) (vs := G.recs.map G.ref) rfl (LstAt.of_news N (List.Mem.head _) hrl).at_ (N _ (List.Mem.head _)).2.1 ?_ F (news_tail N) ⟨_, 0, by with_unfolding_all rfl, rfl⟩ ?_ ?_
  · intro p hp; rw [List.mem_singleton] at hp; subst hp; exact ne.1
  · rintro i v vals nx h tk own hv hoff ⟨r, c, rfl, rfl⟩ F₁ N₁
    clear F N
    have hi : i < G.recs.length := by have := (List.getElem?_eq_some_iff.mp hv).1; rwa [List.length_map] at this
    rw [List.getElem?_map, List.getElem?_eq_getElem hi, Option.map_some, Option.some.injEq] at hv
    subst hv
    have hin := (G.recs_mem (List.getElem_mem hi)).1
    have hl : (((G.recs.take i).flatMap G.under).map G.ref).length + ((G.under G.recs[i]).map G.ref).length ≤ 100000 := by
      have := hlen i
      have := G.under_len O hin
      rw [List.length_map, List.length_map]
      omega
    unfold Gh.ref at F₁
    k_steps
    rename Fr _ _ _ _ => F
    rename News _ _ _ _ => N
    have e : ((G.recs.take i).flatMap G.under).map G.ref ++ (G.under G.recs[i]).map G.ref = ((G.recs.take (i + 1)).flatMap G.under).map G.ref := by
      rw [List.take_add_one, List.getElem?_eq_getElem hi, List.flatMap_append, List.map_append]
      simp
    rw [e] at N
    obtain ⟨n', N⟩ := news_any (news_tail N)
    refine EndV.intro [(r, lstO (((G.recs.take (i + 1)).flatMap G.under).map G.ref) n')] F N (fun p hp => by rw [List.mem_singleton] at hp; subst hp; exact List.Mem.head _) (fun p hp => List.mem_cons_of_mem _ hp) (fun p hp q hq => by rw [List.mem_singleton] at hq; subst hq; exact off_at hoff (List.Mem.head _) p hp) ⟨r, n', rfl, rfl⟩ ?_
    intro z hz; simp only [NotIn] at hz; simp [hz, put]
  · rintro u vals nx h tk ⟨r, c, rfl, rfl⟩ F₁ N₁
    clear F N
    k_steps
    rename News _ _ _ _ => N
    exact ⟨_, _, rfl, (N _ (List.Mem.head _)).2.2, by have := (N _ (List.Mem.head _)).1; rw [List.length_map, List.take_length] at this; exact this⟩
end
local macro_rules | `(tactic| walk_at "my con") => `(tactic| exact all_ok _ (by assumption))
local macro_rules | `(tactic| walk_at "my cov") => `(tactic| exact file_ok _ (by assumption) _ (by assumption))
local macro_rules | `(tactic| walk_at "my strs") => `(tactic| first | assumption | exact StrsAre.append' (by assumption) (.cons _ _ .nil) | exact StrsAre.append' (StrsAre.append' (.cons _ _ .nil) (by assumption)) (.cons _ _ .nil))
local macro_rules | `(tactic| walk_at "call ref") => `(tactic| ((with_reducible refine at219 ?_); k_dflt (refine' Rd.use (leads_ok _ _ _ _ _ _ ?hx ?hq) (by k_asm) (by k_asm) (by k_asm) (by k_asm) (by k_asm) (by exact rfl) (by walk_at "my rm") (by walk_at "my rm") ⟨by walk_at "my lst", by walk_at "my tup"⟩ ?_; (case hx => walk_at "my strs"); (case hq => assumption); k_whole); intro v' h' tk' F' N' st' hv'; subst hv'))
section
open PySem PySem.W PySem.Calls PySem.Spec PyProof.Rows
set_option maxRecDepth 100000
set_option linter.unusedVariables false
theorem Rd.useS {w : World} {mean : ExcName → Option Value} {mg mb : Str → Option Value} {n : Nat} {f : Addr} {vs : List Value} {pre : Heap → Prop} {xs : List Str}
    {dp un : Nat} {gd : Option (List Code)} {cn : Str} {cs : Scope} {a : Addr} {ccd : Value} {cl : List (Str × Addr)} {outer : List Env} {A₀ : Around} {base h₀ : Heap} {L : Addr} {m : Str → Option Value} {s : Shared} {Q E : Value → Shared → Prop} {news : List (Addr × Obj)}
    (B : Below A₀ base outer h₀) (F : Fr h₀ L s.heap m) (X : (hd.heap_39 w.params).In h₀) (N : News h₀ L s.heap news) (T : Top PV LS mean mg mb h₀) (hk : cs.kind = .function) (C : Rd w mean mg mb n f vs pre (GivesStrs xs)) (hd : dp + 10 * n ≤ 900) (hu : un + 100 * n ≤ 9000) (hp : pre s.heap)
    (ret : ∀ r c us h' tk', StrsAre us xs → Fr h₀ L h' m → News h₀ L h' ((r, lstO us c) :: news) → s.heap.StaysIn h' → AllNe r news → Q (.ref r) { s with heap := h', toks := tk' }) :
    wpAny (model PG w) (ktrTop dp un gd cn cs L a ccd cl outer) (call (.ref f) vs) Q E s := by
  refine C.use B F X N T hk hd hu hp fun v h' tk' F' N' st ⟨us, hus, r, c, e, h1, h2⟩ => ?_
  subst e
  refine ret r c us h' tk' hus F' (fun p hp => ?_) st (allNe_of fun p hp e => ?_)
  · rcases List.mem_cons.mp hp with rfl | hp
    · refine ⟨h2, ?_, ?_⟩
      · rintro rfl
        obtain ⟨o, _, _, q, _⟩ := F.ns
        rw [h1] at q; cases q
      · cases q : h₀.get? r with
        | none => rfl
        | some o => rw [F.keep _ _ q] at h1; cases h1
    · exact N' p hp
  · have := (N p hp).1; rw [e, h1] at this; cases this
theorem Rx.use {w : World} {mean : ExcName → Option Value} {mg mb : Str → Option Value} {n : Nat} {f : Addr} {vs : List Value} {pre : Heap → Prop} {post : Heap → Value → Heap → Prop} {exc : Heap → Prop}
    (C : Rx w mean mg mb n f vs pre post exc) {dp un : Nat} {gd : Option (List Code)} {cn : Str} {cs : Scope} {a : Addr} {ccd : Value} {cl : List (Str × Addr)} {outer : List Env} {A₀ : Around} {base h₀ : Heap} {L : Addr} {m : Str → Option Value} {s : Shared} {Q E : Value → Shared → Prop} {news : List (Addr × Obj)}
    (B : Below A₀ base outer h₀) (F : Fr h₀ L s.heap m) (X : (hd.heap_39 w.params).In h₀) (N : News h₀ L s.heap news) (T : Top PV LS mean mg mb h₀) (hk : cs.kind = .function) (hd : dp + 10 * n ≤ 900) (hu : un + 100 * n ≤ 9000) (hp : pre s.heap)
    (ret : ∀ v h' tk', Fr h₀ L h' m → News h₀ L h' news → s.heap.StaysIn h' → post s.heap v h' → Q v { s with heap := h', toks := tk' })
    (hx : ∀ e h' tk', exc s.heap → Flies s.heap (envX cn cs L a ccd cl :: outer) e h' → E (.ref e) { s with heap := h', toks := tk' }) :
    wpAny (model PG w) (ktrTop dp un gd cn cs L a ccd cl outer) (call (.ref f) vs) Q E s :=
  C dp un gd cn cs a ccd cl outer A₀ base h₀ L m s Q E B F X T hk hd hu hp (fun v h' tk' st hq =>
    ret v h' tk' (F.keeps st) (fun p hp => ⟨st _ _ (N p hp).1, (N p hp).2⟩) st hq) hx
theorem names_len {G : Gh} (O : G.Ok) {i : Nat} (hi : i < G.n) {vs : List Value} (h : StrsAre vs (G.names i)) : vs.length ≤ 9 := by
  have h1 := h.length
  have h2 := anc_size G O hi
  have h3 : (G.names i).length ≤ ((G.anc i).map G.nm).length := List.length_filter_le _ _
  rw [List.length_map] at h3
  omega
local macro_rules | `(tactic| walk_at "call ref") => `(tactic| ((with_reducible refine at207 ?_); k_dflt (refine' Rd.useS (by k_asm) (by k_asm) (by k_asm) (by k_asm) (by k_asm) (by exact rfl) (names_ok _ (by assumption) _ (by assumption)) (by walk_at "my rm") (by walk_at "my rm") (by walk_at "my gf") ?_; k_whole); intro r' c' vs' h' tk' hS' F' N' st' ne'; walk_at "my ne'"; (have hl' := names_len (by assumption) (by assumption) hS')))
local macro_rules | `(tactic| walk_at "call ref") => `(tactic| ((with_reducible refine at226 ?_); k_dflt (refine' Rx.use (only_ok _ _ _ _ ?hx) (by k_asm) (by k_asm) (by k_asm) (by k_asm) (by k_asm) (by exact rfl) (by walk_at "my rm") (by walk_at "my rm") (by walk_at "my lst") ?_ ?_; (case hx => assumption); k_whole)))
def Gh.way (G : Gh) (j : Nat) : List Str := G.names j ++ [G.file j]
def IsOne (G : Gh) (l : List Nat) (v : Value) : Prop := ∃ j, l = [j] ∧ v = .ref (G.ad j)
def Gh.means (G : Gh) (x : Str) (qs : List Str) (j : Nat) : Bool := (G.nm j == x) && leads (G.way j) qs
set_option maxHeartbeats 800000 in
theorem find_ok {w : World} {mean : ExcName → Option Value} {mg mb : Str → Option Value} (G : Gh) (O : G.Ok) (x : Str) (tx : Tok) (q : Addr) (ws : List Value) (qs : List Str) (hx : x.length ≤ 100) (hq : StrsAre ws qs) :
    Rx w mean mg mb 6 231 [.ref G.d, .str x tx, .ref q] (fun h => Forest w (inHeap h) G ∧ TupAt h q ws) (fun _ v _ => IsOne G (G.all.filter (G.means x qs)) v) (fun _ => (G.all.filter (G.means x qs)).length ≠ 1) := by
  w_top off
  refine Rx.enterC (binds := [(Str.ofString "data", .ref G.d), (Str.ofString "name", .str x tx), (Str.ofString "qualifiers", .ref q)]) ?_
  rintro dp un gd outer A₀ base L g s₁ cells B F N Y X T hd hu ⟨hG, hT⟩
  k_fold
  k_cells Y
  have hn := O.few
  k_steps
  rename Fr _ _ _ _ => F
  rename News _ _ _ _ => N
  have hal := G.all_len O
  refine go (LCt.CompSrcT.ledger (by rfl) F N (List.Mem.head _) (by simp only [List.size_toArray, List.length_map, sizeLine_eq]; omega) fun g' => ?_)
  refine restT_inv (fun k ys nx => nx = [_, _, _, _] ∧ ys = ((G.all.take k).filter fun j => G.nm j == x).map G.ref) ⟨rfl, rfl⟩ ?_ ?_
  · rintro k ys nx v I oI C oC D m₂ h tk E' hk ⟨rfl, hys⟩ hv hC hx F₁ N₁ off ne
    clear F N
    rw [List.size_toArray, List.length_map] at hk
    simp only [List.getElem?_toArray, List.getElem?_map, List.getElem?_eq_getElem hk, Option.map_some, Option.some.injEq] at hv
    subst hv
    have hj := hG.item (G.all[k]) (G.all_lt O (List.getElem_mem hk))
    unfold Gh.ref at hx
    have hs : ((G.all.take (k + 1)).filter fun j => G.nm j == x).map G.ref = ((G.all.take k).filter fun j => G.nm j == x).map G.ref ++ (if (G.nm G.all[k] == x) = true then [G.ref G.all[k]] else []) := by
      rw [List.take_add_one, List.getElem?_eq_getElem hk, List.filter_append, List.map_append]
      congr 1
      simp only [Option.toList_some, List.filter_cons, List.filter_nil]
      split <;> rfl
    dsimp only
    k_steps
    · rename (_ == _) = true => hb
      rename Fr _ _ _ _ => F
      rename News _ _ _ _ => N
      refine go (LCg.CompEnd.intro F N [_, _, _, _] (by lcg_sub) off (Or.inr ⟨_, List.Mem.head _, rfl, _, rfl⟩) ⟨rfl, ?_⟩)
      rw [hs, if_pos hb, hys]; rfl
    · rename (_ == _) = false => hb
      rename Fr _ _ _ _ => F
      rename News _ _ _ _ => N
      refine go (LCg.CompEnd.intro F N [_, _, _, _] (by lcg_sub) off (Or.inr ⟨_, List.Mem.head _, rfl, _, rfl⟩) ⟨rfl, ?_⟩)
      rw [hs, if_neg (by rw [hb]; decide), hys, List.append_nil]
  · rintro ys nx ⟨rfl, hys⟩
    rw [List.size_toArray, List.length_map, List.take_length] at hys
    subst hys
    clear F N
    k_steps
    rename Fr _ _ _ _ => F
    rename News _ _ _ _ => N
    have hfl : (G.all.filter fun j => G.nm j == x).length ≤ G.all.length := List.length_filter_le _ _
    have hff : (G.all.filter fun j => G.nm j == x).filter (fun j => leads (G.way j) qs) = G.all.filter (G.means x qs) := by
      rw [List.filter_filter]
      congr 1
      funext j
      unfold Gh.means
      rw [Bool.and_comm]
    refine go (LCt.CompSrcT.ledger (by rfl) F N (List.Mem.head _) (by simp only [List.size_toArray, List.length_map, sizeLine_eq]; omega) fun g'' => ?_)
    refine restT_inv (fun k ys nx => nx = [_, _, _, _, _] ∧ ys = (((G.all.filter fun j => G.nm j == x).take k).filter fun j => leads (G.way j) qs).map G.ref) ⟨rfl, rfl⟩ ?_ ?_
    · rintro k ys nx v I oI C oC D m₂ h tk E' hk ⟨rfl, hys⟩ hv hC hx F₁ N₁ off ne
      clear F N
      rw [List.size_toArray, List.length_map] at hk
      simp only [List.getElem?_toArray, List.getElem?_map, List.getElem?_eq_getElem hk, Option.map_some, Option.some.injEq] at hv
      subst hv
      have hjn := G.all_lt O (List.mem_filter.mp (List.getElem_mem hk)).1
      unfold Gh.ref at hx
      have hs : (((G.all.filter fun j => G.nm j == x).take (k + 1)).filter fun j => leads (G.way j) qs).map G.ref = (((G.all.filter fun j => G.nm j == x).take k).filter fun j => leads (G.way j) qs).map G.ref ++ (if leads (G.way (G.all.filter fun j => G.nm j == x)[k]) qs = true then [G.ref (G.all.filter fun j => G.nm j == x)[k]] else []) := by
        rw [List.take_add_one, List.getElem?_eq_getElem hk, List.filter_append, List.map_append]
        congr 1
        simp only [Option.toList_some, List.filter_cons, List.filter_nil]
        split <;> rfl
      dsimp only
      k_steps
      · rename leads _ _ = true => hb
        rename Fr _ _ _ _ => F
        rename News _ _ _ _ => N
        refine go (LCg.CompEnd.intro F N [_, _, _, _, _] (by lcg_sub) off (Or.inr ⟨_, List.Mem.head _, rfl, _, rfl⟩) ⟨rfl, ?_⟩)
        rw [hs, if_pos (show leads (G.way _) qs = true from hb), hys]; rfl
      · rename leads _ _ = false => hb
        rename Fr _ _ _ _ => F
        rename News _ _ _ _ => N
        refine go (LCg.CompEnd.intro F N [_, _, _, _, _] (by lcg_sub) off (Or.inr ⟨_, List.Mem.head _, rfl, _, rfl⟩) ⟨rfl, ?_⟩)
        rw [hs, if_neg (show ¬ leads (G.way _) qs = true from fun z => by rw [show leads (G.way _) qs = false from hb] at z; cases z), hys, List.append_nil]
    · rintro ys nx ⟨rfl, hys⟩
      rw [List.size_toArray, List.length_map, List.take_length] at hys
      subst hys
      clear F N
      have hlen : (((G.all.filter fun j => G.nm j == x).filter fun j => leads (G.way j) qs).map G.ref).length ≤ 100000 := by
        rw [List.length_map]
        have := List.length_filter_le (fun j => leads (G.way j) qs) (G.all.filter fun j => G.nm j == x)
        omega
      k_steps
      · rename List.map _ _ = [_] => hv
        rw [hff] at hv
        obtain ⟨j, e, rfl⟩ := List.map_eq_singleton_iff.mp hv
        exact ⟨j, e, rfl⟩
      · rename List.length _ ≠ 1 => hne
        rename Flies _ _ _ _ => hfl
        rename Fr _ _ _ _ => F
        rw [hff, List.length_map] at hne
        exact ⟨_, _, _, _, _, rfl, rfl, hne, F, hfl⟩
end
local macro_rules | `(tactic| walk_at "call ref") => `(tactic| ((with_reducible refine at207 ?_); k_dflt (refine' Rd.useS (by k_asm) (by k_asm) (by k_asm) (by k_asm) (by k_asm) (by exact rfl) (names_ok _ (by assumption) _ (by assumption)) (by walk_at "my rm") (by walk_at "my rm") (by walk_at "my gf") ?_; k_whole); intro r' c' vs' h' tk' hS' F' N' st' ne'; walk_at "my ne'"; (have hl' := names_len (by assumption) (by assumption) hS')))
local macro_rules | `(tactic| walk_at "call ref") => `(tactic| ((with_reducible refine at226 ?_); k_dflt (refine' Rx.use (only_ok _ _ _ _ ?hx) (by k_asm) (by k_asm) (by k_asm) (by k_asm) (by k_asm) (by exact rfl) (by walk_at "my rm") (by walk_at "my rm") (by walk_at "my lst") ?_ ?_; (case hx => assumption); k_whole)))
section
local macro_rules | `(tactic| walk_at "zz") => `(tactic| skip)
open PySem PySem.W PySem.Calls PySem.Spec PyProof.Rows
set_option maxRecDepth 100000
set_option linter.unusedVariables false
inductive Marks (G : Gh) : List (Addr × Obj) → List Nat → Prop
  | nil : Marks G [] []
  | snoc {ts : List (Addr × Obj)} {js : List Nat} {t a j : Nat} {c : Nat} : Marks G ts js → G.mark j = some a → Marks G (ts ++ [(t, tupO [G.ref j, .ref a] c)]) (js ++ [j])
def Gh.hits (G : Gh) (x : Str) (qs : List Str) (j : Nat) : Bool := (G.mark j).isSome && ((Str.ofString "N" == x) && leads (G.nm j :: G.way j) qs)
def IsPair (G : Gh) (l : List Nat) (h₀ h : Heap) (v : Value) : Prop := ∃ j a t c, l = [j] ∧ G.mark j = some a ∧ v = .ref t ∧ h₀.get? t = none ∧ h.get? t = some (tupO [G.ref j, .ref a] c)
theorem pack5 {g h : Heap} {L : Addr} {e₁ e₂ e₃ e₄ e₅ er : Addr × Obj} {ts own : List (Addr × Obj)} (N : News g L h (e₁ :: e₂ :: e₃ :: e₄ :: e₅ :: (er :: ts ++ own))) (h1 : @Ne Nat e₁.1 er.1) (h2 : @Ne Nat e₂.1 er.1) (h3 : @Ne Nat e₃.1 er.1) (h4 : @Ne Nat e₄.1 er.1) (h5 : @Ne Nat e₅.1 er.1)
    (ht : ∀ p ∈ ts, p.1 ≠ er.1) (ho : ∀ p ∈ own, p.1 ≠ er.1) : ∃ rest, News g L h (er :: rest) ∧ (∀ p ∈ rest, p.1 ≠ er.1) ∧ e₁ ∈ rest ∧ (∀ p ∈ ts, p ∈ rest) ∧ (∀ p ∈ own, p ∈ rest) := by
  refine ⟨e₁ :: e₂ :: e₃ :: e₄ :: e₅ :: (ts ++ own), fun p hp => N p ?_, ?_, by simp, fun p hp => by simp [hp], fun p hp => by simp [hp]⟩
  · simp only [List.mem_cons, List.mem_append, List.cons_append] at hp ⊢
    rcases hp with rfl | rfl | rfl | rfl | rfl | rfl | hp <;> simp [*]
  · intro p hp
    simp only [List.mem_cons, List.mem_append] at hp
    rcases hp with rfl | rfl | rfl | rfl | rfl | hp | hp
    · exact h1
    · exact h2
    · exact h3
    · exact h4
    · exact h5
    · exact ht p hp
    · exact ho p hp
theorem all_app {a b : List (Addr × Obj)} {d : Addr} (h : ∀ p ∈ a, p.1 ≠ d) (k : ∀ p ∈ b, p.1 ≠ d) : ∀ p ∈ a ++ b, p.1 ≠ d := fun p hp => (List.mem_append.mp hp).elim (h p) (k p)
theorem lst_some {h : Heap} {a : Addr} {vs : List Value} (x : LstAt h a vs) : h.get? a ≠ none := let ⟨_, e, _⟩ := x.at_; fun q => by rw [e] at q; cases q
theorem Marks.len {G : Gh} {ts : List (Addr × Obj)} {js : List Nat} (h : Marks G ts js) : ts.length = js.length := by
  induction h with
  | nil => rfl
  | snoc _ _ ih => rw [List.length_append, List.length_append, ih]; rfl
theorem Marks.one' {G : Gh} {ts : List (Addr × Obj)} {js : List Nat} (h : Marks G ts js) : ∀ p, ts = [p] → ∃ j a c, js = [j] ∧ G.mark j = some a ∧ p.2 = tupO [G.ref j, .ref a] c := by
  induction h with
  | nil => intro p e; cases e
  | @snoc ts js t a j c hm hk _ =>
    intro p e
    have h1 := congrArg List.length e
    rw [List.length_append] at h1
    simp only [List.length_cons, List.length_nil] at h1
    obtain rfl : ts = [] := List.length_eq_zero_iff.mp (by omega)
    have h2 := hm.len
    obtain rfl : js = [] := List.length_eq_zero_iff.mp h2.symm
    simp only [List.nil_append, List.cons.injEq, and_true] at e
    subst e
    exact ⟨j, a, c, rfl, hk, rfl⟩
theorem Marks.one {G : Gh} {p : Addr × Obj} {js : List Nat} (h : Marks G [p] js) : ∃ j a c, js = [j] ∧ G.mark j = some a ∧ p.2 = tupO [G.ref j, .ref a] c := h.one' p rfl
set_option maxHeartbeats 1600000 in
theorem named_ok {w : World} {mean : ExcName → Option Value} {mg mb : Str → Option Value} (G : Gh) (O : G.Ok) (x : Str) (tx : Tok) (q : Addr) (ws : List Value) (qs : List Str) (hx : x.length ≤ 100) (hq : StrsAre ws qs) :
    Rx w mean mg mb 6 238 [.ref G.d, .str x tx, .ref q] (fun h => Forest w (inHeap h) G ∧ TupAt h q ws) (fun h v h' => IsPair G (G.all.filter (G.hits x qs)) h h' v) (fun _ => (G.all.filter (G.hits x qs)).length ≠ 1) := by
  w_top off
  refine Rx.enterPass (binds := [(Str.ofString "data", .ref G.d), (Str.ofString "name", .str x tx), (Str.ofString "qualifiers", .ref q)]) ?_
  rintro dp un gd outer A₀ base L g s₁ B F N X T hd hu ⟨hG, hT⟩
  k_fold
  have hn := O.few
  k_steps
  rename Fr _ _ _ _ => F
  rename News _ _ _ _ => N
  refine go (wpAny_mono (E := fun _ _ => False) ?_ (fun _ _ h => h) fun _ _ h => h.elim)
  (with_unfolding_all refine' For_invVF F ?k1 ?k2 ?_; (case k1 => exact rfl); (case k2 => exact rfl))
  k_steps
  rename Fr _ _ _ _ => F
  rename News _ _ _ _ => N
  rename _ ∧ True => ne
  have hal := G.all_len O
  refine go ?_
  refine iterL [Str.ofString "found", Str.ofString "around", Str.ofString "named"] (fun i vals nx => ∃ r c ts u₁ u₂, vals = [some (.ref r), u₁, u₂] ∧ nx = (r, lstO (ts.map fun p => .ref p.1) c) :: ts ∧ (∀ p ∈ ts, p.1 ≠ r) ∧ Marks G ts ((G.all.take i).filter (G.hits x qs)))
    (vs := G.all.map G.ref) rfl (LstAt.of_news N (List.Mem.head _) (by rw [List.length_map]; omega)).at_ (N _ (List.Mem.head _)).2.1 ?_ F (news_tail N) ⟨_, 0, [], _, _, by with_unfolding_all rfl, rfl, by simp, .nil⟩ ?_ ?_
  · intro p hp; rw [List.mem_singleton] at hp; subst hp; exact ne.1
  · rintro i v vals nx h tk own hv hoff ⟨r, c, ts, u₁, u₂, rfl, rfl, htr, hm⟩ F₁ N₁
    clear F N
    have hi : i < G.all.length := by have := (List.getElem?_eq_some_iff.mp hv).1; rwa [List.length_map] at this
    rw [List.getElem?_map, List.getElem?_eq_getElem hi, Option.map_some, Option.some.injEq] at hv
    subst hv
    have hin := G.all_lt O (List.getElem_mem hi)
    have hI := hG.item _ hin
    unfold Gh.ref at F₁
    refine hold_post fun Q1 hQ1 => ?_
    k_steps
    rename Fr _ _ _ _ => F
    rename News _ _ _ _ => N
    have hcl := hG.condsL hin
    refine go ?_
    (with_unfolding_all refine' For_invVF F ?k1 ?k2 ?_; (case k1 => exact rfl); (case k2 => exact rfl))
    k_steps
    rename Fr _ _ _ _ => F
    rename News _ _ _ _ => N
    simp only [List.cons_append, AllLt, AllNe] at *
    rename ∀ (p : Addr × Obj), p ∈ _ → p.1 < _ => hll
    have hll' : @LT.lt Nat _ r _ := hll _ (List.Mem.head _)
    obtain ⟨rest, N, hrr, hAr, hts, hown⟩ := pack5 N (by k_ne) (by k_ne) (by k_ne) (by k_ne) (by k_ne) htr (off_at hoff (List.Mem.head _))
    have hoff' : ∀ p ∈ own, ∀ q ∈ ts, p.1 ≠ q.1 := fun p hp q hq => hoff p hp q (List.mem_cons_of_mem _ hq)
    have hbase : ((G.all.take i).filter (G.hits x qs)).length ≤ 9 := by
      have h1 := List.length_filter_le (G.hits x qs) (G.all.take i)
      have h2 := List.length_take_le i G.all
      omega
    have hnext : (G.all.take (i + 1)).filter (G.hits x qs) = (G.all.take i).filter (G.hits x qs) ++ (if G.hits x qs G.all[i] = true then [G.all[i]] else []) := by
      rw [List.take_add_one, List.getElem?_eq_getElem hi, List.filter_append]
      congr 1
      simp only [Option.toList_some, List.filter_cons, List.filter_nil]
    generalize hjs : (G.all.take i).filter (G.hits x qs) = js at hm hbase hnext
    refine go ?_
    refine iterL [] (fun k vals nx => vals = [] ∧ ∃ c ts rest, nx = (r, lstO (ts.map fun p => .ref p.1) c) :: rest ∧ (∀ p ∈ rest, p.1 ≠ r) ∧ (_, _) ∈ rest ∧ (∀ p ∈ ts, p ∈ rest) ∧ (∀ p ∈ own, p ∈ rest) ∧ (∀ p ∈ own, ∀ q ∈ ts, p.1 ≠ q.1) ∧ Marks G ts (js ++ (if k = 0 then [] else if G.hits x qs G.all[i] = true then [G.all[i]] else [])))
      (vs := (G.mark G.all[i]).toList.map .ref) rfl (hcl.keeps F.keep).at_ (old_ne F hcl.lt) (news_old N hcl.lt (lst_some hcl)) F N ⟨rfl, c, ts, rest, rfl, hrr, hAr, hts, hown, hoff', by simpa using hm⟩ ?_ ?_
    · clear hrr hAr hts hown hoff' hm
      rintro k v vals nx h tk own' hv hoffn ⟨rfl, c, ts, rest, rfl, hrr, hAr, hts, hown, hoff', hm⟩ F₁ N₁
      clear F N hcl
      obtain ⟨a, hmk⟩ : ∃ a, G.mark G.all[i] = some a := by
        cases e : G.mark G.all[i] with
        | none => rw [e] at hv; simp at hv
        | some a => exact ⟨a, rfl⟩
      have hk : k = 0 ∧ v = .ref a := by
        rw [hmk] at hv
        cases k with
        | zero => simpa using hv.symm
        | succ k => simp at hv
      obtain ⟨rfl, rfl⟩ := hk
      have hNm := hG.named _ hin a hmk
      have hLA := LstAt.of_news N₁ (List.mem_append_left _ (List.mem_cons_of_mem _ hAr)) (by simp only [List.length_append, List.length_cons, List.length_nil]; omega)
      have htl := hm.len
      have hps : (ts.map fun p => Value.ref p.1).toArray.size ≤ sizeLine := by
        simp only [List.size_toArray, List.length_map, sizeLine_eq]
        rw [htl]
        simp only [if_true, List.append_nil]
        omega
      refine hold_post fun Q2 hQ2 => ?_
      k_steps
      · rename ∀ (p : Addr × Obj), p ∈ _ → p.1 < _ => hlt
        rename (_ == _) = true => hN
        rename leads _ _ = true => hle
        rename Addr => D
        rename Fr _ _ _ _ => F
        rename News _ _ _ _ => N
        have hhit : G.hits x qs G.all[i] = true := by
          unfold Gh.hits
          rw [hmk, hN]
          exact hle
        refine append_K (its := (ts.map fun p => Value.ref p.1).toArray) F N (.tail (Nat.ne_of_gt (hlt _ (List.Mem.head _))) (.head (all_app hrr (off_at hoffn (List.Mem.head _))))) (fun h'' F N => ?_) hps
        have hDr : D ≠ r := Nat.ne_of_gt (hlt _ (List.Mem.head _))
        have e : (ts.map fun p => Value.ref p.1).toArray.push (.ref D) = ((ts ++ [(D, tupO [G.ref G.all[i], .ref a] 0)]).map fun p => Value.ref p.1).toArray := by simp
        rw [e] at N
        k_steps
        refine hQ2 _ _ ?_
        refine EndV.intro ((r, lstO ((ts ++ [(D, tupO [G.ref G.all[i], .ref a] 0)]).map fun p => Value.ref p.1) (c + 1)) :: (D, tupO [G.ref G.all[i], .ref a] 0) :: rest) F N ?_ ?_ ?_ ⟨rfl, c + 1, _, _, rfl, ?_, List.mem_cons_of_mem _ hAr, ?_, fun p hp => List.mem_cons_of_mem _ (hown p hp), ?_, ?_⟩ ?_
        · intro p hp
          simp only [List.mem_cons, List.mem_append, List.cons_append] at hp ⊢
          rcases hp with rfl | rfl | hp
          · exact .inr (.inl rfl)
          · exact .inl rfl
          · exact .inr (.inr (.inl hp))
        · intro p hp
          simp only [List.mem_cons, List.mem_append, List.cons_append]
          exact .inr (.inr (.inr hp))
        · intro p hp z hz
          rcases List.mem_cons.mp hz with rfl | hz
          · exact off_at hoffn (List.Mem.head _) p hp
          · rcases List.mem_cons.mp hz with rfl | hz
            · exact Nat.ne_of_lt (hlt p (List.mem_append_right _ hp))
            · exact hoffn p hp z (List.mem_cons_of_mem _ hz)
        · intro p hp
          rcases List.mem_cons.mp hp with rfl | hp
          · exact hDr
          · exact hrr p hp
        · intro p hp
          rcases List.mem_append.mp hp with hp | hp
          · exact List.mem_cons_of_mem _ (hts p hp)
          · rw [List.mem_singleton] at hp; subst hp; exact List.Mem.head _
        · intro p hp z hz
          rcases List.mem_append.mp hz with hz | hz
          · exact hoff' p hp z hz
          · rw [List.mem_singleton] at hz; subst hz; exact Nat.ne_of_lt (hlt p (List.mem_append_left _ (List.mem_cons_of_mem _ (hown p hp))))
        · rw [if_neg (by decide), if_pos hhit]
          rw [if_pos rfl, List.append_nil] at hm
          exact .snoc hm hmk
        · intro z hz; simp only [NotIn] at hz; simp [hz, put]
      · rename leads _ _ = false => hle
        rename Fr _ _ _ _ => F
        rename News _ _ _ _ => N
        have hhit : G.hits x qs G.all[i] = false := by
          unfold Gh.hits
          rw [show leads (G.nm G.all[i] :: G.way G.all[i]) qs = false from hle]
          simp
        refine hQ2 _ _ ?_
        refine EndV.intro ((r, lstO (ts.map fun p => Value.ref p.1) c) :: rest) F N (fun p hp => List.mem_append_left _ hp) (fun p hp => List.mem_append_right _ hp) hoffn ⟨rfl, c, ts, rest, rfl, hrr, hAr, hts, hown, hoff', ?_⟩ ?_
        · rw [if_neg (by decide), hhit, if_neg (by decide)]
          rwa [if_pos rfl] at hm
        · intro z hz; simp only [NotIn] at hz; simp [hz, put]
      · rename (_ == _) = false => hN
        rename Fr _ _ _ _ => F
        rename News _ _ _ _ => N
        have hhit : G.hits x qs G.all[i] = false := by
          unfold Gh.hits
          rw [hN]
          simp
        refine hQ2 _ _ ?_
        refine EndV.intro ((r, lstO (ts.map fun p => Value.ref p.1) c) :: rest) F N (fun p hp => List.mem_append_left _ hp) (fun p hp => List.mem_append_right _ hp) hoffn ⟨rfl, c, ts, rest, rfl, hrr, hAr, hts, hown, hoff', ?_⟩ ?_
        · rw [if_neg (by decide), hhit, if_neg (by decide)]
          rwa [if_pos rfl] at hm
        · intro z hz; simp only [NotIn] at hz; simp [hz, put]
    · clear hrr hAr hts hown hoff' hm
      rintro u vals nx h tk ⟨rfl, c, ts, rest, rfl, hrr, hAr, hts, hown, hoff', hm⟩ F₁ N₁
      clear F N
      k_steps
      rename Fr _ _ _ _ => F
      rename News _ _ _ _ => N
      refine hQ1 _ _ ?_
      refine EndV.intro ((r, lstO (ts.map fun p => Value.ref p.1) c) :: ts) F N (fun p hp => ?_) (fun p hp => List.mem_cons_of_mem _ (hown p hp)) (fun p hp z hz => ?_) ⟨r, c, ts, _, _, rfl, rfl, fun p hp => hrr p (hts p hp), ?_⟩ ?_
      · rcases List.mem_cons.mp hp with rfl | hp
        · exact List.Mem.head _
        · exact List.mem_cons_of_mem _ (hts p hp)
      · rcases List.mem_cons.mp hz with rfl | hz
        · exact hrr p (hown p hp)
        · exact hoff' p hp z hz
      · rw [hnext]
        cases hmk : G.mark G.all[i] with
        | none =>
          have hhit : G.hits x qs G.all[i] = false := by unfold Gh.hits; rw [hmk]; rfl
          rw [hhit, if_neg (by decide)]
          rw [hmk] at hm
          exact hm
        | some a =>
          rw [hmk] at hm
          exact hm
      · intro z hz; simp only [NotIn] at hz; simp [hz, put]
  · rintro u vals nx h tk ⟨r, c, ts, u₁, u₂, rfl, rfl, htr, hm⟩ F₁ N₁
    clear F N
    rw [List.length_map, List.take_length] at hm
    have hlen : (ts.map fun p => Value.ref p.1).length ≤ 100000 := by
      rw [List.length_map, hm.len]
      have := List.length_filter_le (G.hits x qs) G.all
      omega
    k_steps
    · rename List.map _ _ = [_] => hv
      rename News _ _ _ _ => N
      obtain ⟨p, rfl, rfl⟩ := List.map_eq_singleton_iff.mp hv
      obtain ⟨j, a, c', e1, e2, e3⟩ := Marks.one hm
      exact ⟨j, a, p.1, c', e1, e2, rfl, (N p (List.mem_cons_of_mem _ (List.Mem.head _))).2.2, by rw [(N p (List.mem_cons_of_mem _ (List.Mem.head _))).1, e3]⟩
    · rename List.length _ ≠ 1 => hne
      rename Flies _ _ _ _ => hfl
      rename Fr _ _ _ _ => F
      rw [List.length_map, hm.len] at hne
      exact ⟨_, _, _, _, _, rfl, rfl, hne, F, hfl⟩
end
local macro_rules | `(tactic| walk_at "getMethod ref") => `(tactic| (k_here; (with_reducible show wpAny _ _ (getMethod (Value.ref _) (PySem.Str.ofString "index") _) _ _ _); k_dflt (refine getMethod_builtin ⟨_, (by assumption), rfl⟩ PySem.F.plainAttrs_list PySem.F.slot_list_index PySem.F.type_list_index (fun a e => by cases e; exact ⟨_, (by assumption), rfl⟩) ?_)))
local macro_rules | `(tactic| walk_at "subscriptTail Name Constant ref int") => `(tactic| (k_here; (with_unfolding_all refine' item_lstAt ?k1 ?k2 ?k3 ?_ ?k5; (case k1 => walk_at "my lst"); (case k2 => decide); (case k3 => rfl); (case k5 => with_unfolding_all rfl))))
section
open PySem PySem.W PySem.Calls PySem.Spec PyProof.Rows
set_option maxRecDepth 100000
set_option linter.unusedVariables false
noncomputable def isOn (xs : List Str) : List Str → Bool
  | [] => true
  | y :: r => if xs.any (· == y) = true then isOn (xs.drop (xs.idxOf y + 1)) r else false
theorem strOf_at (k : Str) : ∀ {vs : List Value} {ys : List Str}, StrsAre vs ys → ∀ (j : Nat) (h1 : j < vs.length) (h2 : j < ys.length), isStrOf k vs[j] = (ys[j] == k)
  | _, _, .cons n t h, 0, _, _ => rfl
  | _, _, .cons n t h, j + 1, h1, h2 => strOf_at k h j (by simpa using h1) (by simpa using h2)
theorem strs_drop : ∀ {vs : List Value} {ys : List Str}, StrsAre vs ys → ∀ n, StrsAre (vs.drop n) (ys.drop n)
  | _, _, h, 0 => h
  | _, _, .nil, _ + 1 => .nil
  | _, _, .cons _ _ h, n + 1 => strs_drop h n
theorem ne_before {k : Str} : ∀ {ns : List Str} {j : Nat}, j < ns.idxOf k → ∀ (h2 : j < ns.length), (ns[j] == k) = false
  | [], _, h, _ => by simp at h
  | a :: r, j, h, h2 => by
    rw [List.idxOf_cons] at h
    cases q : a == k with
    | true => rw [q] at h; simp at h
    | false =>
      rw [q] at h
      simp only [cond_false] at h
      cases j with
      | zero => exact q
      | succ j => exact ne_before (ns := r) (j := j) (by omega) (by simpa using h2)
section
variable {prog : Program} {w : World} {A : Around} {E : Value → Shared → Prop} {s : Shared} {h₀ : Heap} {L : Addr} {m : Str → Option Value} {news : List (Addr × Obj)}
theorem index_strs {l : Addr} {vs : List Value} {ns : List Str} {k : Str} {t : Tok} {Q : Value → Shared → Prop} (hl : LstAt s.heap l vs) (hi : StrsAre vs ns) (hk : ns.any (· == k) = true) (h : Q (.int (ns.idxOf k : Nat) s.toks) { s with toks := s.toks + 1 }) :
    wpAny (model prog w) A (call (.builtin "list.index") [.ref l, .str k t]) Q E s := by
  have hlen := hi.length
  have hb := hl.len
  obtain ⟨⟨cls, dd, data, sl⟩, ho, hc, n, hd⟩ := id hl.at_
  simp only at hc hd
  subst hc hd
  have hmem : k ∈ ns := by
    obtain ⟨x, hx, e⟩ := List.any_eq_true.mp hk
    rw [← eq_of_beq e]; exact hx
  have hj : ns.idxOf k < ns.length := List.idxOf_lt_length_iff.mpr hmem
  refine call_meets PySem.F.slot_list_index ⟨_, ho, rfl⟩ PySem.F.entry_list_index (PySem.F.args_list_index_2 _ _)
    (PySem.SeqAt.list_indexAt l vs.toArray n dd sl (.str k t) (isStrOf k) (ns.idxOf k) (by simpa [hlen] using hj) (by omega) ?_ ?_) ⟨ho, fun y hy => (eq_isStrOf k t hi y (by simpa using hy)).at _ _, h⟩
  · show isStrOf k vs[ns.idxOf k] = true
    rw [strOf_at k hi _ (by omega) hj]
    simpa using List.getElem_idxOf hj
  · intro j hjs hlt
    show isStrOf k vs[j] = false
    rw [strOf_at k hi j (by simpa using hjs) (by omega)]
    exact ne_before hlt _
theorem clampI {x : Int} {n : Nat} (h : 0 ≤ x) : max 0 (min x (n : Int)) = ((min x.toNat n : Nat) : Int) := by
  obtain ⟨k, rfl⟩ := Int.eq_ofNat_of_zero_le h
  rw [Int.toNat_natCast]
  rcases Nat.le_total k n with hk | hk
  · rw [Int.min_eq_left (Int.ofNat_le.mpr hk), Nat.min_eq_left hk, Int.max_eq_right h]
  · rw [Int.min_eq_right (Int.ofNat_le.mpr hk), Nat.min_eq_right hk, Int.max_eq_right (Int.natCast_nonneg n)]
theorem pick_from (vs : List Value) {x : Int} (h : 0 ≤ x) : slicePick vs.toArray (some x) none none = (vs.drop x.toNat).toArray := by
  have e : sliceBounds (some x) none none vs.toArray.size = (((min x.toNat vs.toArray.size : Nat) : Int), ((vs.toArray.size : Nat) : Int), 1) := by
    simp only [sliceBounds, Option.getD_none, show (1 : Int) > 0 by decide, if_true, if_neg (Int.not_lt.mpr h)]
    rw [clampI h]
  rw [kmk_pick_nat _ e]
  show ((vs.drop (min x.toNat vs.toArray.size)).take (vs.toArray.size - min x.toNat vs.toArray.size)).toArray = _
  rw [List.size_toArray, kmk_drop_min, List.take_of_length_le]
  rw [List.length_drop]
  rcases Nat.le_total x.toNat vs.length with hk | hk
  · rw [Nat.min_eq_left hk]; exact Nat.le_refl _
  · rw [Nat.sub_eq_zero_of_le hk]; exact Nat.zero_le _
theorem slice_from {value slice : PySem.Expr} {l : Addr} {vs : List Value} {x : Int} {tx : Tok} {Q : Value → Shared → Prop} (F : Fr h₀ L s.heap m) (N : News h₀ L s.heap news) (hl : LstAt s.heap l vs) (h0 : 0 ≤ x)
    (h : ∀ D h', Fr h₀ L h' m → News h₀ L h' ((D, lstO (vs.drop x.toNat) 0) :: news) → (∀ p ∈ news, p.1 < D) → Q (.ref D) { s with heap := h' })
    (hs : subscripted slice false (.ref l) (.ref s.heap.objs.size) = operate [.ref s.heap.objs.size, .ref l] (getItem (.ref l) (.ref s.heap.objs.size))) (ht : ∀ r, letTemporaryGo value (.ref l) r = pure ()) :
    wpAny (model prog w) A (subscriptTail value slice (.ref l) (.ref s.heap.objs.size)) Q E { s with heap := s.heap.push { cls := .type "slice", data := .fields #[.int x tx, .none, .none] } } := by
  refine kmk_slice F N hl.at_ (.int x tx) .none (fun D h' F' N' l1 => h D h' F' ?_ l1) hs ht (by have := hl.len; rw [List.size_toArray, sizeLine_eq]; omega)
  rw [pick_from vs h0] at N'
  exact N'
end
local macro_rules | `(tactic| walk_at "call builtin:list.index") => `(tactic| (k_dflt (refine index_strs (by walk_at "my lst") (by assumption) (by assumption) ?_)))
local macro_rules | `(tactic| walk_at "subscriptTail Name Slice ref ref") => `(tactic| (k_here; (with_reducible show wpAny _ _ (subscriptTail _ (PySem.Expr.Slice (some _) none none _) (Value.ref _) (Value.ref _)) _ _ _); k_dflt (refine' slice_from ?F ?N ?l ?z ?_ ?s ?t; (case F => k_asm); (case N => k_asm); (case l => walk_at "my lst"); (case z => omega); (case s => with_unfolding_all rfl); (case t => kmk_pure)); intro D' h' F' N' l1; (try k_lt l1); (try k_sweep)))
set_option maxHeartbeats 800000 in
theorem one_ok {w : World} {mean : ExcName → Option Value} {mg mb : Str → Option Value} (a : Addr) (vs : List Value) :
    Rd w mean mg mb 1 261 [.ref a] (fun h => LstAt h a vs) (fun _ v _ => v = (match vs with | [v] => v | _ => .none)) := by
  w_top off
  refine Rd.enter (binds := [(Str.ofString "spots", .ref a)]) ?_
  rintro dp un gd outer A₀ base L g s₁ B F N X T hd hu hA
  k_fold
  k_steps
  · rename (_ : Int) = 1 => e
    obtain ⟨v, rfl⟩ : ∃ v, vs = [v] := List.length_eq_one_iff.mp (by omega)
    k_steps
  · rename (_ : Int) ≠ 1 => hne
    show Value.none = _
    match vs, hne with
    | [], _ => rfl
    | [v], h => exact absurd rfl h
    | _ :: _ :: _, _ => rfl
set_option maxHeartbeats 800000 in
theorem ison_ok {w : World} {mean : ExcName → Option Value} {mg mb : Str → Option Value} (ar q : Addr) (vs ws : List Value) (xs qs : List Str) (hx : StrsAre vs xs) (hq : StrsAre ws qs) (hl : vs.length ≤ 100) :
    Rd w mean mg mb 1 254 [.ref ar, .ref q] (fun h => (∃ c, h.get? ar = some (lstO vs c)) ∧ TupAt h q ws) (fun _ v _ => v = .bool (isOn xs qs)) := by
  w_top off
  refine Rd.enter (binds := [(Str.ofString "way", .ref ar), (Str.ofString "qualifiers", .ref q)]) ?_
  rintro dp un gd outer A₀ base L g s₁ B F N X T hd hu ⟨hA, hQ⟩
  k_fold
  k_steps
  rename Fr _ _ _ _ => F
  rename News _ _ _ _ => N
  refine go ?_
  (with_unfolding_all refine' For_invVF F ?k1 ?k2 ?_; (case k1 => exact rfl); (case k2 => exact rfl))
  walk1
  refine iterT [Str.ofString "way"] (fun i vals nx => ∃ wr vs' xs', vals = [some (.ref wr)] ∧ StrsAre vs' xs' ∧ vs'.length ≤ 100 ∧ isOn xs qs = isOn xs' (qs.drop i) ∧ (nx = [] ∧ (∃ c, g.get? wr = some (lstO vs' c)) ∨ ∃ c, nx = [(wr, lstO vs' c)])) (vs := ws)
    rfl (hQ.keeps F.keep).at_ (old_ne F hQ.lt) (by simp) F N ⟨ar, vs, xs, rfl, hx, hl, rfl, .inl ⟨rfl, hA⟩⟩ ?_ ?_
  · rintro i v vals nx h tk own hv hoff ⟨wr, vs', xs', rfl, hx', hl', hon, hnx⟩ F₁ N₁
    clear F N
    obtain ⟨y, t', rfl, hyi⟩ := hq.item i v hv
    obtain ⟨c, hP⟩ : ∃ c, h.get? wr = some (lstO vs' c) := by
      rcases hnx with ⟨rfl, c, x⟩ | ⟨c, rfl⟩
      · exact ⟨c, F₁.keep _ _ x⟩
      · exact ⟨c, (N₁ _ (List.Mem.head _)).1⟩
    have hW : LstAt h wr vs' := lst_of ⟨c, hP⟩ (by omega)
    k_steps
    have hdrop : qs.drop i = y :: qs.drop (i + 1) := by
      have := (List.getElem?_eq_some_iff.mp hyi)
      obtain ⟨h1, h2⟩ := this
      rw [List.drop_eq_getElem_cons h1, h2]
    refine notin_list_strs hW.at_ hx' ?_
    cases hany : xs'.any (· == y) with
    | false =>
      k_steps
      show Value.bool false = _
      rw [hon, hdrop]
      show _ = Value.bool (if xs'.any (· == y) = true then _ else false)
      rw [hany]
      rfl
    | true =>
      k_steps
      rename ∀ (p : Addr × Obj), p ∈ _ → p.1 < _ => hlt
      rename Fr _ _ _ _ => F
      rename News _ _ _ _ => N
      have e : ((xs'.idxOf y : Int) + 1).toNat = xs'.idxOf y + 1 := by omega
      rw [e] at N
      refine EndV.intro [(_, lstO (vs'.drop (xs'.idxOf y + 1)) 0)] F N ?_ (fun p hp => List.mem_cons_of_mem _ (List.mem_append_right _ hp)) ?_ ⟨_, vs'.drop (xs'.idxOf y + 1), xs'.drop (xs'.idxOf y + 1), rfl, strs_drop hx' _, by rw [List.length_drop]; omega, ?_, .inr ⟨0, rfl⟩⟩ ?_
      · intro p hp; rw [List.mem_singleton] at hp; subst hp; exact List.Mem.head _
      · intro p hp z hz; rw [List.mem_singleton] at hz; subst hz; exact Nat.ne_of_lt (hlt p (List.mem_append_right _ hp))
      · rw [hon, hdrop]
        show (if xs'.any (· == y) = true then _ else false) = _
        rw [if_pos hany]
      · intro z hz; simp only [NotIn] at hz; simp [hz, put]
  · rintro u vals nx h tk ⟨wr, vs', xs', rfl, hx', hl', hon, hnx⟩ F₁ N₁
    clear F N
    k_steps
    show Value.bool true = _
    rw [hon, hq.length, List.drop_length]
    rfl
end
section
open PySem PySem.W PySem.Calls PySem.Spec PyProof.Rows
set_option linter.unusedVariables false
def cntAt (qs : List Str) (a : Nat) (xs : List Str) : Nat := xs.foldl (fun at_ x => if qs[at_]? = some x then at_ + 1 else at_) a
theorem cntAt_drop (qs : List Str) : ∀ (xs : List Str) (a : Nat), cntAt qs a xs = a + cntAt (qs.drop a) 0 xs := by
  have key : ∀ (xs : List Str) (a b : Nat), cntAt qs (a + b) xs = a + cntAt (qs.drop a) b xs := by
    intro xs
    induction xs with
    | nil => intro a b; rfl
    | cons x r ih =>
      intro a b
      show cntAt qs (if qs[a + b]? = some x then a + b + 1 else a + b) r = a + cntAt (qs.drop a) (if (qs.drop a)[b]? = some x then b + 1 else b) r
      rw [List.getElem?_drop]
      split
      · exact ih a (b + 1)
      · exact ih a b
  intro xs a
  exact key xs a 0
theorem cnt_is (qs xs : List Str) : cnt qs xs = cntAt qs 0 xs := rfl
theorem cntAt_nil (xs : List Str) : ∀ a, cntAt [] a xs = a := by
  induction xs with
  | nil => intro a; rfl
  | cons x r ih => intro a; show cntAt [] (if ([] : List Str)[a]? = some x then a + 1 else a) r = a; rw [if_neg (by simp)]; exact ih a
theorem cntAt_none {y : Str} {r : List Str} : ∀ {xs : List Str}, (xs.any (· == y)) = false → cntAt (y :: r) 0 xs = 0
  | [], _ => rfl
  | x :: xs, h => by
    rw [List.any_cons, Bool.or_eq_false_iff] at h
    show cntAt (y :: r) (if (y :: r)[0]? = some x then 0 + 1 else 0) xs = 0
    rw [if_neg (fun e => by simp only [List.getElem?_cons_zero, Option.some.injEq] at e; rw [e] at h; simp at h)]
    exact cntAt_none h.2
theorem cntAt_some {y : Str} {r : List Str} : ∀ {xs : List Str}, (xs.any (· == y)) = true → cntAt (y :: r) 0 xs = 1 + cntAt r 0 (xs.drop (xs.idxOf y + 1))
  | [], h => by simp at h
  | x :: xs, h => by
    show cntAt (y :: r) (if (y :: r)[0]? = some x then 0 + 1 else 0) xs = _
    by_cases e : y = x
    · subst e
      rw [if_pos (by rfl)]
      rw [cntAt_drop]
      simp
    · rw [if_neg (by simpa using e)]
      have h' : (xs.any (· == y)) = true := by
        rw [List.any_cons, Bool.or_eq_true] at h
        rcases h with h | h
        · exact absurd (eq_of_beq h).symm e
        · exact h
      rw [cntAt_some h']
      rw [List.idxOf_cons, show (x == y) = false by simpa using fun q => e q.symm]
      rfl
theorem leads_isOn : ∀ (qs xs : List Str), leads xs qs = isOn xs qs
  | [], xs => by unfold leads; rw [cnt_is, cntAt_nil]; rfl
  | y :: r, xs => by
    unfold leads
    rw [cnt_is]
    show _ = if xs.any (· == y) = true then isOn (xs.drop (xs.idxOf y + 1)) r else false
    cases h : xs.any (· == y) with
    | false => rw [cntAt_none h]; simp
    | true =>
      rw [cntAt_some h, if_pos rfl, ← leads_isOn r]
      unfold leads
      rw [cnt_is, List.length_cons]
      congr 1
      exact propext (by omega)
theorem isOn_skip {x : Str} (xs : List Str) : ∀ (qs : List Str), x ∉ qs → isOn (x :: xs) qs = isOn xs qs
  | [], _ => rfl
  | y :: r, h => by
    have hxy : (x == y) = false := by simpa using fun e : x = y => h (e ▸ List.mem_cons_self)
    show (if (x :: xs).any (· == y) = true then isOn ((x :: xs).drop ((x :: xs).idxOf y + 1)) r else false) = if xs.any (· == y) = true then isOn (xs.drop (xs.idxOf y + 1)) r else false
    rw [List.any_cons, hxy, Bool.false_or, List.idxOf_cons, hxy]
    rfl
end
local macro_rules | `(tactic| walk_at "call builtin:list.index") => `(tactic| (k_dflt (refine index_strs (by walk_at "my lst") (by assumption) (by assumption) ?_)))
local macro_rules | `(tactic| walk_at "subscriptTail Name Slice ref ref") => `(tactic| (k_here; (with_reducible show wpAny _ _ (subscriptTail _ (PySem.Expr.Slice (some _) none none _) (Value.ref _) (Value.ref _)) _ _ _); k_dflt (refine' slice_from ?F ?N ?l ?z ?_ ?s ?t; (case F => k_asm); (case N => k_asm); (case l => walk_at "my lst"); (case z => omega); (case s => with_unfolding_all rfl); (case t => kmk_pure)); intro D' h' F' N' l1; (try k_lt l1); (try k_sweep)))
local macro_rules | `(tactic| walk_at "exec Try") => `(tactic| (k_here; (with_reducible show wpAny _ _ (exec (Stmt.Try _ (_ :: _) _ [] _) _) _ _ _); refine wpAny_Try_except ?_))
local macro_rules | `(tactic| walk_at "call ref") => `(tactic| ((with_reducible refine at231 ?_); k_dflt (refine' Rx.use (find_ok _ (by assumption) _ _ _ _ _ ?hx ?hq) (by k_asm) (by k_asm) (by k_asm) (by k_asm) (by k_asm) (by exact rfl) (by walk_at "my rm") (by walk_at "my rm") ⟨by walk_at "my gf", by walk_at "my tup"⟩ ?_ ?_; (case hx => assumption); (case hq => assumption); k_whole)))
local macro_rules | `(tactic| walk_at "call ref") => `(tactic| ((with_reducible refine at238 ?_); k_dflt (refine' Rx.use (named_ok _ (by assumption) _ _ _ _ _ ?hx ?hq) (by k_asm) (by k_asm) (by k_asm) (by k_asm) (by k_asm) (by exact rfl) (by walk_at "my rm") (by walk_at "my rm") ⟨by walk_at "my gf", by walk_at "my tup"⟩ ?_ ?_; (case hx => assumption); (case hq => assumption); k_whole)))
section
open PySem PySem.W PySem.Calls PySem.Spec PyProof.Rows
set_option maxRecDepth 100000
set_option linter.unusedVariables false
theorem caught_mine {w : World} {mean : ExcName → Option Value} {mg mb : Str → Option Value} {dp un : Nat} {gd : Option (List Code)} {cn : Str} {cs : Scope} {L a : Addr} {ccd : Value} {outer : List Env} {B G h₀ : Heap} {m : Str → Option Value} {s' : Shared} {e : Addr} {a0 : Value}
    {x : Str} {np pos : Pos} {b₀ : Stmt} {suite : List Stmt} {rest : List ExceptHandler} {Q : Flow → Shared → Prop} {E : Value → Shared → Prop}
    (hfl : Heap.FlyingW B (envOf cn cs L a ccd :: outer) e (.ref 60) a0 s'.heap) (h0B : h₀.StaysIn B) (F : Fr h₀ L G m) (hsm : G.UpToSlots s'.heap) (X : (hd.heap_39 w.params).In h₀) (T : Top PV LS mean mg mb h₀)
    (ex : nsIn (hd.heap_39 w.params) mainGlobals x = some (some (.ref 60)))
    (k : ∀ h', B.StaysIn h' → G.UpToSlots h' → wpAny (model PG w) ((ktrTop dp un gd cn cs L a ccd [] outer).mark (some (.ref e))) (execs (b₀ :: suite) (envOf cn cs L a ccd)) Q E { s' with heap := h' })
    (hk : cs.kind = .function) (hx : (envOf cn cs L a ccd).kindOf x = some .globalImplicit) (hd' : (x == ("__debug__" : Str)) = false)
    (hE : PassesOwnAt (model PG w) ((ktrTop dp un gd cn cs L a ccd [] outer).mark (some (.ref e))) (ktrTop dp un gd cn cs L a ccd [] outer) (envOf cn cs L a ccd) E) :
    wpAny (model PG w) (ktrTop dp un gd cn cs L a ccd [] outer) (noteFrame (.ref e) (envOf cn cs L a ccd))
      (fun _ s₂ => wpAny (model PG w) (ktrTop dp un gd cn cs L a ccd [] outer) (setFlight (.ref e) none) (fun _ s₃ =>
        wpAny (model PG w) (ktrTop dp un gd cn cs L a ccd [] outer) (handleBy (.ref e) (envOf cn cs L a ccd) (.ExceptHandler (some (.Name x np)) none (b₀ :: suite) pos :: rest)) Q E s₃) E s₂) E s' := by
  refine wpAny_looks_onW (env := envOf cn cs L a ccd) (outer := outer) rfl rfl hfl fun h₄ hheld₄ hsm₄ => ?_
  refine wpAny_landsW hheld₄ fun h₅ hheld hsm₅' => ?_
  have hsm₅ := hsm₄.trans hsm₅'
  have F₅ := F.of_stays (fun b o q => hheld.1 _ _ (h0B b o q)) (hsm.trans hsm₅)
  obtain ⟨ob, hob, hobc⟩ := hheld.there
  refine wpAny_handleBy_cons (codeAny_handlers_test (name_K F₅ X (topRead_of T) ex ?_ hk hx hd')) (by intro q; cases q)
  obtain ⟨nm, q, N, bs, sn, sub, ab, col, dd, k0, k1, k2, k3, k5, hC⟩ := cls60 (X.keeps F₅.keep)
  refine wpAny_excMatches_sub_self hC hob hobc (by decide +kernel) (codeAny_handlers_suite ?_)
  refine lands_againW hheld fun h₆ hfl₆ hsm₆ => ?_
  exact wpAny_passesOwnAt hE (k h₆ hfl₆.1 ((hsm.trans hsm₅).trans hsm₆))
def Lw (w : World) (mean : ExcName → Option Value) (mg mb : Str → Option Value) (n : Nat) (f : Addr) (vs : List Value) (pre : Heap → Prop) (post : Heap → Value → Heap → Prop) : Prop :=
  ∀ (dp un : Nat) (gd : Option (List Code)) (cn : Str) (cs : Scope) (a : Addr) (ccd : Value) (cl : List (Str × Addr)) (A₀ : Around) (base h₀ : Heap) (L : Addr) (m : Str → Option Value) (s : Shared) (Q E : Value → Shared → Prop),
    Below A₀ base [] h₀ → Fr h₀ L s.heap m → (hd.heap_39 w.params).In h₀ → Top PV LS mean mg mb h₀ → cs.kind = .function → dp + 10 * n ≤ 900 → un + 100 * n ≤ 9000 → pre s.heap →
    (∀ v h' tk', s.heap.UpToSlots h' → AllBut [L] s.heap h' → post s.heap v h' → Q v { s with heap := h', toks := tk' }) →
    wpAny (model PG w) (ktrTop dp un gd cn cs L a ccd cl []) (call (.ref f) vs) Q E s
def EndL (g : Heap) (L : Addr) (post : Value → Heap → Prop) (s₁ : Shared) (v : Value) (s' : Shared) : Prop :=
  ∃ h' tk', s' = { s₁ with heap := h', toks := tk' } ∧ g.UpToSlots h' ∧ AllBut [L] g h' ∧ post v h'
theorem EndL.stay {g h' : Heap} {L L' : Addr} {m' : Str → Option Value} {post : Value → Heap → Prop} {s₁ : Shared} {v : Value} {tk : Nat} (F : Fr g L' h' m') (hp : post v h') : EndL g L post s₁ v { s₁ with heap := h', toks := tk } :=
  ⟨h', tk, rfl, Heap.UpToSlots.of_keeps F.keep, fun b o _ e => F.keep b o e, hp⟩
theorem EndL.caught {g G B h' : Heap} {L L' : Addr} {m' : Str → Option Value} {post : Value → Heap → Prop} {s₁ : Shared} {v : Value} {tk : Nat} (F : Fr g L' G m') (hB : B = hideAll G [L', L]) (h1 : B.StaysIn h') (h2 : G.UpToSlots h') (hp : post v h') : EndL g L post s₁ v { s₁ with heap := h', toks := tk } := by
  refine ⟨h', tk, rfl, (Heap.UpToSlots.of_keeps F.keep).trans h2, fun b o nb e => h1 b o ?_, hp⟩
  rw [hB]
  refine hideAll_get _ (F.keep b o e) ?_
  intro hm
  rcases List.mem_cons.mp hm with z | hm
  · have h1 := Heap.lt_size e
    have h2 := F.above
    rw [z] at h1
    exact Nat.lt_irrefl _ (Nat.lt_of_lt_of_le h1 h2)
  · exact nb hm
section
variable {w : World} {mean : ExcName → Option Value} {mg mb : Str → Option Value} {n : Nat} {f : Addr} {vs : List Value} {pre : Heap → Prop} {post : Heap → Value → Heap → Prop}
  {name qual : Str} {params : Arguments} {body : List Stmt} {scope : Scope} {dV kV doc pm cdv ct oc : Value} {an od : Option Addr} {osl : Array (Option Value)} {binds : List (Str × Value)}
theorem Lw.enter
    (h : ∀ (dp un : Nat) (gd : Option (List Code)) (env₀ : Env) (A₀ : Around) (base h₀ : Heap) (L L' : Addr) (g : Heap) (s₁ : Shared), env₀.frame = some L → h₀.objs.size ≤ L' → h₀.StaysIn g → h₀.get? L = none → h₀.get? L' = none → (hd.heap_39 w.params).In h₀ → Top PV LS mean mg mb h₀ → Below A₀ base [env₀] g → Fr g L' s₁.heap (fun y => binds.reverse.lookup y) → News g L' s₁.heap [] → (hd.heap_39 w.params).In g → Top PV LS mean mg mb g →
      dp + 10 * n ≤ 901 → un + 100 * n ≤ 9003 → pre g →
      wpAny (model PG w) (ktrTop dp un gd qual scope L' f cdv [] [env₀]) (execs body (envOf qual scope L' f cdv)) (fun fl s' => EndL g L (post g) s₁ (match fl with | .ret v => v | _ => .none) s') (fun _ _ => False) s₁)
    (ho : (hd.heap_39 w.params).lookup f = some ⟨oc, od, .func (fnOf name qual params body scope dV kV doc pm an cdv ct), osl⟩ := by k_is) (hcd : codeIn (hd.heap_39 w.params) cdv qual = true := by k_is)
    (hbind : ∀ s, BindsTo s (fnOf name qual params body scope dV kV doc pm an cdv ct) ⟨vs, []⟩ binds := by (intro _; exact BindsTo.of_eq rfl)) (hloc : ∀ y ∈ binds, scope.names.lookup y.1 = some .local := by exact locs rfl)
    (hco : scope.isCoroutine = false := by exact rfl) (hgen : scope.isGenerator = false := by exact rfl) (hk : scope.kind = .function := by exact rfl) (hcell : ∀ x ∈ scope.names, x.2 ≠ .cell := by decide)
    (hn : 1 ≤ n := by decide) : Lw w mean mg mb n f vs pre post := by
  intro dp un gd cn cs a ccd cl A₀ base h₀ L m s Q E B F X T hkc hd hu hp hret
  refine wpAny_call ?_
  have hroom : (ktrTop dp un gd cn cs L a ccd cl []).depth < recursionLimit := by show dp < 1000; omega
  refine codeAny_call_def (fd := fnOf name qual params body scope dV kV doc pm an cdv ct) (body := body) (binds := binds) hroom ((X.keeps F.keep) _ _ ho) rfl (T.nolimit.keeps F.keep) (codeRec_of (X.keeps F.keep) hcd) rfl (hbind s) hcell hloc (fun h₁ hns hk₁ => ?_) hco hgen hk
  have B' := pushX (env := envX cn cs L a ccd cl) B F rfl hkc
  have hL : h₀.get? L = none := Heap.get?_none_of_le F.above
  have hL' : h₀.get? s.heap.objs.size = none := by
    cases q : h₀.get? s.heap.objs.size with
    | none => rfl
    | some o => have := F.keep _ _ q; rw [Heap.get?_none_of_le (Nat.le_refl _)] at this; cases this
  refine wpAny_mono (h (dp + 1) (un + 3) gd (envX cn cs L a ccd cl) _ base h₀ L s.heap.objs.size s.heap { s with heap := h₁, toks := s.toks + binds.length } rfl (Nat.le_trans F.above (Nat.le_of_lt F.ns.lt)) (fun b o e => F.keep b o e) hL hL' X T B' ⟨hns, hk₁, Nat.le_refl _⟩ N0 (X.keeps F.keep) (T.keeps F.keep) (by omega) (by omega) hp) (fun fl s' hl => ?_) fun _ _ y => y.elim
  obtain ⟨h', tk', rfl, h1, h2, hq⟩ := hl
  exact hret _ h' tk' h1 h2 hq
end
theorem fr_down {h₀ g h : Heap} {L : Addr} {m : Str → Option Value} (F : Fr g L h m) (hst : h₀.StaysIn g) (hab : h₀.objs.size ≤ L) : Fr h₀ L h m := ⟨F.ns, fun b o e => F.keep b o (hst b o e), hab⟩
theorem stay_hide2 {h₀ G : Heap} {L L' : Addr} {cn : Str} {cs : Scope} {a : Addr} {ccd : Value} {env₀ : Env} (k : ∀ b o, h₀.get? b = some o → G.get? b = some o) (hf₀ : env₀.frame = some L) (hL : h₀.get? L = none) (hL' : h₀.get? L' = none) : h₀.StaysIn (hideAll G (placesOf (envX cn cs L' a ccd [] :: [env₀]))) := by
  intro b o e
  refine hideAll_get _ (k b o e) ?_
  intro hm
  simp only [placesOf, List.filterMap_cons, hf₀, List.filterMap_nil, List.mem_cons, List.not_mem_nil, or_false] at hm
  rcases hm with rfl | rfl
  · rw [hL'] at e; cases e
  · rw [hL] at e; cases e
local macro_rules | `(tactic| walk_at "EndL") => `(tactic| (refine halt ?_))
def OneOff (l : List Nat) (v : Value) : Prop := (∃ j t, l = [j] ∧ v = .int (j : Int) t) ∨ (l.length ≠ 1 ∧ v = .none)
set_option maxHeartbeats 1600000 in
theorem item_ok {w : World} {mean : ExcName → Option Value} {mg mb : Str → Option Value} (G : Gh) (O : G.Ok) (x : Str) (tx : Tok) (q : Addr) (ws : List Value) (qs : List Str) (hx : x.length ≤ 100) (hq : StrsAre ws qs) :
    Lw w mean mg mb 7 268 [.ref G.d, .str x tx, .ref q] (fun h => Forest w (inHeap h) G ∧ TupAt h q ws) (fun _ v _ => OneOff (G.all.filter (G.means x qs)) v) := by
  w_top off
  refine Lw.enter (binds := [(Str.ofString "data", .ref G.d), (Str.ofString "who", .str x tx), (Str.ofString "qualifiers", .ref q)]) ?_
  rintro dp un gd env₀ A₀ base h₀ L L' g s₁ hf₀ hab hst hL hL' X₀ T₀ B F N X T hd hu ⟨hG, hT⟩
  k_fold
  k_steps
  · rename IsOne _ _ _ => h1
    obtain ⟨j, hj, rfl⟩ := h1
    have hjn := G.all_lt O (show j ∈ G.all from (List.mem_filter.mp (hj ▸ List.mem_singleton.mpr rfl : j ∈ G.all.filter (G.means x qs))).1)
    have hI := hG.item j hjn
    k_steps
    rename Fr _ _ _ _ => F
    exact go (EndL.stay F (.inl ⟨j, _, hj, rfl⟩))
  · rename Flies _ _ _ _ => hfl
    rename List.length _ ≠ 1 => hne
    obtain ⟨⟨a0, hf⟩, hsl⟩ := hfl
    refine caught_mine hf (stay_hide2 (fun b o e => F.keep b o (hst b o e)) hf₀ hL hL') (fr_down F hst hab) hsl X₀ T₀ (by k_is) (fun h' hB hU => ?_) (by rfl) (by rfl) (by decide) (by passes_own)
    k_steps
    exact go (EndL.caught F (by simp [placesOf, hf₀]) hB hU (.inr ⟨hne, rfl⟩))
def OneMark (G : Gh) (l : List Nat) (h : Heap) (v : Value) : Prop := (∃ j t c t₁ t₂, l = [j] ∧ v = .ref t ∧ h.get? t = some (tupO [.int (j : Int) t₁, .str (Str.ofString "N") t₂, .ref (G.rw j)] c)) ∨ (l.length ≠ 1 ∧ v = .none)
set_option maxHeartbeats 1600000 in
theorem lnamed_ok {w : World} {mean : ExcName → Option Value} {mg mb : Str → Option Value} (G : Gh) (O : G.Ok) (x : Str) (tx : Tok) (q : Addr) (ws : List Value) (qs : List Str) (hx : x.length ≤ 100) (hq : StrsAre ws qs) :
    Lw w mean mg mb 7 275 [.ref G.d, .str x tx, .ref q] (fun h => Forest w (inHeap h) G ∧ TupAt h q ws) (fun _ v h' => OneMark G (G.all.filter (G.hits x qs)) h' v) := by
  w_top off
  refine Lw.enter (binds := [(Str.ofString "data", .ref G.d), (Str.ofString "who", .str x tx), (Str.ofString "qualifiers", .ref q)]) ?_
  rintro dp un gd env₀ A₀ base h₀ L L' g s₁ hf₀ hab hst hL hL' X₀ T₀ B F0 N X T hd hu ⟨hG, hT⟩
  k_fold
  k_steps
  · rename IsPair _ _ _ _ _ => h1
    obtain ⟨j, a, t, c, hj, hm, rfl, htn, hte⟩ := h1
    rename Fr _ _ _ _ => F
    have hjn := G.all_lt O (show j ∈ G.all from (List.mem_filter.mp (hj ▸ List.mem_singleton.mpr rfl : j ∈ G.all.filter (G.hits x qs))).1)
    have hI := hG.item j hjn
    have hN := hG.named j hjn a hm
    have htL : t ≠ L' := by
      rintro rfl
      obtain ⟨o, _, _, q, _⟩ := F0.ns
      rw [htn] at q; cases q
    have hgt : g.get? t = none := by
      cases q : g.get? t with
      | none => rfl
      | some o => rw [F0.keep _ _ q] at htn; cases htn
    have N₂ : News g L' _ [(t, tupO [.ref (G.ad j), .ref a] c)] := fun p hp => by
      rw [List.mem_singleton] at hp; subst hp
      exact ⟨hte, htL, hgt⟩
    k_steps
    rename Fr _ _ _ _ => F
    rename News _ _ _ _ => N
    exact go (EndL.stay F (.inl ⟨j, _, 0, _, _, hj, rfl, (N _ (List.Mem.head _)).1⟩))
  · rename Flies _ _ _ _ => hfl
    rename List.length _ ≠ 1 => hne
    obtain ⟨⟨a0, hf⟩, hsl⟩ := hfl
    refine caught_mine hf (stay_hide2 (fun b o e => F0.keep b o (hst b o e)) hf₀ hL hL') (fr_down F0 hst hab) hsl X₀ T₀ (by k_is) (fun h' hB hU => ?_) (by rfl) (by rfl) (by decide) (by passes_own)
    k_steps
    exact go (EndL.caught F0 (by simp [placesOf, hf₀]) hB hU (.inr ⟨hne, rfl⟩))
end
section
open PySem PySem.W PySem.Calls PySem.Spec PyProof.Rows
set_option maxRecDepth 100000
set_option linter.unusedVariables false
set_option maxHeartbeats 1600000 in
theorem draw_ok {w : World} {mean : ExcName → Option Value} {mg mb : Str → Option Value} {dp un : Nat} {gd : Option (List Code)} {cn : Str} {cs : Scope} {a : Addr} {ccd : Value} {cl : List (Str × Addr)} {outer : List Env} {A₀ : Around} {base h₀ : Heap} {L : Addr} {m : Str → Option Value} {s : Shared} {Q E : Value → Shared → Prop}
    {tp ce : Addr} {n lim : Int} {t u : Tok} {c d : Nat} {vs : List Value} {ns : List Int}
    (B : Below A₀ base outer h₀) (F : Fr h₀ L s.heap m) (X : (hd.heap_39 w.params).In h₀) (T : Top PV LS mean mg mb h₀) (hk : cs.kind = .function) (hd : dp ≤ 880) (hu : un ≤ 8800)
    (N : News h₀ L s.heap [(tp, lstO [.ref ce, .int n t] c), (ce, lstO vs d)]) (hne : @Ne Nat tp ce) (hi : IntsAre vs ns) (hn0 : 0 < ns.length) (hn1 : ns.length ≤ 60) (hl : 0 < lim) (hl9 : lim ≤ 100) (hn : 0 ≤ n)
    (hret : ∀ r t' n' tn c' vs' ns' d' h' tk', 0 ≤ r → r < lim → 0 ≤ n' → AllBut [tp, ce] s.heap h' → h'.get? tp = some (lstO [.ref ce, .int n' tn] c') → h'.get? ce = some (lstO vs' d') → IntsAre vs' ns' → ns'.length = ns.length → Q (.int r t') { s with heap := h', toks := tk' }) :
    wpAny (model PG w) (ktrTop dp un gd cn cs L a ccd cl outer) (call (.ref 245) [.ref tp, .int lim u]) Q E s := by
  w_top off
  refine wpAny_call ?_
  have hroom : (ktrTop dp un gd cn cs L a ccd cl outer).depth < recursionLimit := by show dp < 1000; omega
  refine enter_def (env := envX cn cs L a ccd cl) B F X N T rfl rfl hk (by k_is) (by k_is) hroom (binds := [(Str.ofString "tape", .ref tp), (Str.ofString "limit", .int lim u)]) (by exact BindsTo.of_eq rfl) (by exact locs rfl) ?_ (by exact rfl) (by exact rfl) (by exact rfl) (by decide)
  intro g L' h₁ ab gs st FG F' N' B' X' T' l1
  refine wpAny_mono (E := fun _ _ => False) ?_ (fun _ _ q => q) (fun _ _ q => q.elim)
  clear F N B X T
  k_fold
  have hl0 : lim ≠ 0 := by omega
  k_steps
  all_goals (
    rename Fr _ _ _ _ => F1
    rename News _ _ _ _ => N1
    rename IntsAre _ _ => hi1
    refine leaveK_ F1 N1 fun FF NN => ?_
    refine hret _ _ (n + 1) _ c _ _ d _ _ (Int.fmod_nonneg_of_pos _ hl) (Int.fmod_lt_of_pos _ hl) (by omega) (fun b o nb e => F1.keep b o (ab b o nb e)) (N1 _ (List.Mem.head _)).1 (N1 _ (List.Mem.tail _ (List.Mem.head _))).1 hi1 (by rw [List.length_set]))
end
section
open PySem PySem.W PySem.Calls PySem.Spec PyProof.Rows
set_option linter.unusedVariables false
structure Nw where
  x : Addr
  dx : Addr
  cl : Addr
  kl : Addr
  es : List DictEntry
  nm : Str
  pa : Option Nat
  rm : Nat
  mark : Option Addr
  rw : Addr
  wy : Addr
  mt : Addr
def put1 {α : Type} (f : Nat → α) (n : Nat) (a : α) (i : Nat) : α := if i = n then a else f i
theorem put1_lt {α : Type} {f : Nat → α} {n i : Nat} {a : α} (h : i < n) : put1 f n a i = f i := if_neg (by omega)
theorem put1_self {α : Type} {f : Nat → α} {n : Nat} {a : α} : put1 f n a n = a := if_pos rfl
def Gh.grow (G : Gh) (N : Nw) : Gh where
  n := G.n + 1
  ad := put1 G.ad G.n N.x
  dx := put1 G.dx G.n N.dx
  cl := put1 G.cl G.n N.cl
  kl := put1 G.kl G.n N.kl
  es := put1 G.es G.n N.es
  nm := put1 G.nm G.n N.nm
  pa := put1 G.pa G.n N.pa
  rm := put1 G.rm G.n N.rm
  mark := put1 G.mark G.n N.mark
  rw := put1 G.rw G.n N.rw
  d := G.d
  fd := G.fd
  room := G.room
  wy := put1 G.wy G.n N.wy
  mt := put1 G.mt G.n N.mt
theorem grow_kids (G : Gh) (N : Nw) (i : Nat) : (G.grow N).kids i = G.kids i ++ (if N.pa = some i then [G.n] else []) := by
  unfold Gh.kids
  show (List.range (G.n + 1)).filter (fun j => decide (put1 G.pa G.n N.pa j = some i)) = _
  rw [List.range_succ, List.filter_append]
  congr 1
  · refine List.filter_congr fun j hj => ?_
    rw [put1_lt (List.mem_range.mp hj)]
  · simp only [List.filter_cons, List.filter_nil, put1_self]
    simp
theorem grow_roots (G : Gh) (N : Nw) (r : Nat) : (G.grow N).roots r = G.roots r ++ (if N.pa = none ∧ N.rm = r then [G.n] else []) := by
  unfold Gh.roots
  show (List.range (G.n + 1)).filter (fun j => decide (put1 G.pa G.n N.pa j = none ∧ put1 G.rm G.n N.rm j = r)) = _
  rw [List.range_succ, List.filter_append]
  congr 1
  · refine List.filter_congr fun j hj => ?_
    rw [put1_lt (List.mem_range.mp hj), put1_lt (List.mem_range.mp hj)]
  · simp only [List.filter_cons, List.filter_nil, put1_self]
    simp
theorem grow_ref (G : Gh) (N : Nw) {l : List Nat} (h : ∀ j ∈ l, j < G.n) : l.map (G.grow N).ref = l.map G.ref :=
  List.map_congr_left fun j hj => by show Value.ref (put1 G.ad G.n N.x j) = _; rw [put1_lt (h j hj)]; rfl
theorem grow_ref_n (G : Gh) (N : Nw) : (G.grow N).ref G.n = .ref N.x := by show Value.ref (put1 G.ad G.n N.x G.n) = _; rw [put1_self]
structure Nw.Fit (N : Nw) (G : Gh) : Prop where
  few : G.n + 1 ≤ 9
  fresh : ∀ i, i < G.n → G.ad i ≠ N.x
  par : ∀ p, N.pa = some p → p < G.n
  room : N.rm < 4
  names : N.nm.length ≤ 10
theorem grow_ok {G : Gh} {N : Nw} (O : G.Ok) (T : N.Fit G) : (G.grow N).Ok where
  few := T.few
  inj := fun i j hi hj e => by
    change put1 G.ad G.n N.x i = put1 G.ad G.n N.x j at e
    have hi : i < G.n + 1 := hi
    have hj : j < G.n + 1 := hj
    unfold put1 at e
    split at e <;> split at e
    · omega
    · exact absurd e.symm (T.fresh j (by omega))
    · exact absurd e (T.fresh i (by omega))
    · exact O.inj i j (by omega) (by omega) e
  par := fun i hi j e => by
    change put1 G.pa G.n N.pa i = some j at e
    have hi : i < G.n + 1 := hi
    unfold put1 at e
    split at e
    · have := T.par j e; omega
    · exact O.par i (by omega) j e
  room := fun i hi => by
    show put1 G.rm G.n N.rm i < 4
    have hi : i < G.n + 1 := hi
    unfold put1
    split
    · exact T.room
    · exact O.room i (by omega)
  names := fun i hi => by
    show (put1 G.nm G.n N.nm i).length ≤ 10
    have hi : i < G.n + 1 := hi
    unfold put1
    split
    · exact T.names
    · exact O.names i (by omega)
  sys := O.sys
theorem grow_anc {G : Gh} {N : Nw} (O : G.Ok) (T : N.Fit G) : ∀ (b i : Nat), i < b → i < G.n → (G.grow N).anc i = G.anc i
  | 0, _, h, _ => absurd h (Nat.not_lt_zero _)
  | b + 1, i, h, hi => by
    rw [(G.grow N).anc_eq (grow_ok O T) (show i < G.n + 1 by omega), G.anc_eq O hi]
    show (match put1 G.pa G.n N.pa i with | none => [] | some j => j :: (G.grow N).anc j) = _
    rw [put1_lt hi]
    cases e : G.pa i with
    | none => rfl
    | some p =>
      have := O.par i hi p e
      show p :: _ = p :: _
      rw [grow_anc O T b p (by omega) (by omega)]
theorem grow_anc_n {G : Gh} {N : Nw} (O : G.Ok) (T : N.Fit G) : (G.grow N).anc G.n = match N.pa with | none => [] | some p => p :: G.anc p := by
  rw [(G.grow N).anc_eq (grow_ok O T) (Nat.lt_succ_self _)]
  show (match put1 G.pa G.n N.pa G.n with | none => [] | some j => j :: (G.grow N).anc j) = _
  rw [put1_self]
  cases e : N.pa with
  | none => rfl
  | some p => show p :: _ = p :: _; rw [grow_anc O T _ p (Nat.lt_succ_self _) (T.par p e)]
theorem grow_names_map {G : Gh} {N : Nw} {l : List Nat} (h : ∀ j ∈ l, j < G.n) : l.map (G.grow N).nm = l.map G.nm :=
  List.map_congr_left fun j hj => put1_lt (h j hj)
theorem grow_way {G : Gh} {N : Nw} (O : G.Ok) (T : N.Fit G) {i : Nat} (hi : i < G.n) : (G.grow N).way i = G.way i := by
  have ha := grow_anc O T _ i (Nat.lt_succ_self _) hi
  have hal : ∀ j ∈ G.anc i, j < G.n := fun j hj => Nat.lt_trans (G.anc_lt O _ i (Nat.lt_succ_self _) hi j hj) hi
  have hr : (G.grow N).root i = G.root i := by unfold Gh.root; rw [ha]
  unfold Gh.way Gh.names Gh.file
  rw [ha, grow_names_map hal, hr]
  show _ ++ [if put1 G.rm G.n N.rm (G.root i) = 1 then _ else if put1 G.rm G.n N.rm (G.root i) = 2 then _ else _] = _
  rw [put1_lt (G.root_lt O hi)]
def fileName (r : Nat) : Str := if r = 1 then Str.ofString "F" else if r = 2 then Str.ofString "G" else Str.ofString ""
theorem grow_way_root {G : Gh} {N : Nw} (O : G.Ok) (T : N.Fit G) (hp : N.pa = none) : (G.grow N).way G.n = [fileName N.rm] := by
  have ha := grow_anc_n O T
  rw [hp] at ha
  have hr : (G.grow N).root G.n = G.n := by unfold Gh.root; rw [ha]; rfl
  unfold Gh.way Gh.names Gh.file
  rw [ha, hr]
  show [] ++ [if put1 G.rm G.n N.rm G.n = 1 then _ else if put1 G.rm G.n N.rm G.n = 2 then _ else _] = _
  rw [put1_self]
  rfl
theorem grow_way_child {G : Gh} {N : Nw} (O : G.Ok) (T : N.Fit G) {p : Nat} (hp : N.pa = some p) : (G.grow N).way G.n = (if (G.nm p == Str.ofString "FILLER") = true then [] else [G.nm p]) ++ G.way p := by
  have hpn := T.par p hp
  have ha := grow_anc_n O T
  rw [hp] at ha
  have ha : (G.grow N).anc G.n = p :: G.anc p := ha
  have hal : ∀ j ∈ p :: G.anc p, j < G.n := fun j hj => by
    rcases List.mem_cons.mp hj with rfl | hj
    · exact hpn
    · exact Nat.lt_trans (G.anc_lt O _ p (Nat.lt_succ_self _) hpn j hj) hpn
  have hr : (G.grow N).root G.n = G.root p := by
    unfold Gh.root
    rw [ha, List.getLast?_cons]
    rfl
  unfold Gh.way Gh.names Gh.file
  rw [ha, grow_names_map hal, hr]
  show _ ++ [if put1 G.rm G.n N.rm (G.root p) = 1 then _ else if put1 G.rm G.n N.rm (G.root p) = 2 then _ else _] = _
  rw [put1_lt (G.root_lt O hpn), List.map_cons, List.filter_cons, ← List.append_assoc]
  congr 1
  cases G.nm p == Str.ofString "FILLER" <;> rfl
structure Gh.Apart (G : Gh) : Prop where
  rr : ∀ r r', r < 4 → r' < 4 → G.room r = G.room r' → r = r'
  kk : ∀ i j, i < G.n → j < G.n → G.kl i = G.kl j → i = j
  kr : ∀ i r, i < G.n → r < 4 → G.kl i ≠ G.room r
  cr : ∀ i r, i < G.n → r < 4 → G.cl i ≠ G.room r
  ck : ∀ i j, i < G.n → j < G.n → G.cl i ≠ G.kl j
  wr : ∀ i r, i < G.n → r < 4 → G.wy i ≠ G.room r
  wk : ∀ i j, i < G.n → j < G.n → G.wy i ≠ G.kl j
structure LI (w : World) (P : Place) (G : Gh) : Prop where
  ok : G.Ok
  ap : G.Apart
  fn : ∀ a o o', P a o → P a o' → o = o'
  forest : Forest w P G
  ways : ∀ i, i < G.n → ∃ vs c, P (G.wy i) (lstO vs c) ∧ StrsAre vs (G.way i)
  marks : ∀ i, i < G.n → ∀ a, G.mark i = some a → ∃ t₁ t₂ c, P (G.mt i) (tupO [.int (i : Int) t₁, .str (Str.ofString "N") t₂, .ref (G.rw i)] c)
section
variable {w : World} {P P' : Place} {G : Gh} {N : Nw}
theorem ne_shape {chg a : Addr} {vs : List Value} {c : Nat} {o : Obj} (fn : ∀ a o o', P a o → P a o' → o = o') (hc : P chg (lstO vs c)) (ha : P a o) (hs : o.cls ≠ .type "list") : a ≠ chg := by
  rintro rfl
  exact hs (by rw [fn a o _ ha hc])
theorem dict_ne : Value.type "dict" ≠ Value.type "list" := by decide
theorem tup_ne : Value.type "tuple" ≠ Value.type "list" := by decide
theorem item_stays {chg x dx : Addr} {vs : List Value} {c : Nat} {es : List DictEntry} {name : Str} {par : Option Addr} {cl kl : Addr} {off : Int} (fn : ∀ a o o', P a o → P a o' → o = o') (hc : P chg (lstO vs c)) (keep : ∀ a o, P a o → a ≠ chg → P' a o)
    (I : ItemAt P x dx es name par cl kl off) : ItemAt P' x dx es name par cl kl off :=
  { I with
    inst := keep _ _ I.inst (ne_shape fn hc I.inst (by intro e; cases e))
    dict := let ⟨n, e⟩ := I.dict; ⟨n, keep _ _ e (ne_shape fn hc e dict_ne)⟩ }
theorem named_stays {chg x rows : Addr} {vs : List Value} {c : Nat} (fn : ∀ a o o', P a o → P a o' → o = o') (hc : P chg (lstO vs c)) (keep : ∀ a o, P a o → a ≠ chg → P' a o) (I : NamedAt P x rows) : NamedAt P' x rows :=
  let ⟨dx, es, n, a, b, r⟩ := I.at_; ⟨dx, es, n, keep _ _ a (ne_shape fn hc a (by intro e; cases e)), keep _ _ b (ne_shape fn hc b dict_ne), r⟩
theorem data_stays {chg x fd wk lk : Addr} {vs : List Value} {c : Nat} (fn : ∀ a o o', P a o → P a o' → o = o') (hc : P chg (lstO vs c)) (keep : ∀ a o, P a o → a ≠ chg → P' a o) (I : DataAt P x fd wk lk) : DataAt P' x fd wk lk :=
  let ⟨dx, es, n, a, b, r⟩ := I.at_; ⟨dx, es, n, keep _ _ a (ne_shape fn hc a (by intro e; cases e)), keep _ _ b (ne_shape fn hc b dict_ne), r⟩
theorem files_stays {chg fd fl gl : Addr} {vs : List Value} {c : Nat} (fn : ∀ a o o', P a o → P a o' → o = o') (hc : P chg (lstO vs c)) (keep : ∀ a o, P a o → a ≠ chg → P' a o) (I : FilesAt w P fd fl gl) : FilesAt w P' fd fl gl := by
  obtain ⟨o, a, b⟩ := I.at_
  refine ⟨o, keep _ _ a (ne_shape fn hc a ?_), b⟩
  obtain ⟨es, ep, hx, _⟩ := b
  rw [hx.1]
  decide
theorem LI.grow {chg : Addr} {vs : List Value} {c : Nat} (I : LI w P G) (T : N.Fit G) (fn' : ∀ a o o', P' a o → P' a o' → o = o') (hc : P chg (lstO vs c)) (keep : ∀ a o, P a o → a ≠ chg → P' a o)
    (hitem : ItemAt P' N.x N.dx N.es N.nm (N.pa.map G.ad) N.cl N.kl (G.n : Nat)) (hkl : ∃ c, P' N.kl (lstO [] c)) (hcl : ∃ c, P' N.cl (lstO (N.mark.toList.map .ref) c)) (hnm : ∀ a, N.mark = some a → NamedAt P' a N.rw)
    (hroom : ∀ r, r < 4 → ∃ c, P' (G.room r) (lstO (((G.grow N).roots r).map (G.grow N).ref) c)) (hkids : ∀ i, i < G.n → ∃ c, P' (G.kl i) (lstO (((G.grow N).kids i).map (G.grow N).ref) c))
    (hway : ∃ us c, P' N.wy (lstO us c) ∧ StrsAre us ((G.grow N).way G.n)) (hmt : ∀ a, N.mark = some a → ∃ t₁ t₂ c, P' N.mt (tupO [.int (G.n : Int) t₁, .str (Str.ofString "N") t₂, .ref N.rw] c))
    (hcl0 : ∀ i, i < G.n → G.cl i ≠ chg) (hwy0 : ∀ i, i < G.n → G.wy i ≠ chg)
    (ap : (∀ i, i < G.n → G.kl i ≠ N.kl) ∧ (∀ r, r < 4 → N.kl ≠ G.room r) ∧ (∀ r, r < 4 → N.cl ≠ G.room r) ∧ (∀ i, i < G.n → N.cl ≠ G.kl i) ∧ (∀ i, i < G.n → G.cl i ≠ N.kl) ∧ N.cl ≠ N.kl ∧ (∀ r, r < 4 → N.wy ≠ G.room r) ∧ (∀ i, i < G.n → N.wy ≠ G.kl i) ∧ (∀ i, i < G.n → G.wy i ≠ N.kl) ∧ N.wy ≠ N.kl) : LI w P' (G.grow N) where
  ok := grow_ok I.ok T
  fn := fn'
  ap := by
    obtain ⟨a1, a2, a3, a4, a5, a6, a7, a8, a9, a10⟩ := ap
    have key : ∀ i, i < (G.grow N).n → i = G.n ∨ i < G.n := fun i hi => by have : i < G.n + 1 := hi; omega
    refine ⟨I.ap.rr, fun i j hi hj e => ?_, fun i r hi hr e => ?_, fun i r hi hr e => ?_, fun i j hi hj e => ?_, fun i r hi hr e => ?_, fun i j hi hj e => ?_⟩
    · change put1 G.kl G.n N.kl i = put1 G.kl G.n N.kl j at e
      rcases key i hi with rfl | hi' <;> rcases key j hj with rfl | hj'
      · rfl
      · rw [put1_self, put1_lt hj'] at e; exact absurd e.symm (a1 j hj')
      · rw [put1_self, put1_lt hi'] at e; exact absurd e (a1 i hi')
      · rw [put1_lt hi', put1_lt hj'] at e; exact I.ap.kk i j hi' hj' e
    · change put1 G.kl G.n N.kl i = G.room r at e
      rcases key i hi with rfl | hi'
      · rw [put1_self] at e; exact a2 r hr e
      · rw [put1_lt hi'] at e; exact I.ap.kr i r hi' hr e
    · change put1 G.cl G.n N.cl i = G.room r at e
      rcases key i hi with rfl | hi'
      · rw [put1_self] at e; exact a3 r hr e
      · rw [put1_lt hi'] at e; exact I.ap.cr i r hi' hr e
    · change put1 G.cl G.n N.cl i = put1 G.kl G.n N.kl j at e
      rcases key i hi with rfl | hi' <;> rcases key j hj with rfl | hj'
      · rw [put1_self, put1_self] at e; exact a6 e
      · rw [put1_self, put1_lt hj'] at e; exact a4 j hj' e
      · rw [put1_self, put1_lt hi'] at e; exact a5 i hi' e
      · rw [put1_lt hi', put1_lt hj'] at e; exact I.ap.ck i j hi' hj' e
    · change put1 G.wy G.n N.wy i = G.room r at e
      rcases key i hi with rfl | hi'
      · rw [put1_self] at e; exact a7 r hr e
      · rw [put1_lt hi'] at e; exact I.ap.wr i r hi' hr e
    · change put1 G.wy G.n N.wy i = put1 G.kl G.n N.kl j at e
      rcases key i hi with rfl | hi' <;> rcases key j hj with rfl | hj'
      · rw [put1_self, put1_self] at e; exact a10 e
      · rw [put1_self, put1_lt hj'] at e; exact a8 j hj' e
      · rw [put1_self, put1_lt hi'] at e; exact a9 i hi' e
      · rw [put1_lt hi', put1_lt hj'] at e; exact I.ap.wk i j hi' hj' e
  forest :=
    { data := data_stays I.fn hc keep I.forest.data
      files := files_stays I.fn hc keep I.forest.files
      rooms := hroom
      item := fun i hi => by
        have hi : i < G.n + 1 := hi
        show ItemAt P' (put1 G.ad G.n N.x i) (put1 G.dx G.n N.dx i) (put1 G.es G.n N.es i) (put1 G.nm G.n N.nm i) ((put1 G.pa G.n N.pa i).map (put1 G.ad G.n N.x)) (put1 G.cl G.n N.cl i) (put1 G.kl G.n N.kl i) i
        by_cases e : i = G.n
        · subst e
          simp only [put1_self]
          have : N.pa.map (put1 G.ad G.n N.x) = N.pa.map G.ad := by
            cases q : N.pa with
            | none => rfl
            | some p => show some _ = some _; rw [put1_lt (T.par p q)]
          rw [this]
          exact hitem
        · have hi' : i < G.n := by omega
          simp only [put1_lt hi']
          have : (G.pa i).map (put1 G.ad G.n N.x) = (G.pa i).map G.ad := by
            cases q : G.pa i with
            | none => rfl
            | some p => have := I.ok.par i hi' p q; show some _ = some _; rw [put1_lt (by omega)]
          rw [this]
          exact item_stays I.fn hc keep (I.forest.item i hi')
      kids := fun i hi => by
        have hi : i < G.n + 1 := hi
        show ∃ c, P' (put1 G.kl G.n N.kl i) (lstO (((G.grow N).kids i).map (G.grow N).ref) c)
        by_cases e : i = G.n
        · subst e
          rw [put1_self]
          have : (G.grow N).kids G.n = [] := by
            rw [grow_kids]
            have h1 : G.kids G.n = [] := by
              unfold Gh.kids
              rw [List.filter_eq_nil_iff]
              intro j hj q
              have := I.ok.par j (List.mem_range.mp hj) G.n (by simpa using q)
              have := List.mem_range.mp hj
              omega
            rw [h1, if_neg (fun q => Nat.lt_irrefl _ (T.par _ q))]
            rfl
          rw [this]
          exact hkl
        · have hi' : i < G.n := by omega
          rw [put1_lt hi']
          exact hkids i hi'
      conds := fun i hi => by
        have hi : i < G.n + 1 := hi
        show ∃ c, P' (put1 G.cl G.n N.cl i) (lstO ((put1 G.mark G.n N.mark i).toList.map .ref) c)
        by_cases e : i = G.n
        · subst e
          rw [put1_self, put1_self]
          exact hcl
        · have hi' : i < G.n := by omega
          rw [put1_lt hi', put1_lt hi']
          obtain ⟨c, q⟩ := I.forest.conds i hi'
          exact ⟨c, keep _ _ q (hcl0 i hi')⟩
      named := fun i hi a e => by
        have hi : i < G.n + 1 := hi
        change put1 G.mark G.n N.mark i = some a at e
        show NamedAt P' a (put1 G.rw G.n N.rw i)
        by_cases q : i = G.n
        · subst q
          rw [put1_self] at e ⊢
          exact hnm a e
        · have hi' : i < G.n := by omega
          rw [put1_lt hi'] at e ⊢
          exact named_stays I.fn hc keep (I.forest.named i hi' a e) }
  ways := fun i hi => by
    have hi : i < G.n + 1 := hi
    show ∃ vs c, P' (put1 G.wy G.n N.wy i) (lstO vs c) ∧ StrsAre vs ((G.grow N).way i)
    by_cases e : i = G.n
    · subst e
      rw [put1_self]
      exact hway
    · have hi' : i < G.n := by omega
      rw [put1_lt hi', grow_way I.ok T hi']
      obtain ⟨vs, c, q, hs⟩ := I.ways i hi'
      exact ⟨vs, c, keep _ _ q (hwy0 i hi'), hs⟩
  marks := fun i hi a e => by
    have hi : i < G.n + 1 := hi
    change put1 G.mark G.n N.mark i = some a at e
    show ∃ t₁ t₂ c, P' (put1 G.mt G.n N.mt i) (tupO [.int (i : Int) t₁, .str (Str.ofString "N") t₂, .ref (put1 G.rw G.n N.rw i)] c)
    by_cases q : i = G.n
    · subst q
      rw [put1_self] at e ⊢
      rw [put1_self]
      exact hmt a e
    · have hi' : i < G.n := by omega
      rw [put1_lt hi'] at e ⊢
      rw [put1_lt hi']
      obtain ⟨t₁, t₂, c', z⟩ := I.marks i hi' a e
      exact ⟨t₁, t₂, c', keep _ _ z (ne_shape I.fn hc z tup_ne)⟩
end
end
section
open PySem PySem.W PySem.Calls PySem.Spec PyProof.Rows
set_option maxRecDepth 100000
set_option linter.unusedVariables false
theorem isStr_two {v : Value} {a b : Str} (h : v.isStr a = true) (k : v.isStr b = true) : a = b := by
  cases v <;> simp [Value.isStr] at h k
  rw [← h, ← k]
theorem find_putL (name name' : Str) (hsh : Int) (t : Tok) (v : Value) : ∀ es : List DictEntry,
    ((putL name' hsh (.str name' t) v es).find? (·.key.isStr name)).map (·.val) = if name = name' then some v else (es.find? (·.key.isStr name)).map (·.val)
  | [] => by
    show (([⟨hsh, .str name' t, v⟩] : List DictEntry).find? (·.key.isStr name)).map (·.val) = _
    by_cases h : name = name'
    · subst h; simp [Value.isStr]
    · simp [Value.isStr, h, Ne.symm h]
  | e :: r => by
    show ((if e.key.isStr name' then ⟨e.hash, e.key, v⟩ :: r else e :: putL name' hsh (.str name' t) v r).find? (·.key.isStr name)).map (·.val) = _
    cases h : e.key.isStr name' with
    | true =>
      simp only [if_true, List.find?_cons]
      cases k : e.key.isStr name with
      | true => rw [if_pos (isStr_two k h)]; rfl
      | false => rw [if_neg (fun q => by rw [q, h] at k; cases k)]
    | false =>
      simp only [Bool.false_eq_true, if_false, List.find?_cons]
      cases k : e.key.isStr name with
      | true => rw [if_neg (fun q => by rw [q, h] at k; cases k)]
      | false => exact find_putL name name' hsh t v r
theorem any_putL (name' : Str) (hsh : Int) (t : Tok) (v : Value) : ∀ es : List DictEntry, (putL name' hsh (.str name' t) v es).any (·.refKey) = es.any (·.refKey)
  | [] => rfl
  | e :: r => by
    show (if e.key.isStr name' then ⟨e.hash, e.key, v⟩ :: r else e :: putL name' hsh (.str name' t) v r).any (·.refKey) = _
    cases h : e.key.isStr name' with
    | true => rfl
    | false =>
      simp only [Bool.false_eq_true, if_false, List.any_cons, any_putL name' hsh t v r]
theorem getL_is (name : Str) (es : List DictEntry) : getL name es = match (es.find? (·.key.isStr name)).map (·.val) with | some v => some (some v) | none => if es.any (·.refKey) then none else some none := by
  unfold getL
  cases es.find? (·.key.isStr name) <;> rfl
theorem getL_putL (name name' : Str) (hsh : Int) (t : Tok) (v : Value) (es : List DictEntry) : getL name (putL name' hsh (.str name' t) v es) = if name = name' then some (some v) else getL name es := by
  rw [getL_is, find_putL, any_putL, getL_is]
  by_cases h : name = name'
  · simp [h]
  · simp [h]
theorem putL_len (name' : Str) (hsh : Int) (key v : Value) : ∀ es : List DictEntry, (putL name' hsh key v es).length ≤ es.length + 1
  | [] => Nat.le_refl _
  | e :: r => by
    show (if e.key.isStr name' then ⟨e.hash, e.key, v⟩ :: r else e :: putL name' hsh key v r).length ≤ _
    split
    · exact Nat.le_succ _
    · have := putL_len name' hsh key v r
      show (putL name' hsh key v r).length + 1 ≤ r.length + 1 + 1
      omega
structure Entries (es : List DictEntry) (name : Str) (par : Value) (cl kl : Addr) (off : Int) (b : Nat) : Prop where
  name : ∃ t, getL (Str.ofString "name") es = some (some (.str name t))
  par : getL (Str.ofString "parent") es = some (some par)
  cl : getL (Str.ofString "conditions") es = some (some (.ref cl))
  kl : getL (Str.ofString "kids") es = some (some (.ref kl))
  off : ∃ t, getL (Str.ofString "offset") es = some (some (.int off t))
  add : getL (Str.ofString "add") es = some none
  len : es.length ≤ b
theorem Entries.setOff {es : List DictEntry} {name : Str} {par : Value} {cl kl : Addr} {off k : Int} {b : Nat} {hsh : Int} {t u : Tok} (I : Entries es name par cl kl off b) : Entries (putL (Str.ofString "offset") hsh (.str (Str.ofString "offset") t) (.int k u) es) name par cl kl k (b + 1) where
  name := by rw [getL_putL, if_neg (by decide)]; exact I.name
  par := by rw [getL_putL, if_neg (by decide)]; exact I.par
  cl := by rw [getL_putL, if_neg (by decide)]; exact I.cl
  kl := by rw [getL_putL, if_neg (by decide)]; exact I.kl
  off := by rw [getL_putL, if_pos rfl]; exact ⟨u, rfl⟩
  add := by rw [getL_putL, if_neg (by decide)]; exact I.add
  len := Nat.le_trans (putL_len _ _ _ _ _) (Nat.succ_le_succ I.len)
theorem Entries.setPar {es : List DictEntry} {name : Str} {par p' : Value} {cl kl : Addr} {off : Int} {b : Nat} {hsh : Int} {t : Tok} (I : Entries es name par cl kl off b) : Entries (putL (Str.ofString "parent") hsh (.str (Str.ofString "parent") t) p' es) name p' cl kl off (b + 1) where
  name := by rw [getL_putL, if_neg (by decide)]; exact I.name
  par := by rw [getL_putL, if_pos rfl]
  cl := by rw [getL_putL, if_neg (by decide)]; exact I.cl
  kl := by rw [getL_putL, if_neg (by decide)]; exact I.kl
  off := by rw [getL_putL, if_neg (by decide)]; exact I.off
  add := by rw [getL_putL, if_neg (by decide)]; exact I.add
  len := Nat.le_trans (putL_len _ _ _ _ _) (Nat.succ_le_succ I.len)
theorem Entries.item {P : Place} {x dx : Addr} {es : List DictEntry} {name : Str} {par : Option Addr} {cl kl : Addr} {off : Int} {b n : Nat} (I : Entries es name (refV par) cl kl off b) (hb : b ≤ 40) (h1 : P x (instObj 135 dx)) (h2 : P dx (dictOf es n)) : ItemAt P x dx es name par cl kl off :=
  ⟨h1, ⟨n, h2⟩, I.name, I.par, I.cl, I.kl, I.off, I.add, Nat.le_trans I.len hb⟩
section
variable {w : World} {A : Around} {E : Value → Shared → Prop} {s : Shared} {h₀ : Heap} {L : Addr} {m : Str → Option Value} {news news' : List (Addr × Obj)} {x dx : Addr} {es : List DictEntry} {n : Nat} {v : Value} {Q : Unit → Shared → Prop}
theorem set_item {name : Str} (F : Fr h₀ L s.heap m) (X : (hd.heap_39 w.params).In h₀) (N : News h₀ L s.heap news) (h1 : (x, instObj 135 dx) ∈ news) (h2 : (dx, dictOf es n) ∈ news)
    (ht : takerIn (hd.heap_39 w.params) 135 name = some none) (hl : (getL name es).isSome = true) (hz : es.length ≤ 900)
    (U : Upd dx (dictOf es n) (dictOf (putL name (PyData.keyHash w.params name) (.str name (s.toks + 1)) v es) (putN name es n)) news news')
    (h : ∀ h', Fr h₀ L h' m → News h₀ L h' news' → Q () { s with heap := h', toks := s.toks + 2 }) : wpAny (model PG w) A (setAttr (.ref x) name v) Q E s :=
  set_dict F X N (InstAt.of_news N h1 h2) rfl (by k_is) (by k_is) ht (by k_is) hl rfl U (by have := putL_len name (PyData.keyHash w.params name) (.str name (s.toks + 1)) v es; omega) h
end
end
section
local macro_rules | `(tactic| walk_at "zz") => `(tactic| skip)
open PySem PySem.W PySem.Calls PySem.Spec PyProof.Rows
set_option maxRecDepth 100000
set_option linter.unusedVariables false
theorem pack4 {h₀ h : Heap} {L : Addr} {e₁ e₂ e₃ e₄ : Addr × Obj} {nx : List (Addr × Obj)} (h1 : h.get? e₁.1 = some e₁.2 ∧ e₁.1 ≠ L ∧ h₀.get? e₁.1 = none) (h2 : h.get? e₂.1 = some e₂.2 ∧ e₂.1 ≠ L ∧ h₀.get? e₂.1 = none) (h3 : h.get? e₃.1 = some e₃.2 ∧ e₃.1 ≠ L ∧ h₀.get? e₃.1 = none) (h4 : h.get? e₄.1 = some e₄.2 ∧ e₄.1 ≠ L ∧ h₀.get? e₄.1 = none)
    (N : News h₀ L h nx) : News h₀ L h (e₁ :: e₂ :: e₃ :: e₄ :: nx) := fun p hp => by
  rcases List.mem_cons.mp hp with rfl | hp
  · exact h1
  rcases List.mem_cons.mp hp with rfl | hp
  · exact h2
  rcases List.mem_cons.mp hp with rfl | hp
  · exact h3
  rcases List.mem_cons.mp hp with rfl | hp
  · exact h4
  exact N p hp
theorem pack2 {h₀ h : Heap} {L : Addr} {e₁ e₂ : Addr × Obj} {nx : List (Addr × Obj)} (h1 : h.get? e₁.1 = some e₁.2 ∧ e₁.1 ≠ L ∧ h₀.get? e₁.1 = none) (h2 : h.get? e₂.1 = some e₂.2 ∧ e₂.1 ≠ L ∧ h₀.get? e₂.1 = none)
    (N : News h₀ L h nx) : News h₀ L h (e₁ :: e₂ :: nx) := fun p hp => by
  rcases List.mem_cons.mp hp with rfl | hp
  · exact h1
  rcases List.mem_cons.mp hp with rfl | hp
  · exact h2
  exact N p hp
set_option maxHeartbeats 1600000 in
theorem make_item {w : World} {mean : ExcName → Option Value} {mg mb : Str → Option Value} {dp un : Nat} {gd : Option (List Code)} {cn : Str} {cs : Scope} {a : Addr} {ccd : Value} {cl : List (Str × Addr)} {outer : List Env} {A₀ : Around} {base h₀ : Heap} {L : Addr} {m : Str → Option Value} {s : Shared} {Q E : Value → Shared → Prop}
    {lv : Int} {tl tw : Tok} {who : Str} {nx : List (Addr × Obj)}
    (B : Below A₀ base outer h₀) (F : Fr h₀ L s.heap m) (X : (hd.heap_39 w.params).In h₀) (T : Top PV LS mean mg mb h₀) (hk : cs.kind = .function) (hd : dp ≤ 880) (hu : un ≤ 8800) (N : News h₀ L s.heap nx)
    (hret : ∀ x dx cl kl es n h' tk', Fr h₀ L h' m → News h₀ L h' ((x, instObj 135 dx) :: (dx, dictOf es n) :: (kl, lstO [] 0) :: (cl, lstO [] 0) :: nx) → (∀ p ∈ nx, p.1 < dx) → @LT.lt Nat _ dx x → @LT.lt Nat _ x cl → @LT.lt Nat _ cl kl → (∀ p ∈ nx, p.1 < cl) → Entries es who .none cl kl 0 30 → Q (.ref x) { s with heap := h', toks := tk' }) :
    wpAny (model PG w) (ktrTop dp un gd cn cs L a ccd cl outer) (call (.ref 135) [.int lv tl, .str who tw]) Q E s := by
  w_top off
  refine call_cls (fI := 104) F X N (by k_is) (by k_is) (by k_is) fun x dx h' F' N' l1 l2 => ?_
  have hroom : ((ktrTop dp un gd cn cs L a ccd cl outer).under (.builtin "type.__call__" ⟨.ref 135 :: [.int lv tl, .str who tw], []⟩)).depth < recursionLimit := by simp only [depth_under_make]; show dp + 1 < 1000; omega
  have N2 : News h₀ L h' [(x, instObj 135 dx), (dx, dictOf [] 0)] := fun p hp => N' p (by rcases List.mem_cons.mp hp with rfl | hp; exact .head _; rw [List.mem_singleton.mp hp]; exact .tail _ (.head _))
  refine enter_def (s := { s with heap := h' }) (env := envX cn cs L a ccd cl) B F' X N2 T (by exact rfl) rfl hk (by k_is) (by k_is) hroom (binds := [(Str.ofString "self", .ref x), (Str.ofString "level", .int lv tl), (Str.ofString "name", .str who tw)]) (by exact BindsTo.of_eq rfl) (by exact locs rfl) ?_ (by exact rfl) (by exact rfl) (by exact rfl) (by decide)
  intro g L' h₁ ab gs st FG F'' N'' B' X' T' l3
  refine wpAny_mono (E := fun _ _ => False) ?_ (fun _ _ q => q) (fun _ _ q => q.elim)
  clear F N F' N2 B X T
  k_fold
  have l2 : @LT.lt Nat _ dx x := l2
  k_steps
  rename Fr _ _ _ _ => F1
  rename News _ _ _ _ => N1
  refine leaveK_ F1 N1 fun FF NN => ?_
  refine ⟨rfl, ?_⟩
  have hnx : News h₀ L _ nx := fun p hp => ⟨F1.keep _ _ (ab _ _ (by
    have := l1 p hp
    intro hm
    rcases List.mem_cons.mp hm with z | hm
    · rw [z] at this; exact Nat.lt_irrefl _ (Nat.lt_trans this l2)
    · rw [List.mem_singleton.mp hm] at this; exact Nat.lt_irrefl _ this) (N' p (.tail _ (.tail _ hp))).1), (N' p (.tail _ (.tail _ hp))).2⟩
  refine' hret x dx _ _ _ _ _ _ FF (pack4 (NN _ (.tail _ (.tail _ (.head _)))) (NN _ (.tail _ (.tail _ (.tail _ (.head _))))) (NN _ (.head _)) (NN _ (.tail _ (.head _))) hnx) l1 l2 ?_ ?_ ?_ ?_
  · omega
  · omega
  · intro p hp
    have := l1 p hp
    have : @LT.lt Nat _ p.1 dx := this
    show @LT.lt Nat _ p.1 _
    omega
  · exact ⟨⟨_, by k_get⟩, by k_get, by k_get, by k_get, ⟨_, by k_get⟩, by k_get, by exact Nat.le_of_ble_eq_true rfl⟩
set_option maxHeartbeats 1600000 in
theorem make_named {w : World} {mean : ExcName → Option Value} {mg mb : Str → Option Value} {dp un : Nat} {gd : Option (List Code)} {cn : Str} {cs : Scope} {a : Addr} {ccd : Value} {cl : List (Str × Addr)} {outer : List Env} {A₀ : Around} {base h₀ : Heap} {L : Addr} {m : Str → Option Value} {s : Shared} {Q E : Value → Shared → Prop}
    {tn : Tok} {rt : Addr} {vs : List Value} {c : Nat} {nx : List (Addr × Obj)}
    (B : Below A₀ base outer h₀) (F : Fr h₀ L s.heap m) (X : (hd.heap_39 w.params).In h₀) (T : Top PV LS mean mg mb h₀) (hk : cs.kind = .function) (hd : dp ≤ 880) (hu : un ≤ 8800) (N : News h₀ L s.heap nx) (hrt : (rt, tupO vs c) ∈ nx)
    (hret : ∀ x dx es n h' tk', Fr h₀ L h' m → News h₀ L h' ((x, instObj 86 dx) :: (dx, dictOf es n) :: nx) → (∀ p ∈ nx, p.1 < dx) → @LT.lt Nat _ dx x → (∃ t, getL (Str.ofString "name") es = some (some (.str (Str.ofString "N") t))) → getL (Str.ofString "rows") es = some (some (.ref rt)) → Q (.ref x) { s with heap := h', toks := tk' }) :
    wpAny (model PG w) (ktrTop dp un gd cn cs L a ccd cl outer) (call (.ref 86) [.str (Str.ofString "N") tn, .ref rt]) Q E s := by
  w_top off
  refine call_cls (fI := 76) F X N (by k_is) (by k_is) (by k_is) fun x dx h' F' N' l1 l2 => ?_
  have hroom : ((ktrTop dp un gd cn cs L a ccd cl outer).under (.builtin "type.__call__" ⟨.ref 86 :: [.str (Str.ofString "N") tn, .ref rt], []⟩)).depth < recursionLimit := by simp only [depth_under_make]; show dp + 1 < 1000; omega
  have N2 : News h₀ L h' [(x, instObj 86 dx), (dx, dictOf [] 0)] := fun p hp => N' p (by rcases List.mem_cons.mp hp with rfl | hp; exact .head _; rw [List.mem_singleton.mp hp]; exact .tail _ (.head _))
  refine enter_def (s := { s with heap := h' }) (env := envX cn cs L a ccd cl) B F' X N2 T (by exact rfl) rfl hk (by k_is) (by k_is) hroom (binds := [(Str.ofString "self", .ref x), (Str.ofString "name", .str (Str.ofString "N") tn), (Str.ofString "rows", .ref rt)]) (by exact BindsTo.of_eq rfl) (by exact locs rfl) ?_ (by exact rfl) (by exact rfl) (by exact rfl) (by decide)
  intro g L' h₁ ab gs st FG F'' N'' B' X' T' l3
  refine wpAny_mono (E := fun _ _ => False) ?_ (fun _ _ q => q) (fun _ _ q => q.elim)
  clear F N F' N2 B X T
  k_fold
  have l2 : @LT.lt Nat _ dx x := l2
  have hoff : ∀ p ∈ nx, p.1 ∉ [x, dx] := fun p hp hm => by
    have := l1 p hp
    rcases List.mem_cons.mp hm with z | hm
    · rw [z] at this; exact Nat.lt_irrefl _ (Nat.lt_trans this l2)
    · rw [List.mem_singleton.mp hm] at this; exact Nat.lt_irrefl _ this
  have hgt : IsTup g rt vs.toArray := ⟨_, ab _ _ (hoff _ hrt) (N' _ (.tail _ (.tail _ hrt))).1, rfl, c, rfl⟩
  k_steps
  rename Fr _ _ _ _ => F1
  rename News _ _ _ _ => N1
  refine leaveK_ F1 N1 fun FF NN => ?_
  refine ⟨rfl, ?_⟩
  have hnx : News h₀ L _ nx := fun p hp => ⟨F1.keep _ _ (ab _ _ (hoff p hp) (N' p (.tail _ (.tail _ hp))).1), (N' p (.tail _ (.tail _ hp))).2⟩
  refine' hret x dx _ _ _ _ FF (pack2 (NN _ (.head _)) (NN _ (.tail _ (.head _))) hnx) l1 l2 ⟨_, by k_get⟩ (by k_get)
set_option maxHeartbeats 1600000 in
theorem add_ok {w : World} {mean : ExcName → Option Value} {mg mb : Str → Option Value} {dp un : Nat} {gd : Option (List Code)} {cn : Str} {cs : Scope} {a : Addr} {ccd : Value} {cl : List (Str × Addr)} {outer : List Env} {A₀ : Around} {base h₀ : Heap} {L : Addr} {m : Str → Option Value} {s : Shared} {Q E : Value → Shared → Prop}
    {x dx px pdx pcl klp xcl xkl : Addr} {es pes : List DictEntry} {n c b : Nat} {vs : List Value} {pname xname : Str} {ppar : Option Addr} {poff xoff : Int} {xpar : Value}
    (B : Below A₀ base outer h₀) (F : Fr h₀ L s.heap m) (X : (hd.heap_39 w.params).In h₀) (T : Top PV LS mean mg mb h₀) (hk : cs.kind = .function) (hd : dp ≤ 880) (hu : un ≤ 8800)
    (N : News h₀ L s.heap [(x, instObj 135 dx), (dx, dictOf es n), (klp, lstO vs c)]) (h1 : @Ne Nat x dx) (h2 : @Ne Nat klp x) (h3 : @Ne Nat klp dx) (I : ItemAt (inHeap s.heap) px pdx pes pname ppar pcl klp poff) (h4 : px ∉ [x, dx, klp]) (h5 : pdx ∉ [x, dx, klp])
    (J : Entries es xname xpar xcl xkl xoff b) (hb : b ≤ 39) (hz : vs.length ≤ 100)
    (hret : ∀ h' tk' hsh t n', Fr h₀ L h' m → AllBut [x, dx, klp] s.heap h' → h'.get? x = some (instObj 135 dx) → h'.get? dx = some (dictOf (putL (Str.ofString "parent") hsh (.str (Str.ofString "parent") t) (.ref px) es) n') → h'.get? klp = some (lstO (vs ++ [.ref x]) (c + 1)) → Q .none { s with heap := h', toks := tk' }) :
    wpAny (model PG w) (ktrTop dp un gd cn cs L a ccd cl outer) (call (.ref 111) [.ref px, .ref x]) Q E s := by
  w_top off
  refine wpAny_call ?_
  have hroom : (ktrTop dp un gd cn cs L a ccd cl outer).depth < recursionLimit := by show dp < 1000; omega
  refine enter_def (env := envX cn cs L a ccd cl) B F X N T rfl rfl hk (by k_is) (by k_is) hroom (binds := [(Str.ofString "self", .ref px), (Str.ofString "kid", .ref x)]) (by exact BindsTo.of_eq rfl) (by exact locs rfl) ?_ (by exact rfl) (by exact rfl) (by exact rfl) (by decide)
  intro g L' h₁ ab gs st FG F' N' B' X' T' l1
  refine wpAny_mono (E := fun _ _ => False) ?_ (fun _ _ q => q) (fun _ _ q => q.elim)
  clear F N B X T
  k_fold
  have I' : ItemAt (inHeap g) px pdx pes pname ppar pcl klp poff := { I with inst := ab _ _ h4 I.inst, dict := let ⟨n, e⟩ := I.dict; ⟨n, ab _ _ h5 e⟩ }
  have hps : vs.toArray.size ≤ sizeLine := by rw [List.size_toArray, sizeLine_eq]; omega
  k_steps
  refine set_item F' X' N' (.head _) (.tail _ (.head _)) (by k_is) (by rw [J.par]; rfl) (by have := J.len; omega) (by k_upd) fun h₂ F₂ N₂ => ?_
  clear F' N'
  k_steps
  rename Fr _ _ _ _ => F1
  rename News _ _ _ _ => N1
  refine leaveK_ F1 N1 fun FF NN => ?_
  rw [List.push_toArray] at NN
  exact hret _ _ _ _ _ FF (fun b o nb e => F1.keep b o (ab b o nb e)) (NN _ (.head _)).1 (NN _ (.tail _ (.head _))).1 (NN _ (.tail _ (.tail _ (.head _)))).1
end
section
open PySem PySem.W PySem.Calls PySem.Spec PyProof.Rows
set_option maxRecDepth 100000
set_option linter.unusedVariables false
def setL (d : Addr) (o' : Obj) (l : List (Addr × Obj)) : List (Addr × Obj) := l.map fun p => if p.1 = d then (d, o') else p
theorem setL_fst (d : Addr) (o' : Obj) (l : List (Addr × Obj)) : (setL d o' l).map (·.1) = l.map (·.1) := by
  unfold setL
  rw [List.map_map]
  refine List.map_congr_left fun p _ => ?_
  show (if p.1 = d then (d, o') else p).1 = p.1
  split
  · exact (by assumption : p.1 = d).symm
  · rfl
theorem setL_keep {d a : Addr} {o o' : Obj} {l : List (Addr × Obj)} (h : (a, o) ∈ l) (ne : a ≠ d) : (a, o) ∈ setL d o' l :=
  List.mem_map.mpr ⟨(a, o), h, if_neg ne⟩
theorem setL_has {d : Addr} {o o' : Obj} {l : List (Addr × Obj)} (h : (d, o) ∈ l) : (d, o') ∈ setL d o' l := List.mem_map.mpr ⟨(d, o), h, if_pos rfl⟩
theorem setL_off {d a : Addr} {o' : Obj} {l : List (Addr × Obj)} (h : ∀ p ∈ l, p.1 ≠ a) : ∀ p ∈ setL d o' l, p.1 ≠ a := fun p hp => by
  have : p.1 ∈ (setL d o' l).map (·.1) := List.mem_map_of_mem hp
  rw [setL_fst] at this
  obtain ⟨q, hq, e⟩ := List.mem_map.mp this
  rw [← e]
  exact h q hq
theorem setL_id {d : Addr} {o' : Obj} {l : List (Addr × Obj)} (h : ∀ p ∈ l, p.1 ≠ d) : setL d o' l = l := by
  unfold setL
  conv => rhs; rw [← List.map_id l]
  exact List.map_congr_left fun p hp => if_neg (h p hp)
theorem upd_fl {d : Addr} {o o' : Obj} {own : List (Addr × Obj)} (ho : ∀ p ∈ own, p.1 ≠ d) : ∀ {l : List (Addr × Obj)}, (l.map (·.1)).Nodup → (d, o) ∈ l → Upd d o o' (l ++ own) (setL d o' l ++ own)
  | [], _, h => nomatch h
  | p :: r, nd, h => by
    rw [List.map_cons, List.nodup_cons] at nd
    rcases List.mem_cons.mp h with e | h
    · subst e
      have hr : ∀ q ∈ r, q.1 ≠ d := fun q hq e => nd.1 (by have := List.mem_map_of_mem (f := (·.1)) hq; rw [e] at this; exact this)
      show Upd d o o' ((d, o) :: (r ++ own)) ((if d = d then (d, o') else (d, o)) :: (setL d o' r ++ own))
      rw [if_pos rfl, setL_id hr]
      exact .head fun q hq => (List.mem_append.mp hq).elim (hr q) (ho q)
    · have hp : p.1 ≠ d := fun e => nd.1 (by have := List.mem_map_of_mem (f := (·.1)) h; rw [← e] at this; exact this)
      show Upd d o o' (p :: (r ++ own)) ((if p.1 = d then (d, o') else p) :: (setL d o' r ++ own))
      rw [if_neg hp]
      exact .tail hp (upd_fl ho nd.2 h)
theorem nodup_fn {l : List (Addr × Obj)} : (l.map (·.1)).Nodup → ∀ a o o', (a, o) ∈ l → (a, o') ∈ l → o = o'
  | h => by
    induction l with
    | nil => intro a o o' x; cases x
    | cons p r ih =>
      rw [List.map_cons, List.nodup_cons] at h
      intro a o o' x y
      rcases List.mem_cons.mp x with rfl | hx <;> rcases List.mem_cons.mp y with e | hy
      · exact (Prod.mk.inj e).2.symm
      · exact absurd (show a ∈ r.map (·.1) from List.mem_map_of_mem (f := (·.1)) hy) h.1
      · subst e; exact absurd (show a ∈ r.map (·.1) from List.mem_map_of_mem (f := (·.1)) hx) h.1
      · exact ih h.2 a o o' hx hy
section
variable {prog : Program} {w : World} {A : Around} {E : Value → Shared → Prop} {s : Shared} {Q : Value → Shared → Prop}
theorem item_room {value slice : PySem.Expr} {ra : Addr} {room : Nat → Addr} {r : Int} {u : Tok} (h0 : 0 ≤ r) (h4 : r < 4) (x : LstAt s.heap ra [.ref (room 0), .ref (room 1), .ref (room 2), .ref (room 3)]) (h : ∀ ρ : Nat, ρ < 4 → r = ρ → Q (.ref (room ρ)) s)
    (hs : subscripted slice false (.ref ra) (.int r u) = operate [.ref ra, .int r u] (getItem (.ref ra) (.int r u)) := by with_unfolding_all rfl) : wpAny (model prog w) A (subscriptTail value slice (.ref ra) (.int r u)) Q E s := by
  obtain ⟨ρ, rfl⟩ := Int.eq_ofNat_of_zero_le h0
  have hρ : ρ < 4 := by omega
  refine item_lstAt x h0 (v := .ref (room ρ)) ?_ (h ρ hρ rfl) hs
  match ρ, hρ with
  | 0, _ => rfl
  | 1, _ => rfl
  | 2, _ => rfl
  | 3, _ => rfl
theorem item_range {value slice : PySem.Expr} {a : Addr} {n : Nat} {f : Nat → Value} {r : Int} {u : Tok} (h0 : 0 ≤ r) (hn : r < n) (x : LstAt s.heap a ((List.range n).map f)) (h : ∀ j : Nat, j < n → r = j → Q (f j) s)
    (hs : subscripted slice false (.ref a) (.int r u) = operate [.ref a, .int r u] (getItem (.ref a) (.int r u)) := by with_unfolding_all rfl) : wpAny (model prog w) A (subscriptTail value slice (.ref a) (.int r u)) Q E s := by
  obtain ⟨j, rfl⟩ := Int.eq_ofNat_of_zero_le h0
  have hj : j < n := by omega
  refine item_lstAt x h0 (v := f j) ?_ (h j hj rfl) hs
  rw [Int.toNat_natCast, List.getElem?_map, List.getElem?_range hj]
  rfl
theorem method_append {a : Addr} {vs : List Value} {c : Nat} {pl : Sem Bool} {Q : Value × List Value → Shared → Prop} (e : s.heap.get? a = some (lstO vs c)) (h : Q (.builtin "list.append", [.ref a]) s) : wpAny (model prog w) A (getMethod (.ref a) (Str.ofString "append") pl) Q E s :=
  getMethod_builtin ⟨_, e, rfl⟩ PySem.F.plainAttrs_list PySem.F.slot_list_append PySem.F.type_list_append (fun a q => by cases q; exact ⟨_, e, rfl⟩) h
theorem pick_run (vs : List Value) {x y : Int} (h : 0 ≤ x) (h2 : 0 ≤ y) : slicePick vs.toArray (some x) (some y) none = ((vs.drop x.toNat).take (min y.toNat vs.length - min x.toNat vs.length)).toArray := by
  have e : sliceBounds (some x) (some y) none vs.toArray.size = (((min x.toNat vs.toArray.size : Nat) : Int), ((min y.toNat vs.toArray.size : Nat) : Int), 1) := by
    simp only [sliceBounds, Option.getD_none, show (1 : Int) > 0 by decide, if_true, if_neg (Int.not_lt.mpr h), if_neg (Int.not_lt.mpr h2)]
    rw [clampI h, clampI h2]
  rw [kmk_pick_nat _ e]
  show ((vs.drop (min x.toNat vs.toArray.size)).take (min y.toNat vs.toArray.size - min x.toNat vs.toArray.size)).toArray = _
  rw [List.size_toArray, kmk_drop_min]
theorem slice_run {h₀ : Heap} {L : Addr} {m : Str → Option Value} {news : List (Addr × Obj)} {value slice : PySem.Expr} {l : Addr} {vs : List Value} {x y : Int} {tx ty : Tok} {Q : Value → Shared → Prop} (F : Fr h₀ L s.heap m) (N : News h₀ L s.heap news) (hl : LstAt s.heap l vs) (h0 : 0 ≤ x) (h1 : 0 ≤ y)
    (h : ∀ D h', Fr h₀ L h' m → News h₀ L h' ((D, lstO ((vs.drop x.toNat).take (min y.toNat vs.length - min x.toNat vs.length)) 0) :: news) → (∀ p ∈ news, p.1 < D) → Q (.ref D) { s with heap := h' })
    (hs : subscripted slice false (.ref l) (.ref s.heap.objs.size) = operate [.ref s.heap.objs.size, .ref l] (getItem (.ref l) (.ref s.heap.objs.size))) (ht : ∀ r, letTemporaryGo value (.ref l) r = pure ()) :
    wpAny (model prog w) A (subscriptTail value slice (.ref l) (.ref s.heap.objs.size)) Q E { s with heap := s.heap.push { cls := .type "slice", data := .fields #[.int x tx, .int y ty, .none] } } := by
  refine kmk_slice F N hl.at_ (.int x tx) (.int y ty) (fun D h' F' N' l1 => h D h' F' ?_ l1) hs ht (by have := hl.len; rw [List.size_toArray, sizeLine_eq]; omega)
  rw [pick_run vs h0 h1] at N'
  exact N'
end
end
section
open PySem PySem.W PySem.Calls PySem.Spec PyProof.Rows
set_option maxRecDepth 100000
set_option linter.unusedVariables false
def LawRest (w : World) (j : Nat) (P : List Stmt → Scope → Str → Prop) : Prop :=
  ∀ (name qual : Str) (params : Arguments) (body : List Stmt) (scope : Scope) (dV kV doc pm cdv ct oc : Value) (an od : Option Addr) (osl : Array (Option Value)),
    (hd.heap_39 w.params).lookup 280 = some ⟨oc, od, .func (fnOf name qual params body scope dV kV doc pm an cdv ct), osl⟩ → P (body.drop j) scope qual
def LawTurn (w : World) (j : Nat) (P : List Stmt → Scope → Str → Prop) : Prop :=
  ∀ (name qual : Str) (params : Arguments) (body : List Stmt) (scope : Scope) (dV kV doc pm cdv ct oc : Value) (an od : Option Addr) (osl : Array (Option Value)) (tg it : PySem.Expr) (fb oe : List Stmt) (ps : Pos),
    (hd.heap_39 w.params).lookup 280 = some ⟨oc, od, .func (fnOf name qual params body scope dV kV doc pm an cdv ct), osl⟩ → body[5]? = some (.For tg it fb oe ps) → P (fb.drop j) scope qual
structure Inv (w : World) (L tp ce ia wa ma ra d : Addr) (G : Gh) (fl : List (Addr × Obj)) (n : Int) (vs : List Value) (ns : List Int) (oQ oWho oW oI oT : Obj) : Prop where
  d : G.d = d
  li : LI w (inLed fl) G
  are : IntsAre vs ns
  pos0 : 0 < ns.length
  few : ns.length ≤ 60
  pos : 0 ≤ n
  cQ : ∃ u, oQ.data = .cell u
  cWho : ∃ u, oWho.data = .cell u
  cW : oW.data = .cell (Option.some (.ref wa))
  cI : oI.data = .cell (Option.some (.ref ia))
  cT : oT.data = .cell (Option.some (.ref tp))
  f1 : ∀ p ∈ fl, p.1 ≠ tp
  f2 : ∀ p ∈ fl, p.1 ≠ ce
  f3 : ∀ p ∈ fl, p.1 ≠ L + 1 + 1 + 1 + 1
  f4 : ∀ p ∈ fl, p.1 ≠ L + 1 + 1 + 1 + 1 + 1
  f5 : ∀ p ∈ fl, p.1 ≠ ia
  f6 : ∀ p ∈ fl, p.1 ≠ wa
  f7 : ∀ p ∈ fl, p.1 ≠ ma
  f8 : ∀ p ∈ fl, p.1 ≠ L + 1 + 1 + 1
  f9 : ∀ p ∈ fl, p.1 ≠ L + 1 + 1
  f10 : ∀ p ∈ fl, p.1 ≠ L + 1
  f11 : ∀ p ∈ fl, p.1 ≠ ra
  nd : (fl.map (·.1)).Nodup
  o1 : @LT.lt Nat _ (L + 1 + 1 + 1 + 1 + 1) ce
  o2 : @LT.lt Nat _ ce tp
  o3 : @LT.lt Nat _ tp ra
  o4 : @LT.lt Nat _ ra ia
  o5 : @LT.lt Nat _ ia wa
  o6 : @LT.lt Nat _ wa ma
def Apart (a b : Nat) : Prop := a ≠ b
theorem Apart.l {a b : Nat} (h : Apart a b) : a ≠ b := h
theorem Apart.r {a b : Nat} (h : Apart a b) : b ≠ a := fun e => h e.symm
theorem Apart.lt {a b : Nat} (h : @LT.lt Nat _ a b) : Apart a b := Nat.ne_of_lt h
theorem room0 {d b c : Nat} (h : d ≤ b) (e : b ≤ c) : d ≤ c := Nat.le_trans h e
theorem room1 {d b k c : Nat} (h : d ≤ b) (e : b + k ≤ c) : d + k ≤ c := Nat.le_trans (Nat.add_le_add_right h k) e
structure Sep (L tp ce ia wa ma ra : Addr) : Prop where
  s0_1 : Apart (L + 1) (L + 1 + 1)
  s0_2 : Apart (L + 1) (L + 1 + 1 + 1)
  s0_3 : Apart (L + 1) (L + 1 + 1 + 1 + 1)
  s0_4 : Apart (L + 1) (L + 1 + 1 + 1 + 1 + 1)
  s0_5 : Apart (L + 1) (ce)
  s0_6 : Apart (L + 1) (tp)
  s0_7 : Apart (L + 1) (ra)
  s0_8 : Apart (L + 1) (ia)
  s0_9 : Apart (L + 1) (wa)
  s0_10 : Apart (L + 1) (ma)
  s1_2 : Apart (L + 1 + 1) (L + 1 + 1 + 1)
  s1_3 : Apart (L + 1 + 1) (L + 1 + 1 + 1 + 1)
  s1_4 : Apart (L + 1 + 1) (L + 1 + 1 + 1 + 1 + 1)
  s1_5 : Apart (L + 1 + 1) (ce)
  s1_6 : Apart (L + 1 + 1) (tp)
  s1_7 : Apart (L + 1 + 1) (ra)
  s1_8 : Apart (L + 1 + 1) (ia)
  s1_9 : Apart (L + 1 + 1) (wa)
  s1_10 : Apart (L + 1 + 1) (ma)
  s2_3 : Apart (L + 1 + 1 + 1) (L + 1 + 1 + 1 + 1)
  s2_4 : Apart (L + 1 + 1 + 1) (L + 1 + 1 + 1 + 1 + 1)
  s2_5 : Apart (L + 1 + 1 + 1) (ce)
  s2_6 : Apart (L + 1 + 1 + 1) (tp)
  s2_7 : Apart (L + 1 + 1 + 1) (ra)
  s2_8 : Apart (L + 1 + 1 + 1) (ia)
  s2_9 : Apart (L + 1 + 1 + 1) (wa)
  s2_10 : Apart (L + 1 + 1 + 1) (ma)
  s3_4 : Apart (L + 1 + 1 + 1 + 1) (L + 1 + 1 + 1 + 1 + 1)
  s3_5 : Apart (L + 1 + 1 + 1 + 1) (ce)
  s3_6 : Apart (L + 1 + 1 + 1 + 1) (tp)
  s3_7 : Apart (L + 1 + 1 + 1 + 1) (ra)
  s3_8 : Apart (L + 1 + 1 + 1 + 1) (ia)
  s3_9 : Apart (L + 1 + 1 + 1 + 1) (wa)
  s3_10 : Apart (L + 1 + 1 + 1 + 1) (ma)
  s4_5 : Apart (L + 1 + 1 + 1 + 1 + 1) (ce)
  s4_6 : Apart (L + 1 + 1 + 1 + 1 + 1) (tp)
  s4_7 : Apart (L + 1 + 1 + 1 + 1 + 1) (ra)
  s4_8 : Apart (L + 1 + 1 + 1 + 1 + 1) (ia)
  s4_9 : Apart (L + 1 + 1 + 1 + 1 + 1) (wa)
  s4_10 : Apart (L + 1 + 1 + 1 + 1 + 1) (ma)
  s5_6 : Apart (ce) (tp)
  s5_7 : Apart (ce) (ra)
  s5_8 : Apart (ce) (ia)
  s5_9 : Apart (ce) (wa)
  s5_10 : Apart (ce) (ma)
  s6_7 : Apart (tp) (ra)
  s6_8 : Apart (tp) (ia)
  s6_9 : Apart (tp) (wa)
  s6_10 : Apart (tp) (ma)
  s7_8 : Apart (ra) (ia)
  s7_9 : Apart (ra) (wa)
  s7_10 : Apart (ra) (ma)
  s8_9 : Apart (ia) (wa)
  s8_10 : Apart (ia) (ma)
  s9_10 : Apart (wa) (ma)
structure SepN (L tp ce ia wa ma ra p : Addr) : Prop where
  t0 : Apart (L + 1) p
  t1 : Apart (L + 1 + 1) p
  t2 : Apart (L + 1 + 1 + 1) p
  t3 : Apart (L + 1 + 1 + 1 + 1) p
  t4 : Apart (L + 1 + 1 + 1 + 1 + 1) p
  t5 : Apart (ce) p
  t6 : Apart (tp) p
  t7 : Apart (ra) p
  t8 : Apart (ia) p
  t9 : Apart (wa) p
  t10 : Apart (ma) p
theorem sep_of {L tp ce ia wa ma ra : Addr} (o1 : @LT.lt Nat _ (L + 1 + 1 + 1 + 1 + 1) ce) (o2 : @LT.lt Nat _ ce tp) (o3 : @LT.lt Nat _ tp ra) (o4 : @LT.lt Nat _ ra ia) (o5 : @LT.lt Nat _ ia wa) (o6 : @LT.lt Nat _ wa ma) : Sep L tp ce ia wa ma ra := by
  have l0_1 : @LT.lt Nat _ (L + 1) (L + 1 + 1) := Nat.lt_succ_self _
  have l1_2 : @LT.lt Nat _ (L + 1 + 1) (L + 1 + 1 + 1) := Nat.lt_succ_self _
  have l2_3 : @LT.lt Nat _ (L + 1 + 1 + 1) (L + 1 + 1 + 1 + 1) := Nat.lt_succ_self _
  have l3_4 : @LT.lt Nat _ (L + 1 + 1 + 1 + 1) (L + 1 + 1 + 1 + 1 + 1) := Nat.lt_succ_self _
  have l4_5 : @LT.lt Nat _ (L + 1 + 1 + 1 + 1 + 1) (ce) := o1
  have l5_6 : @LT.lt Nat _ (ce) (tp) := o2
  have l6_7 : @LT.lt Nat _ (tp) (ra) := o3
  have l7_8 : @LT.lt Nat _ (ra) (ia) := o4
  have l8_9 : @LT.lt Nat _ (ia) (wa) := o5
  have l9_10 : @LT.lt Nat _ (wa) (ma) := o6
  have l0_2 : @LT.lt Nat _ (L + 1) (L + 1 + 1 + 1) := Nat.lt_trans l0_1 l1_2
  have l0_3 : @LT.lt Nat _ (L + 1) (L + 1 + 1 + 1 + 1) := Nat.lt_trans l0_2 l2_3
  have l0_4 : @LT.lt Nat _ (L + 1) (L + 1 + 1 + 1 + 1 + 1) := Nat.lt_trans l0_3 l3_4
  have l0_5 : @LT.lt Nat _ (L + 1) (ce) := Nat.lt_trans l0_4 l4_5
  have l0_6 : @LT.lt Nat _ (L + 1) (tp) := Nat.lt_trans l0_5 l5_6
  have l0_7 : @LT.lt Nat _ (L + 1) (ra) := Nat.lt_trans l0_6 l6_7
  have l0_8 : @LT.lt Nat _ (L + 1) (ia) := Nat.lt_trans l0_7 l7_8
  have l0_9 : @LT.lt Nat _ (L + 1) (wa) := Nat.lt_trans l0_8 l8_9
  have l0_10 : @LT.lt Nat _ (L + 1) (ma) := Nat.lt_trans l0_9 l9_10
  have l1_3 : @LT.lt Nat _ (L + 1 + 1) (L + 1 + 1 + 1 + 1) := Nat.lt_trans l1_2 l2_3
  have l1_4 : @LT.lt Nat _ (L + 1 + 1) (L + 1 + 1 + 1 + 1 + 1) := Nat.lt_trans l1_3 l3_4
  have l1_5 : @LT.lt Nat _ (L + 1 + 1) (ce) := Nat.lt_trans l1_4 l4_5
  have l1_6 : @LT.lt Nat _ (L + 1 + 1) (tp) := Nat.lt_trans l1_5 l5_6
  have l1_7 : @LT.lt Nat _ (L + 1 + 1) (ra) := Nat.lt_trans l1_6 l6_7
  have l1_8 : @LT.lt Nat _ (L + 1 + 1) (ia) := Nat.lt_trans l1_7 l7_8
  have l1_9 : @LT.lt Nat _ (L + 1 + 1) (wa) := Nat.lt_trans l1_8 l8_9
  have l1_10 : @LT.lt Nat _ (L + 1 + 1) (ma) := Nat.lt_trans l1_9 l9_10
  have l2_4 : @LT.lt Nat _ (L + 1 + 1 + 1) (L + 1 + 1 + 1 + 1 + 1) := Nat.lt_trans l2_3 l3_4
  have l2_5 : @LT.lt Nat _ (L + 1 + 1 + 1) (ce) := Nat.lt_trans l2_4 l4_5
  have l2_6 : @LT.lt Nat _ (L + 1 + 1 + 1) (tp) := Nat.lt_trans l2_5 l5_6
  have l2_7 : @LT.lt Nat _ (L + 1 + 1 + 1) (ra) := Nat.lt_trans l2_6 l6_7
  have l2_8 : @LT.lt Nat _ (L + 1 + 1 + 1) (ia) := Nat.lt_trans l2_7 l7_8
  have l2_9 : @LT.lt Nat _ (L + 1 + 1 + 1) (wa) := Nat.lt_trans l2_8 l8_9
  have l2_10 : @LT.lt Nat _ (L + 1 + 1 + 1) (ma) := Nat.lt_trans l2_9 l9_10
  have l3_5 : @LT.lt Nat _ (L + 1 + 1 + 1 + 1) (ce) := Nat.lt_trans l3_4 l4_5
  have l3_6 : @LT.lt Nat _ (L + 1 + 1 + 1 + 1) (tp) := Nat.lt_trans l3_5 l5_6
  have l3_7 : @LT.lt Nat _ (L + 1 + 1 + 1 + 1) (ra) := Nat.lt_trans l3_6 l6_7
  have l3_8 : @LT.lt Nat _ (L + 1 + 1 + 1 + 1) (ia) := Nat.lt_trans l3_7 l7_8
  have l3_9 : @LT.lt Nat _ (L + 1 + 1 + 1 + 1) (wa) := Nat.lt_trans l3_8 l8_9
  have l3_10 : @LT.lt Nat _ (L + 1 + 1 + 1 + 1) (ma) := Nat.lt_trans l3_9 l9_10
  have l4_6 : @LT.lt Nat _ (L + 1 + 1 + 1 + 1 + 1) (tp) := Nat.lt_trans l4_5 l5_6
  have l4_7 : @LT.lt Nat _ (L + 1 + 1 + 1 + 1 + 1) (ra) := Nat.lt_trans l4_6 l6_7
  have l4_8 : @LT.lt Nat _ (L + 1 + 1 + 1 + 1 + 1) (ia) := Nat.lt_trans l4_7 l7_8
  have l4_9 : @LT.lt Nat _ (L + 1 + 1 + 1 + 1 + 1) (wa) := Nat.lt_trans l4_8 l8_9
  have l4_10 : @LT.lt Nat _ (L + 1 + 1 + 1 + 1 + 1) (ma) := Nat.lt_trans l4_9 l9_10
  have l5_7 : @LT.lt Nat _ (ce) (ra) := Nat.lt_trans l5_6 l6_7
  have l5_8 : @LT.lt Nat _ (ce) (ia) := Nat.lt_trans l5_7 l7_8
  have l5_9 : @LT.lt Nat _ (ce) (wa) := Nat.lt_trans l5_8 l8_9
  have l5_10 : @LT.lt Nat _ (ce) (ma) := Nat.lt_trans l5_9 l9_10
  have l6_8 : @LT.lt Nat _ (tp) (ia) := Nat.lt_trans l6_7 l7_8
  have l6_9 : @LT.lt Nat _ (tp) (wa) := Nat.lt_trans l6_8 l8_9
  have l6_10 : @LT.lt Nat _ (tp) (ma) := Nat.lt_trans l6_9 l9_10
  have l7_9 : @LT.lt Nat _ (ra) (wa) := Nat.lt_trans l7_8 l8_9
  have l7_10 : @LT.lt Nat _ (ra) (ma) := Nat.lt_trans l7_9 l9_10
  have l8_10 : @LT.lt Nat _ (ia) (ma) := Nat.lt_trans l8_9 l9_10
  exact ⟨.lt l0_1, .lt l0_2, .lt l0_3, .lt l0_4, .lt l0_5, .lt l0_6, .lt l0_7, .lt l0_8, .lt l0_9, .lt l0_10, .lt l1_2, .lt l1_3, .lt l1_4, .lt l1_5, .lt l1_6, .lt l1_7, .lt l1_8, .lt l1_9, .lt l1_10, .lt l2_3, .lt l2_4, .lt l2_5, .lt l2_6, .lt l2_7, .lt l2_8, .lt l2_9, .lt l2_10, .lt l3_4, .lt l3_5, .lt l3_6, .lt l3_7, .lt l3_8, .lt l3_9, .lt l3_10, .lt l4_5, .lt l4_6, .lt l4_7, .lt l4_8, .lt l4_9, .lt l4_10, .lt l5_6, .lt l5_7, .lt l5_8, .lt l5_9, .lt l5_10, .lt l6_7, .lt l6_8, .lt l6_9, .lt l6_10, .lt l7_8, .lt l7_9, .lt l7_10, .lt l8_9, .lt l8_10, .lt l9_10⟩
theorem sepN_of {L tp ce ia wa ma ra p : Addr} (o1 : @LT.lt Nat _ (L + 1 + 1 + 1 + 1 + 1) ce) (o2 : @LT.lt Nat _ ce tp) (o3 : @LT.lt Nat _ tp ra) (o4 : @LT.lt Nat _ ra ia) (o5 : @LT.lt Nat _ ia wa) (o6 : @LT.lt Nat _ wa ma) (h : @LT.lt Nat _ ma p) : SepN L tp ce ia wa ma ra p := by
  have k10 : @LT.lt Nat _ (ma) p := h
  have k9 : @LT.lt Nat _ (wa) p := Nat.lt_trans o6 k10
  have k8 : @LT.lt Nat _ (ia) p := Nat.lt_trans o5 k9
  have k7 : @LT.lt Nat _ (ra) p := Nat.lt_trans o4 k8
  have k6 : @LT.lt Nat _ (tp) p := Nat.lt_trans o3 k7
  have k5 : @LT.lt Nat _ (ce) p := Nat.lt_trans o2 k6
  have k4 : @LT.lt Nat _ (L + 1 + 1 + 1 + 1 + 1) p := Nat.lt_trans o1 k5
  have k3 : @LT.lt Nat _ (L + 1 + 1 + 1 + 1) p := Nat.lt_trans (Nat.lt_succ_self _) k4
  have k2 : @LT.lt Nat _ (L + 1 + 1 + 1) p := Nat.lt_trans (Nat.lt_succ_self _) k3
  have k1 : @LT.lt Nat _ (L + 1 + 1) p := Nat.lt_trans (Nat.lt_succ_self _) k2
  have k0 : @LT.lt Nat _ (L + 1) p := Nat.lt_trans (Nat.lt_succ_self _) k1
  exact ⟨.lt k0, .lt k1, .lt k2, .lt k3, .lt k4, .lt k5, .lt k6, .lt k7, .lt k8, .lt k9, .lt k10⟩
def marked (G : Gh) : List Nat := (List.range G.n).filter fun i => (G.mark i).isSome
abbrev fixed (L tp ce ia wa ma ra : Addr) (G : Gh) (n : Int) (t : Tok) (c d ci cw cm cr : Nat) (vs : List Value) (oQ oWho oW oI oT : Obj) (fl : List (Addr × Obj)) : List (Addr × Obj) :=
  (tp, lstO [.ref ce, .int n t] c) :: (ce, lstO vs d) :: (L + 1 + 1 + 1 + 1 + 1, oQ) :: (L + 1 + 1 + 1 + 1, oWho) :: (L + 1 + 1 + 1, oW) :: (L + 1 + 1, oI) :: (L + 1, oT) ::
    (ia, lstO ((List.range G.n).map G.ref) ci) :: (wa, lstO ((List.range G.n).map fun i => .ref (G.wy i)) cw) :: (ma, lstO ((marked G).map fun i => .ref (G.mt i)) cm) :: (ra, lstO [.ref (G.room 0), .ref (G.room 1), .ref (G.room 2), .ref (G.room 3)] cr) :: fl
theorem upd_mem {D : Addr} {o o' : Obj} {l l' : List (Addr × Obj)} (U : Upd D o o' l l') : (∀ p ∈ l', p = (D, o') ∨ (p ∈ l ∧ p.1 ≠ D)) := by
  induction U with
  | head h => intro p hp; rcases List.mem_cons.mp hp with rfl | hp; exact .inl rfl; exact .inr ⟨.tail _ hp, h p hp⟩
  | tail h _ ih =>
    intro p hp
    rcases List.mem_cons.mp hp with rfl | hp
    · exact .inr ⟨.head _, h⟩
    · rcases ih p hp with e | ⟨a, b⟩
      · exact .inl e
      · exact .inr ⟨.tail _ a, b⟩
theorem draw_use {w : World} {mean : ExcName → Option Value} {mg mb : Str → Option Value} {dp un : Nat} {gd : Option (List Code)} {cn : Str} {cs : Scope} {a : Addr} {ccd : Value} {cl : List (Str × Addr)} {outer : List Env} {A₀ : Around} {base h₀ : Heap} {L : Addr} {m : Str → Option Value} {s : Shared} {Q E : Value → Shared → Prop}
    {tp ce : Addr} {n lim : Int} {t u : Tok} {c d : Nat} {vs : List Value} {ns : List Int} {news : List (Addr × Obj)} {news' : Obj → Obj → List (Addr × Obj)}
    (B : Below A₀ base outer h₀) (F : Fr h₀ L s.heap m) (X : (hd.heap_39 w.params).In h₀) (T : Top PV LS mean mg mb h₀) (hk : cs.kind = .function) (hd : dp ≤ 880) (hu : un ≤ 8800)
    (N : News h₀ L s.heap news) (h1 : (tp, lstO [.ref ce, .int n t] c) ∈ news) (h2 : (ce, lstO vs d) ∈ news)
    (U : ∀ o₁ o₂, ∃ mid, Upd tp (lstO [.ref ce, .int n t] c) o₁ news mid ∧ Upd ce (lstO vs d) o₂ mid (news' o₁ o₂))
    (hi : IntsAre vs ns) (hn0 : 0 < ns.length) (hn1 : ns.length ≤ 60) (hl : 0 < lim) (hl9 : lim ≤ 100) (hn : 0 ≤ n)
    (ret : ∀ r t' n' tn c' vs' ns' d' h' tk', 0 ≤ r → r < lim → 0 ≤ n' → Fr h₀ L h' m → News h₀ L h' (news' (lstO [.ref ce, .int n' tn] c') (lstO vs' d')) → IntsAre vs' ns' → ns'.length = ns.length → 0 < ns'.length → ns'.length ≤ 60 → Q (.int r t') { s with heap := h', toks := tk' }) :
    wpAny (model PG w) (ktrTop dp un gd cn cs L a ccd cl outer) (call (.ref 245) [.ref tp, .int lim u]) Q E s := by
  have hne : tp ≠ ce := by
    obtain ⟨mid, U1, U2⟩ := U (lstO [] 0) (lstO [] 1)
    rintro rfl
    obtain ⟨pre, post, e1, e2, a1, a2⟩ := U2.split
    have : (tp, lstO vs d) ∈ mid := by rw [e1]; simp
    rcases upd_mem U1 _ this with e | ⟨_, q⟩
    · have e := (Prod.mk.inj e).2
      obtain ⟨pre', post', f1, f2, b1, b2⟩ := U1.split
      have h3 := N _ h1
      have h4 := N _ h2
      rw [h3.1] at h4
      have h5 := Option.some.inj h4.1
      have h6 : lstO [Value.ref tp, .int n t] c = lstO vs d := h5
      have h7 : lstO vs d = lstO [] 0 := e
      rw [h7] at h6
      have := congrArg Obj.data h6
      simp at this
    · exact q rfl
  refine draw_ok (t := t) (c := c) (d := d) B F X T hk hd hu (fun p hp => ?_) hne hi hn0 hn1 hl hl9 hn fun r t' n' tn c' vs' ns' d' h' tk' a1 a2 a3 ab e1 e2 hi' hl' => ?_
  · rcases List.mem_cons.mp hp with rfl | hp
    · exact N _ h1
    · rw [List.mem_singleton.mp hp]; exact N _ h2
  · obtain ⟨mid, U1, U2⟩ := U (lstO [.ref ce, .int n' tn] c') (lstO vs' d')
    have hL : L ∉ [tp, ce] := by
      intro hm
      rcases List.mem_cons.mp hm with z | hm
      · exact (N _ h1).2.1 z.symm
      · exact (N _ h2).2.1 (List.mem_singleton.mp hm).symm
    refine ret r t' n' tn c' vs' ns' d' h' tk' a1 a2 a3 ⟨F.ns.at' fun o q => ab L o hL q, fun b o q => ab b o ?_ (F.keep b o q), F.above⟩ ?_ hi' hl' (by omega) (by omega)
    · intro hm
      rcases List.mem_cons.mp hm with rfl | hm
      · rw [(N _ h1).2.2] at q; cases q
      · rw [List.mem_singleton.mp hm, (N _ h2).2.2] at q; cases q
    · intro p hp
      rcases upd_mem U2 p hp with rfl | ⟨hp, q2⟩
      · exact ⟨e2, (N _ h2).2⟩
      · rcases upd_mem U1 p hp with rfl | ⟨hp, q1⟩
        · exact ⟨e1, (N _ h1).2⟩
        · exact ⟨ab _ _ (by simp only [List.mem_cons, List.not_mem_nil, or_false, not_or]; exact ⟨q1, q2⟩) (N p hp).1, (N p hp).2⟩
def lawNames : List Str := [Str.ofString "A", Str.ofString "B", Str.ofString "C", Str.ofString "FILLER"]
theorem names_at {w : World} {h : Heap} (X : (hd.heap_39 w.params).In h) : ∃ t₁ t₂ t₃ t₄, TupAt h 246 [.str (Str.ofString "A") t₁, .str (Str.ofString "B") t₂, .str (Str.ofString "C") t₃, .str (Str.ofString "FILLER") t₄] :=
  ⟨_, _, _, _, ⟨⟨_, X 246 _ (by k_is), rfl, _, rfl⟩, by decide⟩⟩
def J1 (w : World) (L tp ce ia wa ma ra d : Addr) (k : Nat) (vals : List (Option Value)) (nx : List (Addr × Obj)) : Prop :=
  ∃ (G : Gh) (fl : List (Addr × Obj)) (n : Int) (t : Tok) (c dd ci cw cm cr : Nat) (vs : List Value) (ns : List Int) (oQ oWho oW oI oT : Obj), (∃ u₁ u₂ u₃ u₄ u₅ u₆, vals = [u₁, u₂, u₃, u₄, u₅, u₆]) ∧ G.n = k ∧ nx = fixed L tp ce ia wa ma ra G n t c dd ci cw cm cr vs oQ oWho oW oI oT fl ∧
    Inv w L tp ce ia wa ma ra d G fl n vs ns oQ oWho oW oI oT
end
section
open PySem PySem.W PySem.Calls PySem.Spec PyProof.Rows
set_option maxRecDepth 100000
set_option linter.unusedVariables false
abbrev loopNames : List Str := [Str.ofString "item", Str.ofString "above", Str.ofString "room", Str.ofString "way", Str.ofString "spot", Str.ofString "rows"]
abbrev lawVars (ma ra d : Addr) (m₀ : Str → Option Value) : Str → Option Value := fun y => if y = Str.ofString "marks" then some (.ref ma) else if y = Str.ofString "rooms" then some (.ref ra) else if y = Str.ofString "data" then some (.ref d) else m₀ y
theorem fst_off {fl fl₂ : List (Addr × Obj)} {a : Addr} (e : fl₂.map (·.1) = fl.map (·.1)) (h : ∀ p ∈ fl, p.1 ≠ a) : ∀ p ∈ fl₂, p.1 ≠ a := fun p hp => by
  have : p.1 ∈ fl₂.map (·.1) := List.mem_map_of_mem hp
  rw [e] at this
  obtain ⟨q, hq, e⟩ := List.mem_map.mp this
  rw [← e]
  exact h q hq
theorem fst_lt {fl fl₂ own : List (Addr × Obj)} {a : Addr} (e : fl₂.map (·.1) = fl.map (·.1)) (h : ∀ p ∈ fl ++ own, p.1 < a) : ∀ p ∈ fl₂ ++ own, p.1 < a := fun p hp => by
  rcases List.mem_append.mp hp with hp | hp
  · have : p.1 ∈ fl₂.map (·.1) := List.mem_map_of_mem hp
    rw [e] at this
    obtain ⟨q, hq, e⟩ := List.mem_map.mp this
    rw [← e]
    exact h q (List.mem_append_left _ hq)
  · exact h p (List.mem_append_right _ hp)
structure Made (w : World) (G : Gh) (fl fl₂ own : List (Addr × Obj)) (x dx cl kl wy ma chg : Addr) (es : List DictEntry) (who : Str) (us : List Value) (pa : Option Nat) (rm i : Nat) : Prop where
  ent : Entries es who (refV (pa.map G.ad)) cl kl i 35
  l0 : @LT.lt Nat _ ma dx
  l1 : ∀ p ∈ fl ++ own, p.1 < dx
  l2 : @LT.lt Nat _ dx x
  l3 : @LT.lt Nat _ x cl
  l4 : @LT.lt Nat _ cl kl
  l5 : @LT.lt Nat _ kl wy
  fst : fl₂.map (·.1) = fl.map (·.1)
  keep : ∀ a o, (a, o) ∈ fl → a ≠ chg → (a, o) ∈ fl₂
  hc : ∃ vs c, (chg, lstO vs c) ∈ fl
  room : ∀ r, r < 4 → ∃ c, (G.room r, lstO ((G.roots r).map G.ref ++ (if pa = none ∧ rm = r then [.ref x] else [])) c) ∈ fl₂
  kids : ∀ j, j < G.n → ∃ c, (G.kl j, lstO ((G.kids j).map G.ref ++ (if pa = some j then [.ref x] else [])) c) ∈ fl₂
  cl0 : ∀ j, j < G.n → G.cl j ≠ chg
  wy0 : ∀ j, j < G.n → G.wy j ≠ chg
  par : ∀ p, pa = some p → p < G.n
  rm4 : rm < 4
  who : who.length ≤ 10
  way : ∀ N : Nw, N.pa = pa → N.rm = rm → N.Fit G → StrsAre us ((G.grow N).way G.n)
theorem turn_li {w : World} {G : Gh} {fl fl₂ own fl' : List (Addr × Obj)} {x dx cl kl wy ma chg : Addr} {es : List DictEntry} {who : Str} {us : List Value} {pa : Option Nat} {rm i : Nat} {cu n₂ c₄ c₅ : Nat}
    (M : Made w G fl fl₂ own x dx cl kl wy ma chg es who us pa rm i) (li : LI w (inLed fl) G) (hG : G.n = i) (hi9 : i < 9) (sub : ∀ p ∈ fl₂, p ∈ fl') (nd' : (fl'.map (·.1)).Nodup)
    (m1 : (wy, lstO us cu) ∈ fl') (m2 : (x, instObj 135 dx) ∈ fl') (m3 : (dx, dictOf es n₂) ∈ fl') (m4 : (kl, lstO [] c₄) ∈ fl') (mark : Option Addr) (m5 : (cl, lstO (mark.toList.map .ref) c₅) ∈ fl') (rwA mtA : Addr)
    (hnm : ∀ a, mark = some a → NamedAt (inLed fl') a rwA) (hmt : ∀ a, mark = some a → ∃ t₁ t₂ c, (mtA, tupO [.int (i : Int) t₁, .str (Str.ofString "N") t₂, .ref rwA] c) ∈ fl') :
    LI w (inLed fl') (G.grow ⟨x, dx, cl, kl, es, who, pa, rm, mark, rwA, wy, mtA⟩) := by
  obtain ⟨ent, l0, l1, l2, l3, l4, l5, hfst, keep, ⟨cvs, cc, hc⟩, hroom, hkids, hcl0, hwy0, hpar, hrm4, hwho, hway⟩ := M
  have hlt : ∀ {a : Addr} {o : Obj}, (a, o) ∈ fl → a < dx := fun h => l1 _ (List.mem_append_left _ h)
  have T : Nw.Fit ⟨x, dx, cl, kl, es, who, pa, rm, mark, rwA, wy, mtA⟩ G := by
    refine ⟨by omega, fun j hj e => ?_, hpar, hrm4, hwho⟩
    have := hlt (li.forest.item j hj).inst
    rw [show G.ad j = x from e] at this
    exact Nat.lt_irrefl _ (Nat.lt_trans this l2)
  have big : ∀ {a : Addr}, a < dx → a ≠ kl ∧ a ≠ cl ∧ a ≠ wy := fun h =>
    ⟨Nat.ne_of_lt (Nat.lt_trans h (Nat.lt_trans l2 (Nat.lt_trans l3 l4))), Nat.ne_of_lt (Nat.lt_trans h (Nat.lt_trans l2 l3)), Nat.ne_of_lt (Nat.lt_trans h (Nat.lt_trans l2 (Nat.lt_trans l3 (Nat.lt_trans l4 l5))))⟩
  have bk : ∀ j, j < G.n → G.kl j < dx := fun j hj => let ⟨_, e⟩ := li.forest.kids j hj; hlt e
  have bc : ∀ j, j < G.n → G.cl j < dx := fun j hj => let ⟨_, e⟩ := li.forest.conds j hj; hlt e
  have bw : ∀ j, j < G.n → G.wy j < dx := fun j hj => let ⟨_, _, e, _⟩ := li.ways j hj; hlt e
  have br : ∀ r, r < 4 → G.room r < dx := fun r hr => let ⟨_, e⟩ := li.forest.rooms r hr; hlt e
  have rl : ∀ r, ∀ j ∈ G.roots r, j < G.n := fun r j hj => (G.roots_lt hj).1
  have kll : ∀ r, ∀ j ∈ G.kids r, j < G.n := fun r j hj => (G.kids_lt hj).1
  refine LI.grow li T (nodup_fn nd') hc (fun a o h ne => sub _ (keep a o h ne)) (Entries.item (hG ▸ ent) (by decide) m2 m3) ⟨c₄, m4⟩ ⟨c₅, m5⟩ hnm (fun r hr => ?_) (fun j hj => ?_) ⟨us, cu, m1, hway _ rfl rfl T⟩ (hG ▸ hmt) hcl0 hwy0
    ⟨fun j hj => (big (bk j hj)).1, fun r hr => (big (br r hr)).1.symm, fun r hr => (big (br r hr)).2.1.symm, fun j hj => (big (bk j hj)).2.1.symm, fun j hj => (big (bc j hj)).1, Nat.ne_of_lt l4, fun r hr => (big (br r hr)).2.2.symm, fun j hj => (big (bk j hj)).2.2.symm, fun j hj => (big (bw j hj)).1, Nat.ne_of_gt l5⟩
  · obtain ⟨c, e⟩ := hroom r hr
    refine ⟨c, sub _ ?_⟩
    rw [grow_roots, List.map_append, grow_ref G _ (rl r)]
    have : (if pa = none ∧ rm = r then [G.n] else []).map (G.grow ⟨x, dx, cl, kl, es, who, pa, rm, mark, rwA, wy, mtA⟩).ref = (if pa = none ∧ rm = r then [Value.ref x] else []) := by
      split
      · show [(G.grow _).ref G.n] = _; rw [grow_ref_n]
      · rfl
    rw [this]
    exact e
  · obtain ⟨c, e⟩ := hkids j hj
    refine ⟨c, sub _ ?_⟩
    rw [grow_kids, List.map_append, grow_ref G _ (kll j)]
    have : (if pa = some j then [G.n] else []).map (G.grow ⟨x, dx, cl, kl, es, who, pa, rm, mark, rwA, wy, mtA⟩).ref = (if pa = some j then [Value.ref x] else []) := by
      split
      · show [(G.grow _).ref G.n] = _; rw [grow_ref_n]
      · rfl
    rw [this]
    exact e
theorem grow_range_ref (G : Gh) (N : Nw) : ((List.range G.n).map G.ref).toArray.push (.ref N.x) = ((List.range (G.grow N).n).map (G.grow N).ref).toArray := by
  rw [List.push_toArray]
  congr 1
  show _ = (List.range (G.n + 1)).map _
  rw [List.range_succ, List.map_append, grow_ref G N (fun j hj => List.mem_range.mp hj)]
  show _ = _ ++ [(G.grow N).ref G.n]
  rw [grow_ref_n]
theorem grow_range_wy (G : Gh) (N : Nw) : ((List.range G.n).map fun i => Value.ref (G.wy i)).toArray.push (.ref N.wy) = ((List.range (G.grow N).n).map fun i => Value.ref ((G.grow N).wy i)).toArray := by
  rw [List.push_toArray]
  congr 1
  show _ = (List.range (G.n + 1)).map fun i => Value.ref (put1 G.wy G.n N.wy i)
  rw [List.range_succ, List.map_append]
  congr 1
  · exact List.map_congr_left fun j hj => by rw [put1_lt (List.mem_range.mp hj)]
  · show [Value.ref N.wy] = [Value.ref (put1 G.wy G.n N.wy G.n)]; rw [put1_self]
theorem grow_marked (G : Gh) (N : Nw) : (marked (G.grow N)).map (fun i => Value.ref ((G.grow N).mt i)) = (marked G).map (fun i => Value.ref (G.mt i)) ++ (if N.mark.isSome = true then [Value.ref N.mt] else []) := by
  unfold marked
  show ((List.range (G.n + 1)).filter fun i => (put1 G.mark G.n N.mark i).isSome).map (fun i => Value.ref (put1 G.mt G.n N.mt i)) = _
  rw [List.range_succ, List.filter_append, List.map_append]
  have h1 : (List.range G.n).filter (fun i => (put1 G.mark G.n N.mark i).isSome) = (List.range G.n).filter fun i => (G.mark i).isSome := List.filter_congr fun j hj => by rw [put1_lt (List.mem_range.mp hj)]
  rw [h1]
  congr 1
  · refine List.map_congr_left fun j hj => ?_
    rw [put1_lt (List.mem_range.mp (List.mem_filter.mp hj).1)]
  · simp only [List.filter_cons, List.filter_nil, put1_self]
    split
    · show [Value.ref (put1 G.mt G.n N.mt G.n)] = _; rw [put1_self]
    · rfl
theorem head_named {h₀ h : Heap} {L a : Addr} {o : Obj} {r : List (Addr × Obj)} {motive : Prop} (N : News h₀ L h ((a, o) :: r)) (k : ∀ b, b = a → motive) : motive := k a rfl
theorem offL_cons {own l : List (Addr × Obj)} {q : Addr × Obj} (h : ∀ p ∈ own, p.1 ≠ q.1) (k : OffL own l) : OffL own (q :: l) := fun p hp z hz => by
  rcases List.mem_cons.mp hz with rfl | hz
  · exact h p hp
  · exact k p hp z hz
theorem offL_fst {own fl fl₂ : List (Addr × Obj)} (e : fl₂.map (·.1) = fl.map (·.1)) (h : ∀ p ∈ own, ∀ q ∈ fl, p.1 ≠ q.1) : OffL own fl₂ := fun p hp z hz => by
  have : z.1 ∈ fl₂.map (·.1) := List.mem_map_of_mem hz
  rw [e] at this
  obtain ⟨q, hq, e⟩ := List.mem_map.mp this
  rw [← e]
  exact h p hp q hq
structure OffD (own l : List (Addr × Obj)) : Prop where
  h : ∀ p ∈ own, ∀ q ∈ l, p.1 ≠ q.1
theorem offL_of {own l : List (Addr × Obj)} (h : OffD own l) : OffL own l := h.h
theorem fr_norm {h₀ h : Heap} {L : Addr} {m mL : Str → Option Value} {x : Str} {st : List Str} (F : Fr h₀ L h m) (s : Same (x :: st) mL m) : Fr h₀ L h (fun y => if y = x then m x else put st (st.map m) mL y) := s.self ▸ F
theorem Entries.more {es : List DictEntry} {name : Str} {par : Value} {cl kl : Addr} {off : Int} {b b' : Nat} (I : Entries es name par cl kl off b) (h : b ≤ b') : Entries es name par cl kl off b' := { I with len := Nat.le_trans I.len h }
def tokAt (ρ : Nat) (a b c d : Tok) : Tok := match ρ with | 0 => a | 1 => b | 2 => c | _ => d
theorem way_slice {ρ : Nat} (h : ρ < 4) (a b c d : Tok) : List.take (min ((ρ : Int) + 1).toNat [Value.str (Str.ofString "") a, .str (Str.ofString "F") b, .str (Str.ofString "G") c, .str (Str.ofString "") d].length - min ((ρ : Int)).toNat [Value.str (Str.ofString "") a, .str (Str.ofString "F") b, .str (Str.ofString "G") c, .str (Str.ofString "") d].length) (List.drop ((ρ : Int)).toNat [Value.str (Str.ofString "") a, .str (Str.ofString "F") b, .str (Str.ofString "G") c, .str (Str.ofString "") d]) = [.str (fileName ρ) (tokAt ρ a b c d)] := by
  match ρ, h with
  | 0, _ => rfl
  | 1, _ => rfl
  | 2, _ => rfl
  | 3, _ => rfl
theorem off_big {own : List (Addr × Obj)} {a b : Addr} (h : ∀ p ∈ own, p.1 < a) (k : @LE.le Nat _ a b) : ∀ p ∈ own, p.1 ≠ b := fun p hp => Nat.ne_of_lt (Nat.lt_of_lt_of_le (h p hp) k)
theorem nd_cons {q : Addr × Obj} {l : List (Addr × Obj)} (h : ∀ p ∈ l, p.1 ≠ q.1) (nd : (l.map (·.1)).Nodup) : ((q :: l).map (·.1)).Nodup := by
  rw [List.map_cons, List.nodup_cons]
  refine ⟨fun hm => ?_, nd⟩
  obtain ⟨p, hp, e⟩ := List.mem_map.mp hm
  exact h p hp e
structure Sep5 (dx x cl kl wy : Addr) : Prop where
  a1 : Apart dx x
  a2 : Apart dx cl
  a3 : Apart dx kl
  a4 : Apart dx wy
  a5 : Apart x cl
  a6 : Apart x kl
  a7 : Apart x wy
  a8 : Apart cl kl
  a9 : Apart cl wy
  a10 : Apart kl wy
theorem sep5_of {dx x cl kl wy : Addr} (l2 : @LT.lt Nat _ dx x) (l3 : @LT.lt Nat _ x cl) (l4 : @LT.lt Nat _ cl kl) (l5 : @LT.lt Nat _ kl wy) : Sep5 dx x cl kl wy :=
  have b1 := Nat.lt_trans l2 l3
  have b2 := Nat.lt_trans l3 l4
  have b3 := Nat.lt_trans l4 l5
  ⟨.lt l2, .lt b1, .lt (Nat.lt_trans b1 l4), .lt (Nat.lt_trans b1 b3), .lt l3, .lt b2, .lt (Nat.lt_trans b2 l5), .lt l4, .lt b3, .lt l5⟩
theorem tail_nd {w : World} {G : Gh} {fl fl₂ own nw : List (Addr × Obj)} {x dx cl kl wy ma chg : Addr} {es : List DictEntry} {who : Str} {us : List Value} {pa : Option Nat} {rm i : Nat}
    (M : Made w G fl fl₂ own x dx cl kl wy ma chg es who us pa rm i) (nd : (fl.map (·.1)).Nodup) (hge : ∀ q ∈ nw, @LE.le Nat _ dx q.1) (nnd : (nw.map (·.1)).Nodup) : ((nw ++ fl₂).map (·.1)).Nodup := by
  rw [List.map_append, List.nodup_append]
  refine ⟨nnd, by rw [M.fst]; exact nd, fun a ha b hb e => ?_⟩
  obtain ⟨p, hp, rfl⟩ := List.mem_map.mp ha
  obtain ⟨q, hq, rfl⟩ := List.mem_map.mp hb
  have h1 := hge p hp
  have h2 := fst_lt M.fst M.l1 q (List.mem_append_left _ hq)
  rw [e] at h1
  exact Nat.lt_irrefl _ (Nat.lt_of_le_of_lt h1 h2)
theorem tail_end {w : World} {L tp ce ia wa ma ra d : Addr} {G G' : Gh} {fl fl₂ own nw : List (Addr × Obj)} {n n' : Int} {t t₁ : Tok} {c dd ci cw cm cr c' dd' ci' cw' cm' cr' : Nat} {vs vs' : List Value} {ns ns' : List Int} {oQ oWho oW oI oT : Obj}
    {x dx cl kl wy chg : Addr} {es : List DictEntry} {who : Str} {us : List Value} {pa : Option Nat} {rm i : Nat}
    (I : Inv w L tp ce ia wa ma ra d G fl n vs ns oQ oWho oW oI oT) (M : Made w G fl fl₂ own x dx cl kl wy ma chg es who us pa rm i) (hoff : OffL own (fixed L tp ce ia wa ma ra G n t c dd ci cw cm cr vs oQ oWho oW oI oT fl))
    (hge : ∀ q ∈ nw, @LE.le Nat _ dx q.1) (nnd : (nw.map (·.1)).Nodup) (hd : G'.d = G.d) (li : LI w (inLed (nw ++ fl₂)) G') (are : IntsAre vs' ns') (pos0 : 0 < ns'.length) (few : ns'.length ≤ 60) (pos : 0 ≤ n') :
    Inv w L tp ce ia wa ma ra d G' (nw ++ fl₂) n' vs' ns' oQ oWho oW oI oT ∧ OffL own (fixed L tp ce ia wa ma ra G' n' t₁ c' dd' ci' cw' cm' cr' vs' oQ oWho oW oI oT (nw ++ fl₂)) := by
  have key : ∀ {a : Addr}, @LE.le Nat _ a ma → (∀ p ∈ fl, p.1 ≠ a) → ∀ p ∈ nw ++ fl₂, p.1 ≠ a := fun {a} ha hf p hp => by
    rcases List.mem_append.mp hp with hp | hp
    · exact Nat.ne_of_gt (Nat.lt_of_le_of_lt ha (Nat.lt_of_lt_of_le M.l0 (hge p hp)))
    · exact fst_off M.fst hf p hp
  obtain ⟨i1, i2, i3, i4, i5, i6, i7, i8, i9, i10, i11, f1, f2, f3, f4, f5, f6, f7, f8, f9, f10, f11, nd, o1, o2, o3, o4, o5, o6⟩ := I
  have c6 := Nat.le_of_lt o6
  have c5 := Nat.le_trans (Nat.le_of_lt o5) c6
  have c4 := Nat.le_trans (Nat.le_of_lt o4) c5
  have c3 := Nat.le_trans (Nat.le_of_lt o3) c4
  have c2 := Nat.le_trans (Nat.le_of_lt o2) c3
  have e5 := Nat.le_trans (Nat.le_of_lt o1) c2
  have e4 := Nat.le_trans (Nat.le_succ _) e5
  have e3 := Nat.le_trans (Nat.le_succ _) e4
  have e2 := Nat.le_trans (Nat.le_succ _) e3
  have e1 := Nat.le_trans (Nat.le_succ _) e2
  refine ⟨⟨hd.trans i1, li, are, pos0, few, pos, i7, i8, i9, i10, i11, key c3 f1, key c2 f2, key e4 f3, key e5 f4, key c5 f5, key c6 f6, key (Nat.le_refl _) f7, key e3 f8, key e2 f9, key e1 f10, key c4 f11, tail_nd M nd hge nnd, o1, o2, o3, o4, o5, o6⟩, fun p hp q hq => ?_⟩
  have hq' : q.1 ∈ ([tp, ce, L + 1 + 1 + 1 + 1 + 1, L + 1 + 1 + 1 + 1, L + 1 + 1 + 1, L + 1 + 1, L + 1, ia, wa, ma, ra] : List Addr) ++ (nw ++ fl₂).map (·.1) := by
    have := List.mem_map_of_mem (f := Prod.fst) hq
    exact this
  have hb : ∀ a ∈ ([tp, ce, L + 1 + 1 + 1 + 1 + 1, L + 1 + 1 + 1 + 1, L + 1 + 1 + 1, L + 1 + 1, L + 1, ia, wa, ma, ra] : List Addr) ++ fl.map (·.1), p.1 ≠ a := fun a ha => by
    have ha : a ∈ (fixed L tp ce ia wa ma ra G n t c dd ci cw cm cr vs oQ oWho oW oI oT fl).map Prod.fst := ha
    obtain ⟨z, hz, rfl⟩ := List.mem_map.mp ha
    exact hoff p hp z hz
  rcases List.mem_append.mp hq' with hm | hm
  · exact hb _ (List.mem_append_left _ hm)
  · rw [List.map_append] at hm
    rcases List.mem_append.mp hm with hm | hm
    · obtain ⟨z, hz, e⟩ := List.mem_map.mp hm
      rw [← e]
      exact Nat.ne_of_lt (Nat.lt_of_lt_of_le (M.l1 p (List.mem_append_right _ hp)) (hge z hz))
    · rw [M.fst] at hm
      exact hb _ (List.mem_append_right _ hm)
theorem new5 {dx x cl kl wy : Addr} {b1 b2 b3 b4 b5 : Obj} (l2 : @LT.lt Nat _ dx x) (l3 : @LT.lt Nat _ x cl) (l4 : @LT.lt Nat _ cl kl) (l5 : @LT.lt Nat _ kl wy) :
    (∀ q ∈ ([(wy, b1), (x, b2), (dx, b3), (kl, b4), (cl, b5)] : List (Addr × Obj)), @LE.le Nat _ dx q.1) ∧ (([(wy, b1), (x, b2), (dx, b3), (kl, b4), (cl, b5)] : List (Addr × Obj)).map (·.1)).Nodup := by
  obtain ⟨a1, a2, a3, a4, a5, a6, a7, a8, a9, a10⟩ := sep5_of l2 l3 l4 l5
  have c1 := Nat.lt_trans l2 l3
  have c2 := Nat.lt_trans c1 l4
  have m {p : Addr × Obj → Prop} {a b l} (h : p a) (k : ∀ q ∈ b :: l, p q) : ∀ q ∈ a :: b :: l, p q := List.forall_mem_cons.mpr ⟨h, k⟩
  have o {p : Addr × Obj → Prop} {a} (h : p a) : ∀ q ∈ [a], p q := List.forall_mem_cons.mpr ⟨h, List.forall_mem_nil _⟩
  exact ⟨m (Nat.le_of_lt (Nat.lt_trans c2 l5)) (m (Nat.le_of_lt l2) (m (Nat.le_refl _) (m (Nat.le_of_lt c2) (o (Nat.le_of_lt c1))))),
    nd_cons (m a7.l (m a4.l (m a10.l (o a9.l)))) (nd_cons (m a1.l (m a6.r (o a5.r))) (nd_cons (m a3.r (o a2.r)) (nd_cons (o a8.l) (nd_cons (List.forall_mem_nil _) List.nodup_nil))))⟩
theorem new8 {dx x cl kl wy ndx nm mt : Addr} {a1 a2 a3 b1 b2 b3 b4 b5 : Obj} (l2 : @LT.lt Nat _ dx x) (l3 : @LT.lt Nat _ x cl) (l4 : @LT.lt Nat _ cl kl) (l5 : @LT.lt Nat _ kl wy) (l6 : @LT.lt Nat _ wy ndx) (l7 : @LT.lt Nat _ ndx nm) (l8 : @LT.lt Nat _ nm mt) :
    (∀ q ∈ ([(mt, a1), (nm, a2), (ndx, a3), (wy, b1), (x, b2), (dx, b3), (kl, b4), (cl, b5)] : List (Addr × Obj)), @LE.le Nat _ dx q.1) ∧ (([(mt, a1), (nm, a2), (ndx, a3), (wy, b1), (x, b2), (dx, b3), (kl, b4), (cl, b5)] : List (Addr × Obj)).map (·.1)).Nodup := by
  obtain ⟨h5, n5⟩ := new5 (b1 := b1) (b2 := b2) (b3 := b3) (b4 := b4) (b5 := b5) l2 l3 l4 l5
  have c1 := Nat.lt_trans l2 l3
  have e1 := Nat.lt_trans l4 l5
  have e2 := Nat.lt_trans l3 e1
  have e3 := Nat.lt_trans l2 e2
  have hb : ∀ q ∈ ([(wy, b1), (x, b2), (dx, b3), (kl, b4), (cl, b5)] : List (Addr × Obj)), @LT.lt Nat _ q.1 ndx := 
    List.forall_mem_cons.mpr ⟨l6, List.forall_mem_cons.mpr ⟨Nat.lt_trans e2 l6, List.forall_mem_cons.mpr ⟨Nat.lt_trans e3 l6, List.forall_mem_cons.mpr ⟨Nat.lt_trans l5 l6, List.forall_mem_cons.mpr ⟨Nat.lt_trans e1 l6, List.forall_mem_nil _⟩⟩⟩⟩⟩
  have n6 := nd_cons (q := (ndx, a3)) (fun p hp => Nat.ne_of_lt (hb p hp)) n5
  have h6 : ∀ q ∈ ([(ndx, a3), (wy, b1), (x, b2), (dx, b3), (kl, b4), (cl, b5)] : List (Addr × Obj)), @LE.le Nat _ q.1 ndx := List.forall_mem_cons.mpr ⟨Nat.le_refl _, fun q hq => Nat.le_of_lt (hb q hq)⟩
  have n7 := nd_cons (q := (nm, a2)) (fun p hp => Nat.ne_of_lt (Nat.lt_of_le_of_lt (h6 p hp) l7)) n6
  have n8 := nd_cons (q := (mt, a1)) (List.forall_mem_cons.mpr ⟨Nat.ne_of_lt l8, fun p hp => Nat.ne_of_lt (Nat.lt_of_le_of_lt (h6 p hp) (Nat.lt_trans l7 l8))⟩) n7
  have g := Nat.le_of_lt (Nat.lt_trans e3 l6)
  have g' := Nat.le_trans g (Nat.le_of_lt l7)
  exact ⟨List.forall_mem_cons.mpr ⟨Nat.le_trans g' (Nat.le_of_lt l8), List.forall_mem_cons.mpr ⟨g', List.forall_mem_cons.mpr ⟨g, h5⟩⟩⟩, n8⟩
end
local macro_rules | `(tactic| walk_at "my rm") => `(tactic| first | exact room1 (by assumption) (by decide) | exact room0 (by assumption) (by decide))
local macro_rules | `(tactic| walk_at "my ne") => `(tactic| first | exact Apart.l (by assumption) | exact Apart.r (by assumption) | k_ne)
local macro_rules | `(tactic| walk_at "call ref") => `(tactic| (with_reducible (first | refine h135 ?_ | refine h86 ?_)))
local macro_rules | `(tactic| walk_at "my all") => `(tactic| first | exact List.forall_mem_nil _ | (refine' List.forall_mem_cons.mpr ⟨?a, ?b⟩; (case a => walk_at "my ne"); (case b => walk_at "my all")) | assumption | exact off_at (by assumption) (by k_mem) | exact all_app (by assumption) (off_at (by assumption) (by k_mem)))
local macro_rules | `(tactic| walk_at "call ref") => `(tactic| ((with_reducible refine at245 ?_); k_dflt (refine' draw_use (by k_asm) (by k_asm) (by k_asm) (by k_asm) (by exact rfl) (by walk_at "my rm") (by walk_at "my rm") (by k_asm) (by k_mem) (by k_mem) (by intro _ _; exact ⟨_, by walk_at "my upd", by walk_at "my upd"⟩) (by assumption) (by omega) (by omega) (by omega) (by omega) (by omega) ?_; k_whole); intro r' t' n' tn' c' vs' ns' d' h' tk' hr0 hr1 hn0 F' N' hi' hl' hp' hq'))
local macro_rules | `(tactic| walk_at "my updF") => `(tactic| first | (refine' UpdF.head ?a; (case a => walk_at "my all")) | (refine' UpdF.tail ?a ?b; (case a => walk_at "my ne"); (case b => walk_at "my updF")))
local macro_rules | `(tactic| walk_at "storeName") => `(tactic| (k_here; k_dflt (refine' storeX_C ?F ?N ?c ?U ?d ?_ ?a ?b; (case a => rfl); (case b => rfl); (case F => k_asm); (case N => k_asm); (case c => rfl); (case U => walk_at "my updF"); (case d => k_asm); k_whole; intro h' o' F' N' d'; (try dsimp only at N'); (try k_sweep))))
local macro_rules | `(tactic| walk_at "subscriptTail") => `(tactic| ((with_reducible (first | refine at246 ?_ | refine at247 ?_)); (with_unfolding_all refine' item_tupS ?k1 ?k2 ?k3 ?k4 ?_ ?k5; (case k1 => walk_at "my tup"); (case k2 => assumption); (case k3 => omega); (case k4 => (simp only [List.length_cons, List.length_nil]; omega)); (case k5 => with_unfolding_all rfl)); intro _ _ _))
local macro_rules | `(tactic| walk_at "getMethod ref") => `(tactic| ((with_reducible refine at_append ?_); k_dflt (first | refine method_append (by assumption) ?_ | (refine' listMethod_K ?N ?m PySem.F.slot_list_append PySem.F.type_list_append ?_; (case N => k_asm); (case m => k_mem)))))
local macro_rules | `(tactic| walk_at "my in") => `(tactic| first | assumption | (refine List.mem_append_left _ ?_; assumption) | (refine List.mem_cons_of_mem _ ?_; walk_at "my in"))
local macro_rules | `(tactic| walk_at "my deep") => `(tactic| first | (refine' Upd.tail ?a ?b; (case a => walk_at "my ne"); (case b => walk_at "my deep")) | (refine' upd_fl ?a ?b ?c; (case c => assumption); (case b => assumption); (case a => assumption)))
local macro_rules | `(tactic| walk_at "my in2") => `(tactic| first | exact List.Mem.head _ | (refine List.mem_cons_of_mem _ ?_; walk_at "my in2"))
local macro_rules | `(tactic| walk_at "my inr") => `(tactic| first | (refine List.mem_append_right _ ?_; assumption) | (refine List.mem_cons_of_mem _ ?_; walk_at "my inr"))
local macro_rules | `(tactic| walk_at "my sub") => `(tactic| first | (refine List.forall_mem_cons.mpr ⟨?a, ?b⟩; (case a => walk_at "my in2"); (case b => walk_at "my sub")) | (intro p hp; walk_at "my in"))
local macro_rules | `(tactic| walk_at "my nd") => `(tactic| first | assumption | (refine nd_cons ?a ?b; (case a => walk_at "my all"); (case b => walk_at "my nd")))
local macro_rules | `(tactic| walk_at "my offl") => `(tactic| first | exact offL_of (by assumption) | (refine offL_cons ?a ?b; (case a => first | exact off_at (by assumption) (by k_mem) | exact off_big (by assumption) (by (try dsimp only); omega)); (case b => walk_at "my offl")))
local macro_rules | `(tactic| walk_at "subscriptTail Name Slice ref ref") => `(tactic| (k_here; (with_reducible show wpAny _ _ (subscriptTail _ (PySem.Expr.Slice (some _) (some _) none _) (Value.ref _) (Value.ref _)) _ _ _); k_dflt (refine' slice_run ?F ?N ?l ?z ?y ?_ ?s ?t; (case F => k_asm); (case N => k_asm); (case l => walk_at "my lst"); (case z => omega); (case y => omega); (case s => with_unfolding_all rfl); (case t => kmk_pure)); intro D' h' F' N' l1))
section
open PySem PySem.W PySem.Calls PySem.Spec PyProof.Rows
set_option maxRecDepth 100000
set_option linter.unusedVariables false
set_option maxHeartbeats 4000000 in
theorem turn_tail {w : World} {mean : ExcName → Option Value} {mg mb : Str → Option Value} {dp un : Nat} {gd : Option (List Code)} {fa : Addr} {cv : Value} {A₀ : Around} {base h₀ h : Heap} {L : Addr} {m₀ : Str → Option Value} {s : Shared} {tk : Nat} {Q : Flow → Shared → Prop}
    {tp ce ia wa ma ra d : Addr} {G : Gh} {fl fl₂ own : List (Addr × Obj)} {n : Int} {t : Tok} {c dd ci cw cm cr : Nat} {vs : List Value} {ns : List Int} {oQ oWho oW oI oT : Obj}
    {x dx cl kl wy chg : Addr} {es : List DictEntry} {n₂ cu : Nat} {who : Str} {us : List Value} {pa : Option Nat} {rm i : Nat} {t' : Tok} {u₂ u₃ u₅ u₆ : Option Value}
    (B : Below A₀ base [] h₀) (F : Fr h₀ L h (fun y => if y = Str.ofString "k" then some (.int (0 + (i : Int)) t') else put loopNames [some (.ref x), u₂, u₃, some (.ref wy), u₅, u₆] (lawVars ma ra d m₀) y)) (X : (hd.heap_39 w.params).In h₀) (T : Top PV LS mean mg mb h₀) (hdp : dp ≤ 400) (hun : un ≤ 4000)
    (N : News h₀ L h ((wy, lstO us cu) :: (x, instObj 135 dx) :: (dx, dictOf es n₂) :: (kl, lstO [] 0) :: (cl, lstO [] 0) :: (tp, lstO [.ref ce, .int n t] c) :: (ce, lstO vs dd) :: (L + 1 + 1 + 1 + 1 + 1, oQ) :: (L + 1 + 1 + 1 + 1, oWho) :: (L + 1 + 1 + 1, oW) :: (L + 1 + 1, oI) :: (L + 1, oT) ::
      (ia, lstO ((List.range G.n).map G.ref) ci) :: (wa, lstO ((List.range G.n).map fun i => .ref (G.wy i)) cw) :: (ma, lstO ((marked G).map fun i => .ref (G.mt i)) cm) :: (ra, lstO [.ref (G.room 0), .ref (G.room 1), .ref (G.room 2), .ref (G.room 3)] cr) :: (fl₂ ++ own)))
    (I : Inv w L tp ce ia wa ma ra d G fl n vs ns oQ oWho oW oI oT) (hG : G.n = i) (hi9 : i < 9) (M : Made w G fl fl₂ own x dx cl kl wy ma chg es who us pa rm i) (hoff : OffL own (fixed L tp ce ia wa ma ra G n t c dd ci cw cm cr vs oQ oWho oW oI oT fl)) :
    LawTurn w 5 fun stmts scope qual => wpAny (model PG w) (ktrTop dp un gd qual scope L fa cv (cellsFrom (L + 1) scope.names []) []) (execs stmts (envOfC qual scope L fa cv))
      (PostV h₀ L (Str.ofString "k") loopNames (lawVars ma ra d m₀) (J1 w L tp ce ia wa ma ra d (i + 1)) own s Q) (fun _ _ => False) { s with heap := h, toks := tk } := by
  w_top off
  intro name qual params body scope dV kV doc pm cdv ct oc an od osl tg it fb oe ps ho hb
  have key := ho.symm.trans (show (hd.heap_39 w.params).lookup 280 = some ⟨_, _, .func (fnOf _ _ _ _ _ _ _ _ _ _ _ _), _⟩ from by k_is)
  cases key
  cases hb
  dsimp only [List.drop]
  have I0 := I
  have M0 := M
  obtain ⟨i1, i2, i3, i4, i5, i6, ⟨uq, i7⟩, ⟨uw, i8⟩, i9, i10, i11, f1, f2, f3, f4, f5, f6, f7, f8, f9, f10, f11, nd, o1, o2, o3, o4, o5, o6⟩ := I
  obtain ⟨ent, l0, l1, l2, l3, l4, l5, hfst, keep, hc, hroom, hkids, hcl0, hwy0, hpar, hrm4, hwho, hway⟩ := M
  clear keep hc hroom hkids hcl0 hwy0 hpar hrm4 hwho hway
  obtain ⟨_, _, _, _, _, _, _, _, _, _, _, _, _, _, _, _, _, _, _, _, _, _, _, _, _, _, _, _, _, _, _, _, _, _, _, _, _, _, _, _, _, _, _, _, _, _, _, _, _, _, _, _, _, _, _⟩ := sep_of o1 o2 o3 o4 o5 o6
  obtain ⟨_, _, _, _, _, _, _, _, _, _, _⟩ := sepN_of o1 o2 o3 o4 o5 o6 l0
  obtain ⟨_, _, _, _, _, _, _, _, _, _, _⟩ := sepN_of o1 o2 o3 o4 o5 o6 (Nat.lt_trans l0 l2)
  obtain ⟨_, _, _, _, _, _, _, _, _, _, _⟩ := sepN_of o1 o2 o3 o4 o5 o6 (Nat.lt_trans l0 (Nat.lt_trans l2 l3))
  obtain ⟨_, _, _, _, _, _, _, _, _, _, _⟩ := sepN_of o1 o2 o3 o4 o5 o6 (Nat.lt_trans l0 (Nat.lt_trans l2 (Nat.lt_trans l3 l4)))
  obtain ⟨_, _, _, _, _, _, _, _, _, _, _⟩ := sepN_of o1 o2 o3 o4 o5 o6 (Nat.lt_trans l0 (Nat.lt_trans l2 (Nat.lt_trans l3 (Nat.lt_trans l4 l5))))
  obtain ⟨_, _, _, _, _, _, _, _, _, _⟩ := sep5_of l2 l3 l4 l5
  have g1 := fst_off hfst f1
  have g2 := fst_off hfst f2
  have g5 := fst_off hfst f5
  have g6 := fst_off hfst f6
  have g7 := fst_off hfst f7
  have l1' := fst_lt hfst l1
  have hcl : ∀ p ∈ fl₂ ++ own, p.1 ≠ cl := fun p hp => Nat.ne_of_lt (Nat.lt_trans (l1' p hp) (Nat.lt_trans l2 l3))
  have hs1 : ((List.range G.n).map G.ref).toArray.size ≤ sizeLine := by rw [List.size_toArray, List.length_map, List.length_range, sizeLine_eq]; omega
  have hs2 : ((List.range G.n).map fun i => Value.ref (G.wy i)).toArray.size ≤ sizeLine := by rw [List.size_toArray, List.length_map, List.length_range, sizeLine_eq]; omega
  have hs3 : ((marked G).map fun i => Value.ref (G.mt i)).toArray.size ≤ sizeLine := by
    rw [List.size_toArray, List.length_map, sizeLine_eq]
    have : (marked G).length ≤ (List.range G.n).length := List.length_filter_le _ _
    rw [List.length_range] at this
    omega
  refine hold_post fun Q' hQ' => ?_
  k_steps
  · rename Fr _ _ _ _ => F
    rename News _ _ _ _ => N
    refine item_conditions (X.keeps F.keep) (Entries.item ent (by decide) (N (x, instObj 135 dx) (by walk_at "my in2")).1 (N (dx, dictOf es n₂) (by walk_at "my in2")).1) ?_
    k_steps
    rename Fr _ _ _ _ => F
    rename News _ _ _ _ => N
    refine head_named N fun rt hrt => ?_
    subst hrt
    refine go (make_named B F X T rfl (room0 hdp (by decide)) (room0 hun (by decide)) N (List.Mem.head _) fun nm ndx nes n₃ h₃ tk₃ F₃ N₃ m1 m2 m3 m4 => ?_)
    clear F N
    have hnew : ∀ p ∈ fl₂ ++ own, p.1 < ndx := fun p hp => m1 p (by repeat (first | exact hp | apply List.mem_cons_of_mem))
    k_lt m1
    k_steps
    rename Fr _ _ _ _ => F
    rename News _ _ _ _ => N
    simp only [Int.zero_add] at N
    refine head_named N fun mt hmt => ?_
    subst hmt
    rename IntsAre _ _ => hi1
    have e1 := grow_range_ref G ⟨x, dx, cl, kl, es, who, pa, rm, some nm, rt, wy, mt⟩
    have e2 := grow_range_wy G ⟨x, dx, cl, kl, es, who, pa, rm, some nm, rt, wy, mt⟩
    have e3 : ((marked G).map fun i => Value.ref (G.mt i)).toArray.push (.ref mt) = ((marked (G.grow ⟨x, dx, cl, kl, es, who, pa, rm, some nm, rt, wy, mt⟩)).map fun i => Value.ref ((G.grow ⟨x, dx, cl, kl, es, who, pa, rm, some nm, rt, wy, mt⟩).mt i)).toArray := by
      rw [grow_marked, List.push_toArray]; rfl
    dsimp only at e1 e2
    rw [e1, e2, e3] at N
    have hw8 : @LT.lt Nat _ wy ndx := by omega
    have hm8 : @LT.lt Nat _ nm mt := by omega
    refine hQ' _ _ ?_
    refine' EndV.intro (fixed L tp ce ia wa ma ra (G.grow ⟨x, dx, cl, kl, es, who, pa, rm, some nm, rt, wy, mt⟩) _ _ _ _ (ci + 1) (cw + 1) (cm + 1) cr _ oQ oWho oW oI oT ((mt, tupO [.int (i : Int) t', .str (Str.ofString "N") _, .ref rt] 0) :: (nm, instObj 86 ndx) :: (ndx, dictOf nes n₃) :: (wy, lstO us cu) :: (x, instObj 135 dx) :: (dx, dictOf es n₂) :: (kl, lstO [] 0) :: (cl, lstO [.ref nm] (0 + 1)) :: fl₂)) F N ?h1 ?h2 (And.right ?hIO)
      ⟨G.grow ⟨x, dx, cl, kl, es, who, pa, rm, some nm, rt, wy, mt⟩, _, _, _, _, _, _, _, _, _, _, _, oQ, oWho, oW, oI, oT, ⟨_, _, _, _, _, _, rfl⟩, by rw [← hG]; rfl, rfl, And.left ?hIO⟩ ?hs
    case h1 => walk_at "my sub"
    case hIO =>
      obtain ⟨hge, nnd⟩ := new8 l2 l3 l4 l5 hw8 m2 hm8
      exact tail_end I0 M0 hoff hge nnd rfl (turn_li M0 i2 hG hi9 (fun p hp => by walk_at "my in") (tail_nd M0 nd hge nnd) (by walk_at "my in2") (by walk_at "my in2") (by walk_at "my in2") (by walk_at "my in2") (some nm) (by walk_at "my in2") rt mt (fun a e => by cases e; exact ⟨ndx, nes, n₃, by walk_at "my in2", by walk_at "my in2", m3, m4⟩) (fun a e => ⟨t', _, 0, List.Mem.head _⟩)) hi1 (by assumption) (by assumption) (by assumption)
    case h2 => (intro p hp; walk_at "my inr")
    case hs => (intro z hz; simp only [NotIn] at hz; simp [hz, put])
  · rename Fr _ _ _ _ => F
    rename News _ _ _ _ => N
    rename IntsAre _ _ => hi1
    have e1 := grow_range_ref G ⟨x, dx, cl, kl, es, who, pa, rm, none, 0, wy, 0⟩
    have e2 := grow_range_wy G ⟨x, dx, cl, kl, es, who, pa, rm, none, 0, wy, 0⟩
    have e3 : ((marked G).map fun i => Value.ref (G.mt i)) = (marked (G.grow ⟨x, dx, cl, kl, es, who, pa, rm, none, 0, wy, 0⟩)).map fun i => Value.ref ((G.grow ⟨x, dx, cl, kl, es, who, pa, rm, none, 0, wy, 0⟩).mt i) := by
      rw [grow_marked]; simp
    dsimp only at e1 e2
    rw [e1, e2, e3] at N
    refine hQ' _ _ ?_
    refine' EndV.intro (fixed L tp ce ia wa ma ra (G.grow ⟨x, dx, cl, kl, es, who, pa, rm, none, 0, wy, 0⟩) _ _ _ _ (ci + 1) (cw + 1) cm cr _ oQ oWho oW oI oT ((wy, lstO us cu) :: (x, instObj 135 dx) :: (dx, dictOf es n₂) :: (kl, lstO [] 0) :: (cl, lstO [] 0) :: fl₂)) F N ?h1 ?h2 (And.right ?hIO)
      ⟨G.grow ⟨x, dx, cl, kl, es, who, pa, rm, none, 0, wy, 0⟩, _, _, _, _, _, _, _, _, _, _, _, oQ, oWho, oW, oI, oT, ⟨_, _, _, _, _, _, rfl⟩, by rw [← hG]; rfl, rfl, And.left ?hIO⟩ ?hs
    case h1 => walk_at "my sub"
    case hIO =>
      obtain ⟨hge, nnd⟩ := new5 l2 l3 l4 l5
      exact tail_end I0 M0 hoff hge nnd rfl (turn_li M0 i2 hG hi9 (fun p hp => by walk_at "my in") (tail_nd M0 nd hge nnd) (by walk_at "my in2") (by walk_at "my in2") (by walk_at "my in2") (by walk_at "my in2") none (by walk_at "my in2") 0 0 (fun a e => by cases e) (fun a e => by cases e)) hi1 (by assumption) (by assumption) (by assumption)
    case h2 => (intro p hp; walk_at "my inr")
    case hs => (intro z hz; simp only [NotIn] at hz; simp [hz, put])
end
section
open PySem PySem.W PySem.Calls PySem.Spec PyProof.Rows
set_option maxRecDepth 100000
set_option linter.unusedVariables false
theorem item_addm {w : World} {A : Around} {E : Value → Shared → Prop} {s : Shared} {x dx : Addr} {es : List DictEntry} {name : Str} {par : Option Addr} {cl kl : Addr} {off : Int} {pl : Sem Bool} {Q : Value × List Value → Shared → Prop}
    (X : (hd.heap_39 w.params).In s.heap) (I : ItemAt (inHeap s.heap) x dx es name par cl kl off) (h : Q (.ref 111, [.ref x]) s) : wpAny (model PG w) A (getMethod (.ref x) (Str.ofString "add") pl) Q E s :=
  let ⟨n, e⟩ := I.dict
  have hg : plainGet (hd.heap_39 w.params) 135 (Str.ofString "add") = true := by k_is
  method_fn X (ox := instObj 135 dx) (od := some (dictOf es n)) ⟨I.inst, rfl, rfl, e⟩ (plainGet_of hg).1 (plainGet_of hg).2 (by k_is) (by k_is) (by show (lookIn (Str.ofString "add") (dictOf es n)).map _ = _; rw [lookIn_dict, I.add]; rfl) h
theorem add_use {w : World} {mean : ExcName → Option Value} {mg mb : Str → Option Value} {dp un : Nat} {gd : Option (List Code)} {cn : Str} {cs : Scope} {a : Addr} {ccd : Value} {cl : List (Str × Addr)} {outer : List Env} {A₀ : Around} {base h₀ : Heap} {L : Addr} {m : Str → Option Value} {s : Shared} {Q E : Value → Shared → Prop}
    {x dx px pdx pcl klp xcl xkl : Addr} {es pes : List DictEntry} {n c b : Nat} {vs : List Value} {pname xname : Str} {ppar : Option Addr} {poff xoff : Int} {xpar : Value} {news : List (Addr × Obj)} {news' : Obj → Obj → List (Addr × Obj)}
    (B : Below A₀ base outer h₀) (F : Fr h₀ L s.heap m) (X : (hd.heap_39 w.params).In h₀) (T : Top PV LS mean mg mb h₀) (hk : cs.kind = .function) (hd : dp ≤ 880) (hu : un ≤ 8800)
    (N : News h₀ L s.heap news) (hx : (x, instObj 135 dx) ∈ news) (hdx : (dx, dictOf es n) ∈ news) (hkl : (klp, lstO vs c) ∈ news)
    (U : ∀ o₁ o₂, ∃ mid, Upd dx (dictOf es n) o₁ news mid ∧ Upd klp (lstO vs c) o₂ mid (news' o₁ o₂))
    (h1 : @Ne Nat x dx) (h2 : @Ne Nat klp x) (h3 : @Ne Nat klp dx) (I : ItemAt (inHeap s.heap) px pdx pes pname ppar pcl klp poff) (h4 : px ∉ [x, dx, klp]) (h5 : pdx ∉ [x, dx, klp])
    (J : Entries es xname xpar xcl xkl xoff b) (hb : b ≤ 39) (hz : vs.length ≤ 100)
    (ret : ∀ h' tk' hsh t n', Fr h₀ L h' m → News h₀ L h' (news' (dictOf (putL (Str.ofString "parent") hsh (.str (Str.ofString "parent") t) (.ref px) es) n') (lstO (vs ++ [.ref x]) (c + 1))) → Q .none { s with heap := h', toks := tk' }) :
    wpAny (model PG w) (ktrTop dp un gd cn cs L a ccd cl outer) (call (.ref 111) [.ref px, .ref x]) Q E s := by
  refine add_ok (n := n) (c := c) B F X T hk hd hu (fun p hp => ?_) h1 h2 h3 I h4 h5 J hb hz fun h' tk' hsh t n' F' ab e1 e2 e3 => ?_
  · rcases List.mem_cons.mp hp with rfl | hp
    · exact N _ hx
    rcases List.mem_cons.mp hp with rfl | hp
    · exact N _ hdx
    rw [List.mem_singleton.mp hp]; exact N _ hkl
  · refine ret h' tk' hsh t n' F' fun p hp => ?_
    obtain ⟨mid, U1, U2⟩ := U (dictOf (putL (Str.ofString "parent") hsh (.str (Str.ofString "parent") t) (.ref px) es) n') (lstO (vs ++ [.ref x]) (c + 1))
    rcases upd_mem U2 p hp with rfl | ⟨hp, q2⟩
    · exact ⟨e3, (N _ hkl).2⟩
    rcases upd_mem U1 p hp with rfl | ⟨hp, q1⟩
    · exact ⟨e2, (N _ hdx).2⟩
    by_cases q : p.1 = x
    · have g := (N p hp).1
      have g' := (N _ hx).1
      dsimp only at g'
      rw [q, g'] at g
      refine ⟨?_, (N p hp).2⟩
      rw [q, e1]
      exact g
    · exact ⟨ab _ _ (by simp only [List.mem_cons, List.not_mem_nil, or_false, not_or]; exact ⟨q, q1, q2⟩) (N p hp).1, (N p hp).2⟩
theorem way_len {G : Gh} (O : G.Ok) {i : Nat} (hi : i < G.n) {vs : List Value} (h : StrsAre vs (G.way i)) : vs.length ≤ 10 := by
  have h1 := h.length
  have h2 := anc_size G O hi
  have h3 : (G.names i).length ≤ ((G.anc i).map G.nm).length := List.length_filter_le _ _
  have h4 : (G.way i).length = (G.names i).length + 1 := by unfold Gh.way; rw [List.length_append]; rfl
  rw [List.length_map] at h3
  omega
theorem item_rng {prog : Program} {w : World} {A : Around} {E : Value → Shared → Prop} {s : Shared} {Q : Value → Shared → Prop} {value slice : PySem.Expr} {a : Addr} {n p : Nat} {g : Nat → Addr} {u : Tok} (hp : p < n) (x : LstAt s.heap a ((List.range n).map fun j => .ref (g j))) (h : Q (.ref (g p)) s)
    (hs : subscripted slice false (.ref a) (.int (p : Int) u) = operate [.ref a, .int (p : Int) u] (getItem (.ref a) (.int (p : Int) u)) := by with_unfolding_all rfl) : wpAny (model prog w) A (subscriptTail value slice (.ref a) (.int (p : Int) u)) Q E s := by
  refine item_lstAt x (Int.natCast_nonneg _) (v := .ref (g p)) ?_ h hs
  rw [Int.toNat_natCast, List.getElem?_map, List.getElem?_range hp]
  rfl
theorem child_way {G : Gh} {N : Nw} {p : Nat} {us vs : List Value} (O : G.Ok) (T : N.Fit G) (hp : N.pa = some p) (h1 : StrsAre us (if (G.nm p == Str.ofString "FILLER") = true then [] else [G.nm p])) (h2 : StrsAre vs (G.way p)) : StrsAre (us ++ vs) ((G.grow N).way G.n) := by
  rw [grow_way_child O T hp]
  exact h1.append' h2
end
local macro_rules | `(tactic| walk_at "subscriptTail Name Name ref int") => `(tactic| (k_here; (with_reducible show wpAny _ _ (subscriptTail _ _ (Value.ref _) (Value.int (Nat.cast _) _)) _ _ _); (with_unfolding_all refine' item_rng ?hp ?x ?_ ?s; (case x => walk_at "my lst"); (case hp => assumption); (case s => with_unfolding_all rfl)); (try k_whole)))
local macro_rules | `(tactic| walk_at "getMethod ref") => `(tactic| ((with_reducible refine at_add ?_); refine item_addm (by k_in) (by walk_at "my item") ?_))
local macro_rules | `(tactic| walk_at "call ref") => `(tactic| (with_reducible refine h111 ?_))
local macro_rules | `(tactic| walk_at "binaryOp Add ref ref") => `(tactic| (k_dflt (refine' add_any (by k_asm) (by k_asm) (by walk_at "my lst") (by walk_at "my lst") ?_; k_whole); intro D' h' F' N' l1))
section
open PySem PySem.W PySem.Calls PySem.Spec PyProof.Rows
set_option maxRecDepth 100000
set_option linter.unusedVariables false
def TailReady (w : World) (h₀ : Heap) (L tp ce ia wa ma ra d : Addr) (m₀ : Str → Option Value) (G : Gh) (fl own : List (Addr × Obj)) (ci cw cm cr : Nat) (oQ oWho oW oI oT : Obj) (x dx cl kl : Addr) (who : Str) (i : Nat) (t' : Tok) (s : Shared) (s' : Shared) : Prop :=
  ∃ (h : Heap) (tk : Nat) (fl₂ : List (Addr × Obj)) (n : Int) (t : Tok) (c dd : Nat) (vs : List Value) (ns : List Int) (wy chg : Addr) (es : List DictEntry) (n₂ cu : Nat) (us : List Value) (pa : Option Nat) (rm : Nat) (u₂ u₃ u₅ u₆ : Option Value),
    s' = { s with heap := h, toks := tk } ∧ Fr h₀ L h (fun y => if y = Str.ofString "k" then some (.int (0 + (i : Int)) t') else put loopNames [some (.ref x), u₂, u₃, some (.ref wy), u₅, u₆] (lawVars ma ra d m₀) y) ∧
    News h₀ L h ((wy, lstO us cu) :: (x, instObj 135 dx) :: (dx, dictOf es n₂) :: (kl, lstO [] 0) :: (cl, lstO [] 0) :: (tp, lstO [.ref ce, .int n t] c) :: (ce, lstO vs dd) :: (L + 1 + 1 + 1 + 1 + 1, oQ) :: (L + 1 + 1 + 1 + 1, oWho) :: (L + 1 + 1 + 1, oW) :: (L + 1 + 1, oI) :: (L + 1, oT) ::
      (ia, lstO ((List.range G.n).map G.ref) ci) :: (wa, lstO ((List.range G.n).map fun i => .ref (G.wy i)) cw) :: (ma, lstO ((marked G).map fun i => .ref (G.mt i)) cm) :: (ra, lstO [.ref (G.room 0), .ref (G.room 1), .ref (G.room 2), .ref (G.room 3)] cr) :: (fl₂ ++ own)) ∧
    (IntsAre vs ns ∧ 0 < ns.length ∧ ns.length ≤ 60 ∧ 0 ≤ n) ∧ Made w G fl fl₂ own x dx cl kl wy ma chg es who us pa rm i
set_option maxHeartbeats 4000000 in
theorem turn_child {w : World} {mean : ExcName → Option Value} {mg mb : Str → Option Value} {dp un : Nat} {gd : Option (List Code)} {fa : Addr} {cv : Value} {A₀ : Around} {base h₀ h : Heap} {L : Addr} {m₀ : Str → Option Value} {s : Shared} {tk : Nat} {Q : Flow → Shared → Prop}
    {tp ce ia wa ma ra d : Addr} {G : Gh} {fl own : List (Addr × Obj)} {n : Int} {t : Tok} {c dd ci cw cm cr : Nat} {vs : List Value} {ns : List Int} {oQ oWho oW oI oT : Obj}
    {x dx cl kl : Addr} {es : List DictEntry} {n₂ : Nat} {who : Str} {i : Nat} {t' tb : Tok} {ab : Int} {u₃ u₄ u₅ u₆ : Option Value}
    (B : Below A₀ base [] h₀) (F : Fr h₀ L h (fun y => if y = Str.ofString "k" then some (.int (0 + (i : Int)) t') else put loopNames [some (.ref x), some (.int ab tb), u₃, u₄, u₅, u₆] (lawVars ma ra d m₀) y)) (X : (hd.heap_39 w.params).In h₀) (T : Top PV LS mean mg mb h₀) (hdp : dp ≤ 400) (hun : un ≤ 4000)
    (N : News h₀ L h ((x, instObj 135 dx) :: (dx, dictOf es n₂) :: (kl, lstO [] 0) :: (cl, lstO [] 0) :: (tp, lstO [.ref ce, .int n t] c) :: (ce, lstO vs dd) :: (L + 1 + 1 + 1 + 1 + 1, oQ) :: (L + 1 + 1 + 1 + 1, oWho) :: (L + 1 + 1 + 1, oW) :: (L + 1 + 1, oI) :: (L + 1, oT) ::
      (ia, lstO ((List.range G.n).map G.ref) ci) :: (wa, lstO ((List.range G.n).map fun i => .ref (G.wy i)) cw) :: (ma, lstO ((marked G).map fun i => .ref (G.mt i)) cm) :: (ra, lstO [.ref (G.room 0), .ref (G.room 1), .ref (G.room 2), .ref (G.room 3)] cr) :: (fl ++ own)))
    (I : Inv w L tp ce ia wa ma ra d G fl n vs ns oQ oWho oW oI oT) (hG : G.n = i) (hi9 : i < 9) (hoff : OffL own (fixed L tp ce ia wa ma ra G n t c dd ci cw cm cr vs oQ oWho oW oI oT fl))
    (J : Entries es who .none cl kl i 31) (hw : who.length ≤ 10) (ha0 : 0 ≤ ab) (ha4 : ab < 4) (l0 : @LT.lt Nat _ ma dx) (l1 : ∀ p ∈ fl ++ own, p.1 < dx) (l2 : @LT.lt Nat _ dx x) (l3 : @LT.lt Nat _ x cl) (l4 : @LT.lt Nat _ cl kl) (hk0 : @Ne Nat i 0) (hab0 : ab ≠ 0) :
    LawTurn w 4 fun stmts scope qual => ∀ te bo oe ps rest, stmts = .If te bo oe ps :: rest → wpAny (model PG w) (ktrTop dp un gd qual scope L fa cv (cellsFrom (L + 1) scope.names []) []) (execs oe (envOfC qual scope L fa cv))
      (fun f s' => f = .next ∧ TailReady w h₀ L tp ce ia wa ma ra d m₀ G fl own ci cw cm cr oQ oWho oW oI oT x dx cl kl who i t' s s') (fun _ _ => False) { s with heap := h, toks := tk } := by
  w_top off
  intro name qual params body scope dV kV doc pm cdv ct oc an od osl tg it fb oe ps ho hb te bo oe' ps' rest hif
  have key := ho.symm.trans (show (hd.heap_39 w.params).lookup 280 = some ⟨_, _, .func (fnOf _ _ _ _ _ _ _ _ _ _ _ _), _⟩ from by k_is)
  cases key
  cases hb
  cases hif
  obtain ⟨i1, i2, i3, i4, i5, i6, ⟨uq, i7⟩, ⟨uw, i8⟩, i9, i10, i11, f1, f2, f3, f4, f5, f6, f7, f8, f9, f10, f11, nd, o1, o2, o3, o4, o5, o6⟩ := I
  obtain ⟨_, _, _, _, _, _, _, _, _, _, _, _, _, _, _, _, _, _, _, _, _, _, _, _, _, _, _, _, _, _, _, _, _, _, _, _, _, _, _, _, _, _, _, _, _, _, _, _, _, _, _, _, _, _, _⟩ := sep_of o1 o2 o3 o4 o5 o6
  obtain ⟨_, _, _, _, _, _, _, _, _, _, _⟩ := sepN_of o1 o2 o3 o4 o5 o6 l0
  obtain ⟨_, _, _, _, _, _, _, _, _, _, _⟩ := sepN_of o1 o2 o3 o4 o5 o6 (Nat.lt_trans l0 l2)
  obtain ⟨_, _, _, _, _, _, _, _, _, _, _⟩ := sepN_of o1 o2 o3 o4 o5 o6 (Nat.lt_trans l0 (Nat.lt_trans l2 l3))
  obtain ⟨_, _, _, _, _, _, _, _, _, _, _⟩ := sepN_of o1 o2 o3 o4 o5 o6 (Nat.lt_trans l0 (Nat.lt_trans l2 (Nat.lt_trans l3 l4)))
  have z1 := Apart.lt l2
  have z2 := Apart.lt (Nat.lt_trans l2 l3)
  have z3 := Apart.lt (Nat.lt_trans l2 (Nat.lt_trans l3 l4))
  have z4 := Apart.lt l3
  have z5 := Apart.lt (Nat.lt_trans l3 l4)
  have z6 := Apart.lt l4
  refine hold_post fun Q' hQ' => ?_
  k_steps
  rename Fr _ _ _ _ => F
  rename News _ _ _ _ => N
  generalize hsp : (if (0 : Int) + (i : Int) - ab > 0 then 0 + (i : Int) - ab else 0) = sp at F ⊢
  have hsp0 : 0 ≤ sp := by rw [← hsp]; split <;> omega
  have hsp1 : sp < (G.n : Int) := by rw [← hsp]; split <;> omega
  clear hsp
  obtain ⟨p, rfl⟩ := Int.eq_ofNat_of_zero_le hsp0
  have hp : p < G.n := by omega
  clear hsp0 hsp1
  obtain ⟨cκ, hκm⟩ := i2.forest.kids p hp
  have hκm : (G.kl p, lstO ((G.kids p).map G.ref) cκ) ∈ fl := hκm
  have hip : (G.ad p, instObj 135 (G.dx p)) ∈ fl := (i2.forest.item p hp).inst
  obtain ⟨nδ, hδ⟩ := (i2.forest.item p hp).dict
  have hδ : (G.dx p, dictOf (G.es p) nδ) ∈ fl := hδ
  obtain ⟨usp, cω, hωm, hus⟩ := i2.ways p hp
  have hωm : (G.wy p, lstO usp cω) ∈ fl := hωm
  have husl := way_len i2.ok hp hus
  have e1 : G.ad p ≠ G.kl p := ne_shape i2.fn hκm hip (by intro e; cases e)
  have e2 : G.dx p ≠ G.kl p := ne_shape i2.fn hκm hδ dict_ne
  have e3 : G.wy p ≠ G.kl p := i2.ap.wk p p hp hp
  have hlA : @LT.lt Nat _ (G.ad p) dx := l1 _ (List.mem_append_left _ hip)
  have hlD : @LT.lt Nat _ (G.dx p) dx := l1 _ (List.mem_append_left _ hδ)
  have hlK : @LT.lt Nat _ (G.kl p) dx := l1 _ (List.mem_append_left _ hκm)
  have g1 : Apart (G.kl p) tp := f1 _ hκm
  have g2 : Apart (G.kl p) ce := f2 _ hκm
  have g3 : Apart (G.kl p) (L + 1 + 1 + 1 + 1) := f3 _ hκm
  have g4 : Apart (G.kl p) (L + 1 + 1 + 1 + 1 + 1) := f4 _ hκm
  have g5 : Apart (G.kl p) ia := f5 _ hκm
  have g6 : Apart (G.kl p) wa := f6 _ hκm
  have g7 : Apart (G.kl p) ma := f7 _ hκm
  have g8 : Apart (G.kl p) (L + 1 + 1 + 1) := f8 _ hκm
  have g9 : Apart (G.kl p) (L + 1 + 1) := f9 _ hκm
  have g10 : Apart (G.kl p) (L + 1) := f10 _ hκm
  have g11 : Apart (G.kl p) ra := f11 _ hκm
  have z7 := Apart.lt hlK
  have z8 := Apart.lt (Nat.lt_trans hlK l2)
  have z9 := Apart.lt (Nat.lt_trans hlK (Nat.lt_trans l2 l3))
  have z0 := Apart.lt (Nat.lt_trans hlK (Nat.lt_trans l2 (Nat.lt_trans l3 l4)))
  have hoD : ∀ p_1 ∈ own, p_1.1 ≠ G.kl p := fun p_1 hp_1 => hoff p_1 hp_1 (G.kl p, _) (by walk_at "my in")
  have hdx : ∀ p ∈ fl ++ own, p.1 ≠ dx := fun p hp => Nat.ne_of_lt (l1 p hp)
  have hls : (List.map (fun j => Value.ref (G.ad j)) (List.range G.n)).length ≤ 100000 := by rw [List.length_map, List.length_range]; omega
  have hls2 : (List.map (fun j => Value.ref (G.wy j)) (List.range G.n)).length ≤ 100000 := by rw [List.length_map, List.length_range]; omega
  have HI : ∀ {h : Heap} {N' : List (Addr × Obj)}, News h₀ L h N' → (G.ad p, instObj 135 (G.dx p)) ∈ N' → (G.dx p, dictOf (G.es p) nδ) ∈ N' → ItemAt (inHeap h) (G.ad p) (G.dx p) (G.es p) (G.nm p) ((G.pa p).map G.ad) (G.cl p) (G.kl p) p :=
    fun NN a b => { i2.forest.item p hp with inst := (NN _ a).1, dict := ⟨nδ, (NN _ b).1⟩ }
  have hI := HI N (by walk_at "my in") (by walk_at "my in")
  k_steps
  rename Fr _ _ _ _ => F
  rename News _ _ _ _ => N
  have hkz : ((G.kids p).map G.ref).length ≤ 100 := by rw [List.length_map]; have := G.kids_len p; omega
  refine go ?_
  refine' add_use (xpar := .none) B F X T rfl (room0 hdp (by decide)) (room0 hun (by decide)) N ?hx ?hdx ?hkl ?U ?n1 ?n2 ?n3 hI ?n4 ?n5 J ?n6 hkz ?ret
  case hx => walk_at "my in2"
  case hdx => walk_at "my in2"
  case hkl => walk_at "my in"
  case U => (intro _ _; exact ⟨_, by walk_at "my upd", by walk_at "my deep"⟩)
  case n1 => exact Nat.ne_of_gt l2
  case n2 => exact Nat.ne_of_lt (Nat.lt_trans hlK l2)
  case n3 => exact Nat.ne_of_lt hlK
  case n4 => (simp only [List.mem_cons, List.not_mem_nil, or_false, not_or]; exact ⟨Nat.ne_of_lt (Nat.lt_trans hlA l2), Nat.ne_of_lt hlA, e1⟩)
  case n5 => (simp only [List.mem_cons, List.not_mem_nil, or_false, not_or]; exact ⟨Nat.ne_of_lt (Nat.lt_trans hlD l2), Nat.ne_of_lt hlD, e2⟩)
  case n6 => decide
  intro h₅ tk₅ hsh tt n₅ F₅ N₅
  clear F N hI
  have q1 := setL_keep (o' := lstO ((G.kids p).map G.ref ++ [.ref x]) (cκ + 1)) hip e1
  have q2 := setL_keep (o' := lstO ((G.kids p).map G.ref ++ [.ref x]) (cκ + 1)) hδ e2
  have q3 := setL_keep (o' := lstO ((G.kids p).map G.ref ++ [.ref x]) (cκ + 1)) hωm e3
  have hI := HI N₅ (by walk_at "my in") (by walk_at "my in")
  have hW : LstAt h₅ (G.wy p) usp := lst_of ⟨cω, (N₅ (G.wy p, lstO usp cω) (by walk_at "my in")).1⟩ (by omega)
  have J' : Entries _ who (refV ((some p).map G.ad)) cl kl i 32 := J.setPar (hsh := hsh) (t := tt) (p' := .ref (G.ad p))
  k_steps
  all_goals (
    clear hI hW
    rename Fr _ _ _ _ => F
    rename News _ _ _ _ => N
    refine' add_any F N ?lstA ?lstB ?_
    case lstA => exact LstAt.of_news N (by k_mem) (Nat.le_of_ble_eq_true rfl)
    case lstB => exact LstAt.of_news N (n := cω) (vs := usp) (by walk_at "my in") (by omega)
    intro wy h₆ F₆ N₆ l6
    clear F N
    have hl6 : @LT.lt Nat _ kl wy := l6 (kl, lstO [] 0) (by walk_at "my in2")
    clear l6
    k_steps
    rename Fr _ _ _ _ => F
    rename News _ _ _ _ => N
    have F2 := fr_norm F (x := Str.ofString "k") (st := loopNames) (mL := lawVars ma ra d m₀) (by intro z hz; simp only [NotIn] at hz; simp [hz, put])
    rename IntsAre _ _ => hi1
    refine hQ' _ _ ⟨rfl, ?_⟩
    refine' ⟨_, _, setL (G.kl p) (lstO ((G.kids p).map G.ref ++ [.ref x]) (cκ + 1)) fl, _, _, _, _, _, _, wy, G.kl p, _, n₅, 0, _, some p, 0, _, _, _, _, rfl, F2, ?N, ?P, ?M⟩
    case N =>
      refine fun q hq => N q ?_
      revert q
      walk_at "my sub"
    case P => exact ⟨hi1, by assumption, by assumption, by assumption⟩
    case M =>
      refine ⟨J'.more (by decide), l0, l1, l2, l3, l4, hl6, setL_fst _ _ _, fun a o h ne => setL_keep h ne, ⟨_, _, hκm⟩, fun r hr => ?_, fun j hj => ?_, fun j hj => i2.ap.ck j p hj hp, fun j hj => i2.ap.wk j p hj hp, (fun q e => by cases e; exact hp), (by decide), hw, fun Nn h1 h2 Tn => child_way i2.ok Tn h1 ?_ hus⟩
      · obtain ⟨c, q⟩ := i2.forest.rooms r hr
        refine ⟨c, ?_⟩
        rw [if_neg (fun z => by cases z.1), List.append_nil]
        exact setL_keep q (fun z => i2.ap.kr p r hp hr z.symm)
      · by_cases e : j = p
        · subst e
          rw [if_pos rfl]
          exact ⟨_, setL_has hκm⟩
        · obtain ⟨c, q⟩ := i2.forest.kids j hj
          refine ⟨c, ?_⟩
          rw [if_neg (fun z => e (Option.some.inj z).symm), List.append_nil]
          exact setL_keep q (fun z => e (i2.ap.kk j p hj hp z))
      · rename (_ == Str.ofString "FILLER") = _ => hF
        simp only [hF, if_true, Bool.false_eq_true, if_false]
        first | exact .nil | exact .cons _ _ .nil)
structure ChildOK (w : World) (A : Around) (env : Env) (oe : List Stmt) (Q : Flow → Shared → Prop) (E : Value → Shared → Prop) (g : Nat → Shared) (i : Nat) (ab : Int) : Prop where
  use : ∀ tk, @Ne Nat i 0 → ab ≠ 0 → wpAny (model PG w) A (execs oe env) Q E (g tk)
end
section
local macro_rules | `(tactic| walk_at "zz") => `(tactic| skip)
open PySem PySem.W PySem.Calls PySem.Spec PyProof.Rows
set_option maxRecDepth 100000
set_option linter.unusedVariables false
theorem offL_same {own l l' : List (Addr × Obj)} (h : OffL own l) (e : l'.map (·.1) = l.map (·.1)) : OffL own l' := offL_fst e h
set_option maxHeartbeats 4000000 in
theorem turn_root {w : World} {mean : ExcName → Option Value} {mg mb : Str → Option Value} {dp un : Nat} {gd : Option (List Code)} {fa : Addr} {cv : Value} {A₀ : Around} {base h₀ h : Heap} {L : Addr} {m₀ : Str → Option Value} {s : Shared} {tk : Nat} {Q : Flow → Shared → Prop}
    {tp ce ia wa ma ra d : Addr} {G : Gh} {fl own : List (Addr × Obj)} {n : Int} {t : Tok} {c dd ci cw cm cr : Nat} {vs : List Value} {ns : List Int} {oQ oWho oW oI oT : Obj}
    {x dx cl kl : Addr} {es : List DictEntry} {n₂ : Nat} {who : Str} {i : Nat} {t' tb : Tok} {ab : Int} {u₃ u₄ u₅ u₆ : Option Value}
    (B : Below A₀ base [] h₀) (F : Fr h₀ L h (fun y => if y = Str.ofString "k" then some (.int (0 + (i : Int)) t') else put loopNames [some (.ref x), some (.int ab tb), u₃, u₄, u₅, u₆] (lawVars ma ra d m₀) y)) (X : (hd.heap_39 w.params).In h₀) (T : Top PV LS mean mg mb h₀) (hdp : dp ≤ 400) (hun : un ≤ 4000)
    (N : News h₀ L h ((x, instObj 135 dx) :: (dx, dictOf es n₂) :: (kl, lstO [] 0) :: (cl, lstO [] 0) :: (tp, lstO [.ref ce, .int n t] c) :: (ce, lstO vs dd) :: (L + 1 + 1 + 1 + 1 + 1, oQ) :: (L + 1 + 1 + 1 + 1, oWho) :: (L + 1 + 1 + 1, oW) :: (L + 1 + 1, oI) :: (L + 1, oT) ::
      (ia, lstO ((List.range G.n).map G.ref) ci) :: (wa, lstO ((List.range G.n).map fun i => .ref (G.wy i)) cw) :: (ma, lstO ((marked G).map fun i => .ref (G.mt i)) cm) :: (ra, lstO [.ref (G.room 0), .ref (G.room 1), .ref (G.room 2), .ref (G.room 3)] cr) :: (fl ++ own)))
    (I : Inv w L tp ce ia wa ma ra d G fl n vs ns oQ oWho oW oI oT) (hG : G.n = i) (hi9 : i < 9) (hoff : OffL own (fixed L tp ce ia wa ma ra G n t c dd ci cw cm cr vs oQ oWho oW oI oT fl))
    (J : Entries es who .none cl kl i 31) (hw : who.length ≤ 10) (ha0 : 0 ≤ ab) (ha4 : ab < 4) (l0 : @LT.lt Nat _ ma dx) (l1 : ∀ p ∈ fl ++ own, p.1 < dx) (l2 : @LT.lt Nat _ dx x) (l3 : @LT.lt Nat _ x cl) (l4 : @LT.lt Nat _ cl kl) :
    LawTurn w 4 fun stmts scope qual => ∀ te bo oe ps rest, stmts = .If te bo oe ps :: rest → wpAny (model PG w) (ktrTop dp un gd qual scope L fa cv (cellsFrom (L + 1) scope.names []) []) (execs bo (envOfC qual scope L fa cv))
      (fun f s' => f = .next ∧ TailReady w h₀ L tp ce ia wa ma ra d m₀ G fl own ci cw cm cr oQ oWho oW oI oT x dx cl kl who i t' s s') (fun _ _ => False) { s with heap := h, toks := tk } := by
  w_top off
  intro name qual params body scope dV kV doc pm cdv ct oc an od osl tg it fb oe ps ho hb te bo oe' ps' rest hif
  have key := ho.symm.trans (show (hd.heap_39 w.params).lookup 280 = some ⟨_, _, .func (fnOf _ _ _ _ _ _ _ _ _ _ _ _), _⟩ from by k_is)
  cases key
  cases hb
  cases hif
  obtain ⟨i1, i2, i3, i4, i5, i6, ⟨uq, i7⟩, ⟨uw, i8⟩, i9, i10, i11, f1, f2, f3, f4, f5, f6, f7, f8, f9, f10, f11, nd, o1, o2, o3, o4, o5, o6⟩ := I
  obtain ⟨_, _, _, _, _, _, _, _, _, _, _, _, _, _, _, _, _, _, _, _, _, _, _, _, _, _, _, _, _, _, _, _, _, _, _, _, _, _, _, _, _, _, _, _, _, _, _, _, _, _, _, _, _, _, _⟩ := sep_of o1 o2 o3 o4 o5 o6
  obtain ⟨_, _, _, _, _, _, _, _, _, _, _⟩ := sepN_of o1 o2 o3 o4 o5 o6 l0
  obtain ⟨_, _, _, _, _, _, _, _, _, _, _⟩ := sepN_of o1 o2 o3 o4 o5 o6 (Nat.lt_trans l0 l2)
  obtain ⟨_, _, _, _, _, _, _, _, _, _, _⟩ := sepN_of o1 o2 o3 o4 o5 o6 (Nat.lt_trans l0 (Nat.lt_trans l2 l3))
  obtain ⟨_, _, _, _, _, _, _, _, _, _, _⟩ := sepN_of o1 o2 o3 o4 o5 o6 (Nat.lt_trans l0 (Nat.lt_trans l2 (Nat.lt_trans l3 l4)))
  have z1 := Apart.lt l2
  have z2 := Apart.lt (Nat.lt_trans l2 l3)
  have z3 := Apart.lt (Nat.lt_trans l2 (Nat.lt_trans l3 l4))
  have z4 := Apart.lt l3
  have z5 := Apart.lt (Nat.lt_trans l3 l4)
  have z6 := Apart.lt l4
  refine hold_post fun Q' hQ' => ?_
  k_steps
  rename Fr _ _ _ _ => F
  rename News _ _ _ _ => N
  refine item_room (by assumption) (by assumption) (LstAt.of_news N (by k_mem) (Nat.le_of_ble_eq_true rfl)) (fun ρ hρ er => ?_)
  subst er
  obtain ⟨cρ, hρm⟩ := i2.forest.rooms ρ hρ
  have hρm : (G.room ρ, lstO ((G.roots ρ).map G.ref) cρ) ∈ fl := hρm
  have hρH := (N (G.room ρ, lstO ((G.roots ρ).map G.ref) cρ) (by walk_at "my in")).1
  dsimp only at hρH
  k_steps
  have hlD : @LT.lt Nat _ (G.room ρ) dx := l1 _ (List.mem_append_left _ hρm)
  have g1 : Apart (G.room ρ) tp := f1 _ hρm
  have g2 : Apart (G.room ρ) ce := f2 _ hρm
  have g3 : Apart (G.room ρ) (L + 1 + 1 + 1 + 1) := f3 _ hρm
  have g4 : Apart (G.room ρ) (L + 1 + 1 + 1 + 1 + 1) := f4 _ hρm
  have g5 : Apart (G.room ρ) ia := f5 _ hρm
  have g6 : Apart (G.room ρ) wa := f6 _ hρm
  have g7 : Apart (G.room ρ) ma := f7 _ hρm
  have g8 : Apart (G.room ρ) (L + 1 + 1 + 1) := f8 _ hρm
  have g9 : Apart (G.room ρ) (L + 1 + 1) := f9 _ hρm
  have g10 : Apart (G.room ρ) (L + 1) := f10 _ hρm
  have g11 : Apart (G.room ρ) ra := f11 _ hρm
  have z7 := Apart.lt hlD
  have z8 := Apart.lt (Nat.lt_trans hlD l2)
  have z9 := Apart.lt (Nat.lt_trans hlD (Nat.lt_trans l2 l3))
  have z0 := Apart.lt (Nat.lt_trans hlD (Nat.lt_trans l2 (Nat.lt_trans l3 l4)))
  have hoD : ∀ p ∈ own, p.1 ≠ G.room ρ := fun p hp => hoff p hp (G.room ρ, _) (by walk_at "my in")
  rename Fr _ _ _ _ => F
  rename News _ _ _ _ => N
  refine' append_K (its := ((G.roots ρ).map G.ref).toArray) (n := cρ) F N ?U ?h ?z
  case U => walk_at "my deep"
  case z => (have := G.roots_len ρ; rw [List.size_toArray, List.length_map, sizeLine_eq]; omega)
  intro h₅ F₅ N₅
  clear F N
  k_steps
  rename ∀ (p : Addr × Obj), p ∈ _ → p.1 < _ => hlt
  rename Fr _ _ _ _ => F
  rename News _ _ _ _ => N
  rw [List.push_toArray, way_slice hρ] at N
  refine head_named N fun wy hwy => ?_
  subst hwy
  have F2 := fr_norm F (x := Str.ofString "k") (st := loopNames) (mL := lawVars ma ra d m₀) (by intro z hz; simp only [NotIn] at hz; simp [hz, put])
  rename IntsAre _ _ => hi1
  refine hQ' _ _ ⟨rfl, ?_⟩
  refine' ⟨_, _, setL (G.room ρ) (lstO ((G.roots ρ).map G.ref ++ [.ref x]) (cρ + 1)) fl, _, _, _, _, _, _, wy, G.room ρ, es, n₂, 0, _, none, ρ, _, _, _, _, rfl, F2, ?N, ?P, ?M⟩
  case N =>
    refine fun p hp => N p ?_
    revert p
    walk_at "my sub"
  case P => exact ⟨hi1, by assumption, by assumption, by assumption⟩
  case M =>
    refine ⟨J.more (by decide), l0, l1, l2, l3, l4, hlt (kl, lstO [] 0) (by walk_at "my in2"), setL_fst _ _ _, fun a o h ne => setL_keep h ne, ⟨_, _, hρm⟩, fun r hr => ?_, fun j hj => ?_, fun j hj => i2.ap.cr j ρ hj hρ, fun j hj => i2.ap.wr j ρ hj hρ, (fun p e => by cases e), hρ, hw, fun Nn h1 h2 Tn => ?_⟩
    · by_cases e : r = ρ
      · subst e
        rw [if_pos ⟨rfl, rfl⟩]
        exact ⟨_, setL_has hρm⟩
      · obtain ⟨c, q⟩ := i2.forest.rooms r hr
        refine ⟨c, ?_⟩
        rw [if_neg (fun z => e z.2.symm), List.append_nil]
        exact setL_keep q (fun z => e (i2.ap.rr r ρ hr hρ z))
    · obtain ⟨c, q⟩ := i2.forest.kids j hj
      refine ⟨c, ?_⟩
      rw [if_neg (fun z => by cases z), List.append_nil]
      exact setL_keep q (i2.ap.kr j ρ hj hρ)
    · rw [grow_way_root i2.ok Tn h1, h2]
      exact .cons _ _ .nil
structure RootOK (w : World) (A : Around) (env : Env) (bo : List Stmt) (Q : Flow → Shared → Prop) (E : Value → Shared → Prop) (g : Nat → Shared) : Prop where
  use : ∀ tk, wpAny (model PG w) A (execs bo env) Q E (g tk)
local macro_rules | `(tactic| walk_at "execs cons") => `(tactic| (k_here; (rename ChildOK _ _ _ _ _ _ _ _ _ => hch); refine hch.use _ ?_ ?_; omega; assumption))
local macro_rules | `(tactic| walk_at "execs cons") => `(tactic| (k_here; (rename RootOK _ _ _ _ _ _ _ => hrt); refine hrt.use _))
set_option maxHeartbeats 4000000 in
theorem turn_if {w : World} {mean : ExcName → Option Value} {mg mb : Str → Option Value} {dp un : Nat} {gd : Option (List Code)} {fa : Addr} {cv : Value} {A₀ : Around} {base h₀ h : Heap} {L : Addr} {m₀ : Str → Option Value} {s : Shared} {tk : Nat} {Q : Flow → Shared → Prop}
    {tp ce ia wa ma ra d : Addr} {G : Gh} {fl own : List (Addr × Obj)} {n : Int} {t : Tok} {c dd ci cw cm cr : Nat} {vs : List Value} {ns : List Int} {oQ oWho oW oI oT : Obj}
    {x dx cl kl : Addr} {es : List DictEntry} {n₂ : Nat} {who : Str} {i : Nat} {t' tb : Tok} {ab : Int} {u₃ u₄ u₅ u₆ : Option Value}
    (B : Below A₀ base [] h₀) (F : Fr h₀ L h (fun y => if y = Str.ofString "k" then some (.int (0 + (i : Int)) t') else put loopNames [some (.ref x), some (.int ab tb), u₃, u₄, u₅, u₆] (lawVars ma ra d m₀) y)) (X : (hd.heap_39 w.params).In h₀) (T : Top PV LS mean mg mb h₀) (hdp : dp ≤ 400) (hun : un ≤ 4000)
    (N : News h₀ L h ((x, instObj 135 dx) :: (dx, dictOf es n₂) :: (kl, lstO [] 0) :: (cl, lstO [] 0) :: (tp, lstO [.ref ce, .int n t] c) :: (ce, lstO vs dd) :: (L + 1 + 1 + 1 + 1 + 1, oQ) :: (L + 1 + 1 + 1 + 1, oWho) :: (L + 1 + 1 + 1, oW) :: (L + 1 + 1, oI) :: (L + 1, oT) ::
      (ia, lstO ((List.range G.n).map G.ref) ci) :: (wa, lstO ((List.range G.n).map fun i => .ref (G.wy i)) cw) :: (ma, lstO ((marked G).map fun i => .ref (G.mt i)) cm) :: (ra, lstO [.ref (G.room 0), .ref (G.room 1), .ref (G.room 2), .ref (G.room 3)] cr) :: (fl ++ own)))
    (I : Inv w L tp ce ia wa ma ra d G fl n vs ns oQ oWho oW oI oT) (hG : G.n = i) (hi9 : i < 9) (hoff : OffL own (fixed L tp ce ia wa ma ra G n t c dd ci cw cm cr vs oQ oWho oW oI oT fl))
    (J : Entries es who .none cl kl i 31) (hw : who.length ≤ 10) (ha0 : 0 ≤ ab) (ha4 : ab < 4) (l0 : @LT.lt Nat _ ma dx) (l1 : ∀ p ∈ fl ++ own, p.1 < dx) (l2 : @LT.lt Nat _ dx x) (l3 : @LT.lt Nat _ x cl) (l4 : @LT.lt Nat _ cl kl) :
    LawTurn w 4 fun stmts scope qual => wpAny (model PG w) (ktrTop dp un gd qual scope L fa cv (cellsFrom (L + 1) scope.names []) []) (execs stmts (envOfC qual scope L fa cv))
      (PostV h₀ L (Str.ofString "k") loopNames (lawVars ma ra d m₀) (J1 w L tp ce ia wa ma ra d (i + 1)) own s Q) (fun _ _ => False) { s with heap := h, toks := tk } := by
  w_top off
  intro name qual params body scope dV kV doc pm cdv ct oc an od osl tg it fb oe ps ho hb
  have key := ho.symm.trans (show (hd.heap_39 w.params).lookup 280 = some ⟨_, _, .func (fnOf _ _ _ _ _ _ _ _ _ _ _ _), _⟩ from by k_is)
  cases key
  cases hb
  have hch : ChildOK w _ _ _ _ _ _ i ab := ⟨fun tk hk0 hab0 => turn_child (Q := Q) (gd := gd) (fa := fa) (cv := cv) (tk := tk) (s := s) B F X T hdp hun N I hG hi9 hoff J hw ha0 ha4 l0 l1 l2 l3 l4 hk0 hab0 _ _ _ _ _ _ _ _ _ _ _ _ _ _ _ _ _ _ _ _ ho rfl _ _ _ _ _ rfl⟩
  have hrt : RootOK w _ _ _ _ _ _ := ⟨fun tk => turn_root (Q := Q) (gd := gd) (fa := fa) (cv := cv) (tk := tk) (s := s) B F X T hdp hun N I hG hi9 hoff J hw ha0 ha4 l0 l1 l2 l3 l4 _ _ _ _ _ _ _ _ _ _ _ _ _ _ _ _ _ _ _ _ ho rfl _ _ _ _ _ rfl⟩
  dsimp only [List.drop]
  walk1
  refine wpAny_mono (E := fun _ _ => False) (Q := fun f s' => f = .next ∧ TailReady w h₀ L tp ce ia wa ma ra d m₀ G fl own ci cw cm cr oQ oWho oW oI oT x dx cl kl who i t' s s') ?_ ?_ (fun _ _ h => h)
  · k_steps
  · rintro f s' ⟨rfl, h', tk', fl₂, n', t₁, c', dd', vs', ns', wy, chg, es', n₂', cu, us, pa, rm, u₂', u₃', u₅', u₆', rfl, F', N', ⟨j1, j2, j3, j4⟩, M⟩
    exact turn_tail B F' X T hdp hun N' { I with are := j1, pos0 := j2, few := j3, pos := j4 } hG hi9 M (offL_same hoff rfl) _ _ _ _ _ _ _ _ _ _ _ _ _ _ _ _ _ _ _ _ ho rfl
end
section
open PySem PySem.W PySem.Calls PySem.Spec PyProof.Rows
set_option maxRecDepth 100000
set_option linter.unusedVariables false
theorem Entries.off0 {es : List DictEntry} {name : Str} {par : Value} {cl kl : Addr} {i : Int} {b : Nat} (I : Entries es name par cl kl (0 + i) b) : Entries es name par cl kl i b := by rw [Int.zero_add] at I; exact I
theorem lawNames_len {k : Nat} {y : Str} (h : lawNames[k]? = some y) : y.length ≤ 10 := by
  have h1 := List.mem_of_getElem? h
  have h2 : ∀ z ∈ lawNames, z.length ≤ 10 := by decide +kernel
  exact h2 y h1
structure StopAt (l : List Stmt) : Prop where
  stop : ∀ {M : Model} {A : Around} {env : Env} {Q : Flow → Shared → Prop} {E : Value → Shared → Prop} {s : Shared}, Halt (wpAny M A (execs l env) Q E s) → wpAny M A (execs l env) Q E s
theorem stop4 {w : World} : LawTurn w 4 fun stmts _ _ => StopAt stmts := fun _ _ _ _ _ _ _ _ _ _ _ _ _ _ _ _ _ _ _ _ _ _ => ⟨fun h => h⟩
local macro_rules | `(tactic| walk_at "execs cons") => `(tactic| (k_here; (rename StopAt _ => hst); refine hst.stop ?_))
set_option maxHeartbeats 4000000 in
theorem loop1 {w : World} {mean : ExcName → Option Value} {mg mb : Str → Option Value} {dp un : Nat} {gd : Option (List Code)} {fa : Addr} {cv : Value} {A₀ : Around} {base h₀ : Heap} {L : Addr} {m₀ : Str → Option Value} {s : Shared} {Q : Flow → Shared → Prop}
    {tp ce ia wa ma ra d : Addr} {G : Gh} {fl : List (Addr × Obj)} {n : Int} {t : Tok} {c dd ci cw cm cr : Nat} {vs : List Value} {ns : List Int} {oQ oWho oW oI oT : Obj}
    (B : Below A₀ base [] h₀) (F : Fr h₀ L s.heap (fun y => if y = Str.ofString "marks" then some (.ref ma) else if y = Str.ofString "rooms" then some (.ref ra) else if y = Str.ofString "data" then some (.ref d) else m₀ y)) (X : (hd.heap_39 w.params).In h₀) (T : Top PV LS mean mg mb h₀) (hdp : dp ≤ 400) (hun : un ≤ 4000)
    (N : News h₀ L s.heap (fixed L tp ce ia wa ma ra G n t c dd ci cw cm cr vs oQ oWho oW oI oT fl)) (I : Inv w L tp ce ia wa ma ra d G fl n vs ns oQ oWho oW oI oT) (hG : G.n = 0)
    (after : ∀ (h : Heap) (tk : Nat) (G : Gh) (fl : List (Addr × Obj)) (n : Int) (t : Tok) (c dd ci cw cm cr : Nat) (vs : List Value) (ns : List Int) (oQ oWho oW oI oT : Obj) (u u₁ u₂ u₃ u₄ u₅ u₆ : Option Value),
      Fr h₀ L h (fun y => if y = Str.ofString "k" then u else put loopNames [u₁, u₂, u₃, u₄, u₅, u₆] (lawVars ma ra d m₀) y) → News h₀ L h (fixed L tp ce ia wa ma ra G n t c dd ci cw cm cr vs oQ oWho oW oI oT fl) → Inv w L tp ce ia wa ma ra d G fl n vs ns oQ oWho oW oI oT →
      LawRest w 6 fun stmts scope qual => wpAny (model PG w) (ktrTop dp un gd qual scope L fa cv (cellsFrom (L + 1) scope.names []) []) (execs stmts (envOfC qual scope L fa cv)) Q (fun _ _ => False) { s with heap := h, toks := tk })
    : LawRest w 5 fun stmts scope qual => wpAny (model PG w) (ktrTop dp un gd qual scope L fa cv (cellsFrom (L + 1) scope.names []) []) (execs stmts (envOfC qual scope L fa cv)) Q (fun _ _ => False) s := by
  w_top off
  intro name qual params body scope dV kV doc pm cdv ct oc an od osl ho
  have key := ho.symm.trans (show (hd.heap_39 w.params).lookup 280 = some ⟨_, _, .func (fnOf _ _ _ _ _ _ _ _ _ _ _ _), _⟩ from by k_is)
  cases key
  have hst := stop4 (w := w) _ _ _ _ _ _ _ _ _ _ _ _ _ _ _ _ _ _ _ _ ho rfl
  dsimp only [List.drop] at hst
  dsimp only [List.drop]
  obtain ⟨i1, i2, i3, i4, i5, i6, ⟨uq, i7⟩, ⟨uw, i8⟩, i9, i10, i11, f1, f2, f3, f4, f5, f6, f7, f8, f9, f10, f11, nd, o1, o2, o3, o4, o5, o6⟩ := I
  obtain ⟨_, _, _, _, _, _, _, _, _, _, _, _, _, _, _, _, _, _, _, _, _, _, _, _, _, _, _, _, _, _, _, _, _, _, _, _, _, _, _, _, _, _, _, _, _, _, _, _, _, _, _, _, _, _, _⟩ := sep_of o1 o2 o3 o4 o5 o6
  k_steps
  refine go ?_
  (with_unfolding_all refine' For_invVF F ?k1 ?k2 ?_; (case k1 => exact rfl); (case k2 => exact rfl))
  k_steps
  rename Fr _ _ _ _ => F1
  rename News _ _ _ _ => N1
  rename IsRange _ _ _ _ _ _ _ _ => hrg
  rename IntsAre _ _ => hi1
  rename _ < (9 : Int) => hr9
  refine go ?_
  refine iterR [Str.ofString "item", Str.ofString "above", Str.ofString "room", Str.ofString "way", Str.ofString "spot", Str.ofString "rows"] (J1 w L tp ce ia wa ma ra d) (by rfl) hrg (small_one (by omega) (by omega) (by omega) (by omega)) (rangeSize_nat _ _) F1 N1
    ⟨G, fl, _, _, _, _, _, _, _, _, _, _, oQ, oWho, oW, oI, oT, ⟨_, _, _, _, _, _, rfl⟩, hG, rfl, ⟨i1, i2, hi1, by assumption, by assumption, by assumption, ⟨uq, i7⟩, ⟨uw, i8⟩, i9, i10, i11, f1, f2, f3, f4, f5, f6, f7, f8, f9, f10, f11, nd, o1, o2, o3, o4, o5, o6⟩⟩ ?_ ?_
  · clear i1 i2 i3 i4 i5 i6 i7 i8 i9 i10 i11 f1 f2 f3 f4 f5 f6 f7 f8 f9 f10 f11 nd F1 N1 hi1 F N hG
    rintro i t' vals nx h tk own hi hoff ⟨G, fl, n, t, c, dd, ci, cw, cm, cr, vs, ns, oQ, oWho, oW, oI, oT, ⟨u₁, u₂, u₃, u₄, u₅, u₆, rfl⟩, hGk, rfl, i1, i2, i3, i4, i5, i6, ⟨uq, i7⟩, ⟨uw, i8⟩, i9, i10, i11, f1, f2, f3, f4, f5, f6, f7, f8, f9, f10, f11, nd, _, _, _, _, _, _⟩ F₁ N₁
    simp only [List.cons_append] at N₁
    obtain ⟨a₁, a₂, a₃, a₄, hTn⟩ := names_at X
    have hSn : StrsAre [.str (Str.ofString "A") a₁, .str (Str.ofString "B") a₂, .str (Str.ofString "C") a₃, .str (Str.ofString "FILLER") a₄] lawNames := .cons _ _ (.cons _ _ (.cons _ _ (.cons _ _ .nil)))
    refine hold_post fun Q1 hQ1 => ?_
    k_steps
    rename Fr _ _ _ _ => F
    rename News _ _ _ _ => N
    rename _[_]? = some _ => hwho
    refine go (make_item B F X T rfl (room0 hdp (by decide)) (room0 hun (by decide)) N fun x dx cl kl es n₂ h₂ tk₂ F₂ N₂ l1 l2 l3 l4 l5 J => ?_)
    clear F N
    have hlo : ∀ p ∈ fl ++ own, p.1 < dx := fun p hp => l1 p (by repeat (first | exact hp | apply List.mem_cons_of_mem))
    have hdx : ∀ p ∈ fl ++ own, p.1 ≠ dx := fun p hp => Nat.ne_of_lt (hlo p hp)
    have hcl : ∀ p ∈ fl ++ own, p.1 ≠ cl := fun p hp => Nat.ne_of_lt (l5 p (by repeat (first | exact hp | apply List.mem_cons_of_mem)))
    k_lt l1
    have hma : @LT.lt Nat _ ma dx := by omega
    obtain ⟨_, _, _, _, _, _, _, _, _, _, _⟩ := sepN_of o1 o2 o3 o4 o5 o6 hma
    obtain ⟨_, _, _, _, _, _, _, _, _, _, _⟩ := sepN_of o1 o2 o3 o4 o5 o6 (Nat.lt_trans hma l2)
    obtain ⟨_, _, _, _, _, _, _, _, _, _, _⟩ := sepN_of o1 o2 o3 o4 o5 o6 (Nat.lt_trans hma (Nat.lt_trans l2 l3))
    obtain ⟨_, _, _, _, _, _, _, _, _, _, _⟩ := sepN_of o1 o2 o3 o4 o5 o6 (Nat.lt_trans hma (Nat.lt_trans l2 (Nat.lt_trans l3 l4)))
    have z1 := Apart.lt l2
    have z2 := Apart.lt (Nat.lt_trans l2 l3)
    have z3 := Apart.lt (Nat.lt_trans l2 (Nat.lt_trans l3 l4))
    have z4 := Apart.lt l3
    have z5 := Apart.lt (Nat.lt_trans l3 l4)
    have z6 := Apart.lt l4
    k_steps
    rename Fr _ _ _ _ => F
    rename News _ _ _ _ => N
    refine set_item F X N (.head _) (.tail _ (.head _)) (by k_is) (by obtain ⟨t, q⟩ := J.off; rw [q]; rfl) (by have := J.len; omega) (by walk_at "my upd") fun h₃ F₃ N₃ => ?_
    clear F N
    k_steps
    rename Fr _ _ _ _ => F
    rename News _ _ _ _ => N
    have hwl := lawNames_len hwho
    have F2 := fr_norm F (x := Str.ofString "k") (st := loopNames) (mL := lawVars ma ra d m₀) (by intro z hz; simp only [NotIn] at hz; simp [hz, put])
    rename IntsAre _ _ => hi1
    refine go (wpAny_mono ?_ hQ1 (fun _ _ q => q))
    exact turn_if (own := own) B F2 X T hdp hun N ⟨i1, i2, hi1, by assumption, by assumption, by assumption, ⟨uq, i7⟩, ⟨_, by assumption⟩, i9, i10, i11, f1, f2, f3, f4, f5, f6, f7, f8, f9, f10, f11, nd, by assumption, by assumption, by assumption, by assumption, by assumption, by assumption⟩ hGk (by omega) (offL_same hoff rfl)
      (Entries.off0 J.setOff) hwl (by assumption) (by assumption) hma hlo l2 l3 l4 _ _ _ _ _ _ _ _ _ _ _ _ _ _ _ _ _ _ _ _ ho rfl
  · rintro u vals nx h tk ⟨G, fl, n, t, c, dd, ci, cw, cm, cr, vs, ns, oQ, oWho, oW, oI, oT, ⟨u₁, u₂, u₃, u₄, u₅, u₆, rfl⟩, hGk, rfl, I⟩ F₁ N₁
    show wpAny _ _ (execs _ _) _ _ _
    exact after h tk G fl n t c dd ci cw cm cr vs ns oQ oWho oW oI oT u u₁ u₂ u₃ u₄ u₅ u₆ F₁ N₁ I _ _ _ _ _ _ _ _ _ _ _ _ _ _ _ ho
end
section
open PySem PySem.W PySem.Calls PySem.Spec PyProof.Rows
set_option maxRecDepth 100000
set_option linter.unusedVariables false
theorem Lw.use {w : World} {mean : ExcName → Option Value} {mg mb : Str → Option Value} {n : Nat} {f : Addr} {vs : List Value} {pre : Heap → Prop} {post : Heap → Value → Heap → Prop} (C : Lw w mean mg mb n f vs pre post)
    {dp un : Nat} {gd : Option (List Code)} {cn : Str} {cs : Scope} {a : Addr} {ccd : Value} {cl : List (Str × Addr)} {A₀ : Around} {base h₀ : Heap} {L : Addr} {m : Str → Option Value} {s : Shared} {Q E : Value → Shared → Prop} {news : List (Addr × Obj)}
    (B : Below A₀ base [] h₀) (F : Fr h₀ L s.heap m) (X : (hd.heap_39 w.params).In h₀) (N : News h₀ L s.heap news) (T : Top PV LS mean mg mb h₀) (hk : cs.kind = .function) (hd : dp + 10 * n ≤ 900) (hu : un + 100 * n ≤ 9000) (hp : pre s.heap)
    (ret : ∀ v h' tk', Fr h₀ L h' m → News h₀ L h' news → post s.heap v h' → Q v { s with heap := h', toks := tk' }) :
    wpAny (model PG w) (ktrTop dp un gd cn cs L a ccd cl []) (call (.ref f) vs) Q E s := by
  refine C dp un gd cn cs a ccd cl A₀ base h₀ L m s Q E B F X T hk hd hu hp fun v h' tk' up ab hq => ?_
  refine ret v h' tk' (F.of_stays (fun b o q => ab b o ?_ (F.keep b o q)) up) (fun p hp => ⟨ab _ _ ?_ (N p hp).1, (N p hp).2⟩) hq
  · intro hm
    rw [List.mem_singleton.mp hm] at q
    have := Heap.get?_none_of_le F.above
    rw [this] at q; cases q
  · intro hm
    exact (N p hp).2.1 (List.mem_singleton.mp hm)
theorem oneOff_of : ∀ {ys : List Value} {l : List Nat}, IntsAre ys (l.map Int.ofNat) → OneOff l (match ys with | [v] => v | _ => .none)
  | [], [], _ => .inr ⟨by decide, rfl⟩
  | [_], [j], .cons _ t .nil => .inl ⟨j, t, rfl, rfl⟩
  | _ :: _ :: _, a :: b :: r, .cons _ _ (.cons _ _ _) => .inr ⟨by simp, rfl⟩
noncomputable def Gh.dueT (G : Gh) (who : Str) (qs : List Str) (j : Nat) : Bool := (G.nm j == who) && isOn (G.way j) qs
def Gh.firstT (G : Gh) (j : Nat) : List Str := if (G.nm j == Str.ofString "FILLER") = true then [] else [G.nm j]
noncomputable def Gh.askT (G : Gh) (qs : List Str) (j : Nat) : Bool := isOn (G.firstT j ++ G.way j) qs
theorem range_filter_succ (p : Nat → Bool) (k : Nat) : (List.range (k + 1)).filter p = (List.range k).filter p ++ (if p k = true then [k] else []) := by
  rw [List.range_succ, List.filter_append, List.filter_cons, List.filter_nil]
theorem means_perm (G : Gh) (O : G.Ok) (who : Str) (qs : List Str) : (G.all.filter (G.means who qs)).Perm ((List.range G.n).filter (G.dueT who qs)) := by
  have e : G.means who qs = G.dueT who qs := by
    funext j
    unfold Gh.means Gh.dueT
    rw [leads_isOn]
  rw [e]
  exact (G.all_perm O).filter _
def lawQuals : List Str := [Str.ofString "A", Str.ofString "B", Str.ofString "C", Str.ofString "F", Str.ofString "G"]
theorem hits_perm (G : Gh) (O : G.Ok) (qs : List Str) (hq : ∀ x ∈ qs, x ∈ lawQuals) : (G.all.filter (G.hits (Str.ofString "N") qs)).Perm ((marked G).filter (G.askT qs)) := by
  have hF : Str.ofString "FILLER" ∉ qs := fun h => absurd (hq _ h) (by decide +kernel)
  have e : G.hits (Str.ofString "N") qs = fun j => (G.askT qs j) && (G.mark j).isSome := by
    funext j
    unfold Gh.hits Gh.askT Gh.firstT
    rw [leads_isOn, beq_self_eq_true, Bool.true_and, Bool.and_comm]
    congr 1
    split
    · rename (_ == _) = true => h
      have h : G.nm j = Str.ofString "FILLER" := eq_of_beq h
      rw [h]
      exact isOn_skip _ _ hF
    · rfl
  rw [e]
  unfold marked
  rw [List.filter_filter]
  exact (G.all_perm O).filter _
theorem hits_none (G : Gh) (qs : List Str) : G.all.filter (G.hits (Str.ofString "M") qs) = [] := by
  refine List.filter_eq_nil_iff.mpr fun j _ h => ?_
  unfold Gh.hits at h
  rw [show (Str.ofString "N" == Str.ofString "M") = false by decide +kernel] at h
  simp at h
section
variable {prog : Program} {w : World} {A : Around} {E : Value → Shared → Prop} {s : Shared} {Q : Value → Shared → Prop}
theorem off_ne {l₁ l₂ : List Nat} {v₁ v₂ : Value} (p : l₁.Perm l₂) (h1 : OneOff l₁ v₁) (h2 : OneOff l₂ v₂) (h : Q (.bool false) s) : wpAny (model prog w) A (compareOp .NotEq v₁ v₂) Q E s := by
  rcases h1 with ⟨j, t, rfl, rfl⟩ | ⟨n1, rfl⟩ <;> rcases h2 with ⟨k, u, e, rfl⟩ | ⟨n2, rfl⟩
  · subst e
    have : j = k := by simpa using p
    subst this
    refine cmp_ofNotEq (SeqAt.RcNeAt.int_int _ t _ u prog w E Q ?_)
    simpa using h
  · exact absurd p.length_eq.symm n2
  · subst e; exact absurd p.length_eq n1
  · exact cmp_ofNotEq (SeqAt.RcNeAt.none_none prog w E Q h)
def OneTup (G : Gh) (l : List Nat) (h : Heap) (v : Value) : Prop := (∃ j t c t₁ t₂, l = [j] ∧ v = .ref t ∧ h.get? t = some (tupO [.int (j : Int) t₁, .str (Str.ofString "N") t₂, .ref (G.rw j)] c)) ∨ (l.length ≠ 1 ∧ v = .none)
theorem mark_ne {G : Gh} {l₁ l₂ : List Nat} {v₁ v₂ : Value} (hu : A.units < cLine) (p : l₁.Perm l₂) (h1 : OneMark G l₁ s.heap v₁) (h2 : OneMark G l₂ s.heap v₂) (h : Q (.bool false) s) : wpAny (model prog w) A (compareOp .NotEq v₁ v₂) Q E s := by
  rcases h1 with ⟨j, t, c, t₁, t₂, rfl, rfl, e1⟩ | ⟨n1, rfl⟩ <;> rcases h2 with ⟨k, u, c', u₁, u₂, e, rfl, e2⟩ | ⟨n2, rfl⟩
  · subst e
    have : j = k := by simpa using p
    subst this
    have k1 : s.heap.IsTuple t #[.int (j : Int) t₁, .str (Str.ofString "N") t₂, .ref (G.rw j)] := ⟨_, e1, rfl, c, rfl⟩
    have k2 : s.heap.IsTuple u #[.int (j : Int) u₁, .str (Str.ofString "N") u₂, .ref (G.rw j)] := ⟨_, e2, rfl, c', rfl⟩
    refine cmp_ofNotEq (SeqAt.RcNeAt.tuples (e := fun _ => true) k1 k2 hu (fun i h1 h2 => ?_) prog w E Q ?_)
    · match i, h1 with
      | 0, _ => exact (by simpa using SeqAt.EqAt.int_int (A := A.in1) (s := s) (j : Int) t₁ (j : Int) u₁)
      | 1, _ => exact (by simpa using SeqAt.EqAt.str_str (A := A.in1) (s := s) (Str.ofString "N") t₂ (Str.ofString "N") u₂)
      | 2, _ => exact SeqAt.EqAt.same _
    · exact h
  · exact absurd p.length_eq.symm n2
  · subst e; exact absurd p.length_eq n1
  · exact cmp_ofNotEq (SeqAt.RcNeAt.none_none prog w E Q h)
end
theorem askT_t {G : Gh} {qs : List Str} {j : Nat} {b : Bool} (h : (G.nm j == Str.ofString "FILLER") = true) (hb : isOn ([] ++ G.way j) qs = b) : G.askT qs j = b := by
  unfold Gh.askT Gh.firstT; rw [if_pos h]; exact hb
theorem askT_f {G : Gh} {qs : List Str} {j : Nat} {b : Bool} (h : (G.nm j == Str.ofString "FILLER") = false) (hb : isOn ([G.nm j] ++ G.way j) qs = b) : G.askT qs j = b := by
  unfold Gh.askT Gh.firstT; rw [if_neg (by rw [h]; decide)]; exact hb
theorem OneMark.keeps {G : Gh} {l : List Nat} {h h' : Heap} {v : Value} (x : OneMark G l h v) (st : h.StaysIn h') : OneMark G l h' v := by
  rcases x with ⟨j, t, c, t₁, t₂, e, e2, e3⟩ | x
  · exact .inl ⟨j, t, c, t₁, t₂, e, e2, st _ _ e3⟩
  · exact .inr x
theorem oneMark_of {G : Gh} : ∀ {l : List Nat} {h : Heap}, (∀ j ∈ l, ∃ t₁ t₂ c, h.get? (G.mt j) = some (tupO [.int (j : Int) t₁, .str (Str.ofString "N") t₂, .ref (G.rw j)] c)) → OneMark G l h (match l.map (fun j => Value.ref (G.mt j)) with | [v] => v | _ => .none)
  | [], _, _ => .inr ⟨by decide, rfl⟩
  | [j], _, hm => let ⟨t₁, t₂, c, e⟩ := hm j (List.mem_singleton.mpr rfl); .inl ⟨j, _, c, t₁, t₂, rfl, rfl, e⟩
  | _ :: _ :: _, _, _ => .inr ⟨by simp, rfl⟩
theorem oneMark_none {G : Gh} {l : List Nat} {h : Heap} {v : Value} (e : l = []) (x : OneMark G l h v) : v = .none := by
  rcases x with ⟨j, t, c, t₁, t₂, e1, _⟩ | x
  · rw [e] at e1; cases e1
  · exact x.2
open LCg in
theorem off3_fst {I C D : Addr} {l l' : List (Addr × Obj)} (h : Off3 I C D l) (e : l'.map (·.1) = l.map (·.1)) : Off3 I C D l' := Off3.of fun p hp => by
  have : p.1 ∈ l'.map (·.1) := List.mem_map_of_mem hp
  rw [e] at this
  obtain ⟨q, hq, e⟩ := List.mem_map.mp this
  rw [← e]
  exact h.mem q hq
theorem quals_at {w : World} {h : Heap} (X : (hd.heap_39 w.params).In h) : ∃ t₁ t₂ t₃ t₄ t₅, TupAt h 247 [.str (Str.ofString "A") t₁, .str (Str.ofString "B") t₂, .str (Str.ofString "C") t₃, .str (Str.ofString "F") t₄, .str (Str.ofString "G") t₅] ∧ StrsAre [.str (Str.ofString "A") t₁, .str (Str.ofString "B") t₂, .str (Str.ofString "C") t₃, .str (Str.ofString "F") t₄, .str (Str.ofString "G") t₅] lawQuals :=
  ⟨_, _, _, _, _, ⟨⟨_, X 247 _ (by k_is), rfl, _, rfl⟩, by decide⟩, .cons _ _ (.cons _ _ (.cons _ _ (.cons _ _ (.cons _ _ .nil))))⟩
def J2 (w : World) (L tp ce ia wa ma ra d : Addr) (G : Gh) (fl : List (Addr × Obj)) (ci cw cm cr : Nat) (oW oI oT : Obj) (k : Nat) (vals : List (Option Value)) (nx : List (Addr × Obj)) : Prop :=
  ∃ (n : Int) (t : Tok) (c dd : Nat) (vs : List Value) (ns : List Int) (oQ oWho : Obj), (∃ u₁ u₂, vals = [u₁, u₂]) ∧ nx = fixed L tp ce ia wa ma ra G n t c dd ci cw cm cr vs oQ oWho oW oI oT fl ∧
    Inv w L tp ce ia wa ma ra d G fl n vs ns oQ oWho oW oI oT
abbrev askNames : List Str := [Str.ofString "due", Str.ofString "around"]
noncomputable abbrev askVars (u : Option Value) (us : List (Option Value)) (ma ra d : Addr) (m₀ : Str → Option Value) : Str → Option Value := fun y => if y = Str.ofString "k" then u else put loopNames us (lawVars ma ra d m₀) y
def LawAsk (w : World) (j : Nat) (P : List Stmt → Scope → Str → Prop) : Prop :=
  ∀ (name qual : Str) (params : Arguments) (body : List Stmt) (scope : Scope) (dV kV doc pm cdv ct oc : Value) (an od : Option Addr) (osl : Array (Option Value)) (tg it : PySem.Expr) (fb oe : List Stmt) (ps : Pos),
    (hd.heap_39 w.params).lookup 280 = some ⟨oc, od, .func (fnOf name qual params body scope dV kV doc pm an cdv ct), osl⟩ → body[6]? = some (.For tg it fb oe ps) → P (fb.drop j) scope qual
theorem stopAsk {w : World} {j : Nat} : LawAsk w j fun stmts _ _ => StopAt stmts := fun _ _ _ _ _ _ _ _ _ _ _ _ _ _ _ _ _ _ _ _ _ _ => ⟨fun h => h⟩
theorem item_led {w : World} {G : Gh} {fl nx : List (Addr × Obj)} (li : LI w (inLed fl) G) {p : Nat} (hp : p < G.n) {h₀ h : Heap} {L : Addr} (N : News h₀ L h nx) (sub : ∀ q ∈ fl, q ∈ nx) :
    ItemAt (inHeap h) (G.ad p) (G.dx p) (G.es p) (G.nm p) ((G.pa p).map G.ad) (G.cl p) (G.kl p) p :=
  (li.forest.item p hp).mono fun a o e => (N (a, o) (sub _ e)).1
end
local macro_rules | `(tactic| walk_at "eval ListComp") => `(tactic| (refine halt ?_))
local macro_rules | `(tactic| walk_at "exec Assign cons ListComp") => `(tactic| (refine halt ?_))
local macro_rules | `(tactic| walk_at "getAttr ref") => `(tactic| (k_here; (with_reducible show wpAny _ _ (getAttr (Value.ref (Gh.ad _ _)) (PySem.Str.ofString "name") _) _ _ _); refine item_name (by k_in) (item_led (by assumption) (by assumption) (by k_asm) (by intro q hq; walk_at "my in")) ?_; intro _))
local macro_rules | `(tactic| walk_at "call ref") => `(tactic| ((with_reducible refine at254 ?_); k_dflt (refine' Rd.use (ison_ok _ _ _ _ _ _ ?hx ?hq ?hl) (by k_asm) (by k_asm) (by k_asm) (by k_asm) (by k_asm) (by exact rfl) (by walk_at "my rm") (by walk_at "my rm") ⟨⟨_, News.get (by k_asm) (by walk_at "my in0")⟩, TupAt.of_news (by k_asm) (by k_mem) (by assumption)⟩ ?_; (case hx => walk_at "my strs"); (case hq => assumption); (case hl => walk_at "my small"); k_whole); intro v' h' tk' F' N' st' hv'; subst hv'))
local macro_rules | `(tactic| walk_at "my small") => `(tactic| first | omega | (simp only [List.length_append, List.length_cons, List.length_nil]; omega))
local macro_rules | `(tactic| walk_at "my in0") => `(tactic| first | exact List.Mem.head _ | (refine List.mem_append_left _ ?_; assumption) | (refine List.mem_cons_of_mem _ ?_; walk_at "my in0"))
local macro_rules | `(tactic| walk_at "call builtin:len") => `(tactic| ((with_reducible refine at_len ?_); (refine len_lstAt (LstAt.of_news (by k_asm) (by k_mem) (by assumption)) ?_); intro _ _))
local macro_rules | `(tactic| walk_at "call ref") => `(tactic| (with_reducible (first | refine h261 ?_ | refine h268 ?_ | refine h275 ?_)))
local macro_rules | `(tactic| walk_at "subscriptTail Name Subscript ref int") => `(tactic| (k_here; (with_reducible show wpAny _ _ (subscriptTail _ _ (Value.ref _) (Value.int (Nat.cast _) _)) _ _ _); (with_unfolding_all refine' item_rng ?hp ?x ?_ ?s; (case x => walk_at "my lst"); (case hp => assumption); (case s => with_unfolding_all rfl)); (try k_whole)))
local macro_rules | `(tactic| walk_at "subscriptTail Name Constant ref int") => `(tactic| (k_here; (with_reducible show wpAny _ _ (subscriptTail _ _ (Value.ref (Gh.mt _ _)) (Value.int _ _)) _ _ _); (with_unfolding_all refine' item_tupAt ?k1 ?k2 ?k3 ?_ ?k5; (case k1 => exact TupAt.of_news (by k_asm) (by walk_at "my in0") (Nat.le_of_ble_eq_true rfl)); (case k2 => decide); (case k3 => rfl); (case k5 => with_unfolding_all rfl))))
local macro_rules | `(tactic| walk_at "binaryOp Add ref ref") => `(tactic| (k_here; (with_reducible show wpAny _ _ (binaryOp _ (Value.ref _) (Value.ref (Gh.wy _ _))) _ _ _); k_dflt (refine' add_any ?F ?N ?a ?b ?_; (case F => k_asm); (case N => k_asm); (case a => walk_at "my lst"); (case b => exact LstAt.of_news (by k_asm) (by walk_at "my in0") (by omega)); k_whole); intro D' h' F' N' l1))
local macro_rules | `(tactic| walk_at "my strs") => `(tactic| first | assumption | exact StrsAre.append' .nil (by assumption) | exact StrsAre.append' (.cons _ _ .nil) (by assumption))
section
open PySem PySem.W PySem.Calls PySem.Spec PyProof.Rows
set_option maxRecDepth 100000
set_option linter.unusedVariables false
set_option maxHeartbeats 4000000 in
theorem ask_marks {w : World} {mean : ExcName → Option Value} {mg mb : Str → Option Value} {dp un : Nat} {gd : Option (List Code)} {fa : Addr} {cv : Value} {A₀ : Around} {base h₀ h : Heap} {L : Addr} {m₀ : Str → Option Value} {s : Shared} {tk : Nat} {Q : Flow → Shared → Prop}
    {tp ce ia wa ma ra d q : Addr} {G : Gh} {fl own : List (Addr × Obj)} {n : Int} {t : Tok} {c dd ci cw cm cr cq i : Nat} {vs ws : List Value} {ns : List Int} {oQ oWho oW oI oT : Obj} {u : Option Value} {u₁ u₂ u₃ u₄ u₅ u₆ v₁ v₂ : Option Value} {t' tw : Tok} {who : Str} {qs : List Str}
    (B : Below A₀ base [] h₀) (F : Fr h₀ L h (fun y => if y = Str.ofString "turn" then some (.int (0 + (i : Int)) t') else put askNames [v₁, v₂] (askVars u [u₁, u₂, u₃, u₄, u₅, u₆] ma ra d m₀) y)) (X : (hd.heap_39 w.params).In h₀) (T : Top PV LS mean mg mb h₀) (hdp : dp ≤ 400) (hun : un ≤ 4000)
    (N : News h₀ L h ((q, tupO ws cq) :: fixed L tp ce ia wa ma ra G n t c dd ci cw cm cr vs oQ oWho oW oI oT (fl ++ own))) (I : Inv w L tp ce ia wa ma ra d G fl n vs ns oQ oWho oW oI oT)
    (hoff : OffL own (fixed L tp ce ia wa ma ra G n t c dd ci cw cm cr vs oQ oWho oW oI oT fl)) (hWho : oWho.data = .cell (some (.str who tw))) (hQ : oQ.data = .cell (some (.ref q))) (hw : who.length ≤ 10) (hws : StrsAre ws qs) (hql : ws.length ≤ 10) (hqs : ∀ x ∈ qs, x ∈ lawQuals)
    : LawAsk w 4 fun stmts scope qual => wpAny (model PG w) (ktrTop dp un gd qual scope L fa cv (cellsFrom (L + 1) scope.names []) []) (execs stmts (envOfC qual scope L fa cv))
      (PostV h₀ L (Str.ofString "turn") askNames (askVars u [u₁, u₂, u₃, u₄, u₅, u₆] ma ra d m₀) (J2 w L tp ce ia wa ma ra d G fl ci cw cm cr oW oI oT (i + 1)) own s Q) (fun _ _ => False) { s with heap := h, toks := tk } := by
  w_top off
  intro name qual params body scope dV kV doc pm cdv ct oc an od osl tg it fb oe ps ho hb
  have key := ho.symm.trans (show (hd.heap_39 w.params).lookup 280 = some ⟨_, _, .func (fnOf _ _ _ _ _ _ _ _ _ _ _ _), _⟩ from by k_is)
  cases key
  cases hb
  dsimp only [List.drop]
  obtain ⟨i1, i2, i3, i4, i5, i6, ⟨uq, i7⟩, ⟨uw, i8⟩, i9, i10, i11, f1, f2, f3, f4, f5, f6, f7, f8, f9, f10, f11, nd, o1, o2, o3, o4, o5, o6⟩ := I
  dsimp only [fixed] at N
  clear i7 i8
  have hn := i2.ok.few
  have hls : (List.map (fun j => Value.ref (G.ad j)) (List.range G.n)).length ≤ 100000 := by rw [List.length_map, List.length_range]; omega
  have hls2 : (List.map (fun j => Value.ref (G.wy j)) (List.range G.n)).length ≤ 100000 := by rw [List.length_map, List.length_range]; omega
  have hls3 : (List.map G.ref (List.range G.n)).length ≤ 100000 := by rw [List.length_map, List.length_range]; omega
  have hws3 : ws.length ≤ 100000 := by omega
  have hws3 : ws.length ≤ 100000 := by omega
  refine hold_post fun Q1 hQ1 => ?_
  k_steps
  rename Fr _ _ _ _ => F
  rename News _ _ _ _ => N
  refine go ?_
  refine' LCt.Assign_ListComp_T (F₀ := F) ?c1 ?c2 ?c3 ?c4 ?c5 ?c6 ?c7 ?c8 ?c9 ?c10
  case c1 => exact rfl
  case c2 => with_unfolding_all rfl
  case c3 => with_unfolding_all rfl
  case c4 => decide
  case c5 => rfl
  case c6 => decide
  case c7 => rfl
  case c8 => rfl
  case c9 => rfl
  have hmn : (marked G).length ≤ 9 := by
    have h1 : (marked G).length ≤ (List.range G.n).length := List.length_filter_le _ _
    rw [List.length_range] at h1
    omega
  k_steps
  rename Fr _ _ _ _ => F
  rename News _ _ _ _ => N
  refine go (LCt.CompSrcT.ledger (by rfl) F N (its := ((marked G).map fun i => Value.ref (G.mt i)).toArray) (k := cm) (by k_mem) (by rw [sizeLine_eq, List.size_toArray, List.length_map]; omega) fun g' => ?_)
  refine restT_inv (fun k ys nx => nx = (q, tupO ws cq) :: fixed L tp ce ia wa ma ra G n t c dd ci cw cm cr vs oQ oWho oW oI oT (fl ++ own) ∧ ys = (((marked G).take k).filter (G.askT qs)).map fun j => Value.ref (G.mt j)) ⟨rfl, rfl⟩ ?_ ?_
  · clear N F
    rintro k ys nx v I oIt C oC D m₂ h tk E' hk ⟨rfl, hys⟩ hv hC hx F₁ N₁ off ne
    rw [List.size_toArray, List.length_map] at hk
    simp only [List.getElem?_toArray, List.getElem?_map, List.getElem?_eq_getElem hk, Option.map_some, Option.some.injEq] at hv
    have hs : (((marked G).take (k + 1)).filter (G.askT qs)).map (fun j => Value.ref (G.mt j)) = (((marked G).take k).filter (G.askT qs)).map (fun j => Value.ref (G.mt j)) ++ (if G.askT qs (marked G)[k] = true then [Value.ref (G.mt (marked G)[k])] else []) := by
      rw [List.take_add_one, List.getElem?_eq_getElem hk, List.filter_append, List.map_append]
      congr 1
      simp only [Option.toList_some, List.filter_cons, List.filter_nil]
      split <;> rfl
    have hjm : (marked G)[k] ∈ marked G := List.getElem_mem hk
    rw [← hys] at hs
    generalize (marked G)[k] = j at hv hs hjm
    subst hv
    obtain ⟨hjr, hjs⟩ := List.mem_filter.mp hjm
    have hjn : j < G.n := List.mem_range.mp hjr
    obtain ⟨am, hjs⟩ := Option.isSome_iff_exists.mp hjs
    obtain ⟨t₁, t₂, cμ, hμm⟩ := i2.marks j hjn am hjs
    have hμm : (G.mt j, tupO [.int (j : Int) t₁, .str (Str.ofString "N") t₂, .ref (G.rw j)] cμ) ∈ fl := hμm
    obtain ⟨usp, cω, hωm, hus⟩ := i2.ways j hjn
    have hωm : (G.wy j, lstO usp cω) ∈ fl := hωm
    have husl := way_len i2.ok hjn hus
    dsimp only [fixed] at N₁
    k_steps
    all_goals (
      rename (_ == Str.ofString "FILLER") = _ => hF
      rename isOn _ _ = _ => hb
      rename Fr _ _ _ _ => F
      rename News _ _ _ _ => N
      first | (have hask := askT_t hF hb) | (have hask := askT_f hF hb)
      refine go (LCg.CompEnd.intro F N ((q, tupO ws cq) :: fixed L tp ce ia wa ma ra G n t c dd ci cw cm cr vs oQ oWho oW oI oT (fl ++ own)) (fun p hp => by repeat (first | exact hp | apply List.mem_cons_of_mem)) off (Or.inr ⟨lstO ((marked G).map fun i => Value.ref (G.mt i)) cm, by walk_at "my in2", rfl, _, rfl⟩) ⟨rfl, ?_⟩)
      rw [hs]
      first
        | (rw [if_pos hask])
        | (rw [if_neg (by rw [hask]; decide), List.append_nil]))
  · rintro ys nx ⟨rfl, hys⟩
    clear N F
    rw [List.size_toArray, List.length_map, List.take_length] at hys
    have hle : ys.length ≤ 100000 := by
      rw [hys, List.length_map]
      have := List.length_filter_le (G.askT qs) (marked G)
      omega
    dsimp only [fixed]
    k_steps
    rename Fr _ _ _ _ => F
    rename News _ _ _ _ => N
    subst i1
    refine go ?_
    refine' Lw.use (lnamed_ok G i2.ok _ _ _ _ _ ?hx hws) ?k1 ?k2 ?k3 ?k4 ?k5 ?k6 ?k7 ?k8 ⟨?hp, ?ht⟩ ?_
    case k1 => exact B
    case k2 => exact F
    case k3 => exact X
    case k4 => exact N
    case k5 => exact T
    case k6 => exact rfl
    case hp => exact Forest.ofLed i2.forest fun p hp => N p (by walk_at "my in")
    case ht => exact TupAt.of_news N (vs := ws) (by k_mem) hws3
    case hx => decide +kernel
    case k7 => exact room1 hdp (by decide)
    case k8 => exact room1 hun (by decide)
    intro v' h₂ tk₂ F₂ N₂ hoo
    clear F N
    k_steps
    rename Fr _ _ _ _ => F
    rename News _ _ _ _ => N
    refine go (Rd.use (one_ok _ ys) B F X N T rfl (room1 hdp (by decide)) (room1 hun (by decide)) (LstAt.of_news N (vs := ys) (by k_mem) hle) fun v h' tk' F' N' st hv => ?_)
    have hoo := hoo.keeps st
    have hdue : OneMark G ((marked G).filter (G.askT qs)) h' v := by
      rw [hv, hys]
      exact oneMark_of fun j hj => by
        obtain ⟨hjr, hjs⟩ := List.mem_filter.mp (List.mem_filter.mp hj).1
        obtain ⟨am, hjs⟩ := Option.isSome_iff_exists.mp hjs
        obtain ⟨t₁, t₂, cμ, hμm⟩ := i2.marks j (List.mem_range.mp hjr) am hjs
        have hμm : (G.mt j, tupO [.int (j : Int) t₁, .str (Str.ofString "N") t₂, .ref (G.rw j)] cμ) ∈ fl := hμm
        exact ⟨t₁, t₂, cμ, (N' (G.mt j, tupO [.int (j : Int) t₁, .str (Str.ofString "N") t₂, .ref (G.rw j)] cμ) (by walk_at "my in")).1⟩
    clear hv F N
    k_steps
    refine mark_ne (by show un < cLine; rw [cLine_is]; omega) (hits_perm G i2.ok qs hqs) hoo hdue ?_
    k_steps
    rename Fr _ _ _ _ => F
    rename News _ _ _ _ => N
    refine go ?_
    refine' Lw.use (lnamed_ok G i2.ok _ _ _ _ _ ?gx hws) ?j1 ?j2 ?j3 ?j4 ?j5 ?j6 ?j7 ?j8 ⟨?gp, ?gt⟩ ?_
    case j1 => exact B
    case j2 => exact F
    case j3 => exact X
    case j4 => exact N
    case j5 => exact T
    case j6 => exact rfl
    case gp => exact Forest.ofLed i2.forest fun p hp => N p (by walk_at "my in")
    case gt => exact TupAt.of_news N (vs := ws) (by k_mem) hws3
    case gx => decide +kernel
    case j7 => exact room1 hdp (by decide)
    case j8 => exact room1 hun (by decide)
    intro v'' h₃ tk₃ F₃ N₃ hom
    have hom := oneMark_none (hits_none G qs) hom
    subst hom
    clear F N
    k_steps
    rename Fr _ _ _ _ => F
    rename News _ _ _ _ => N
    refine hQ1 _ _ ?_
    refine' EndV.intro (fixed L tp ce ia wa ma ra G n t c dd ci cw cm cr vs oQ oWho oW oI oT fl) F N ?h1 ?h2 hoff ⟨n, t, c, dd, vs, ns, oQ, oWho, ⟨_, _, rfl⟩, rfl, ⟨rfl, i2, i3, i4, i5, i6, ⟨_, hQ⟩, ⟨_, hWho⟩, i9, i10, i11, f1, f2, f3, f4, f5, f6, f7, f8, f9, f10, f11, nd, o1, o2, o3, o4, o5, o6⟩⟩ ?hs
    case h1 => walk_at "my sub"
    case h2 => (intro p hp; walk_at "my inr")
    case hs => (intro z hz; simp only [NotIn] at hz; simp [hz, put])
end
section
open PySem PySem.W PySem.Calls PySem.Spec PyProof.Rows
set_option maxRecDepth 100000
set_option linter.unusedVariables false
local macro_rules | `(tactic| walk_at "execs cons") => `(tactic| (k_here; (rename StopAt _ => hst); refine hst.stop ?_))
set_option maxHeartbeats 4000000 in
theorem ask_due {w : World} {mean : ExcName → Option Value} {mg mb : Str → Option Value} {dp un : Nat} {gd : Option (List Code)} {fa : Addr} {cv : Value} {A₀ : Around} {base h₀ h : Heap} {L : Addr} {m₀ : Str → Option Value} {s : Shared} {tk : Nat} {Q : Flow → Shared → Prop}
    {tp ce ia wa ma ra d q : Addr} {G : Gh} {fl own : List (Addr × Obj)} {n : Int} {t : Tok} {c dd ci cw cm cr cq i : Nat} {vs ws : List Value} {ns : List Int} {oQ oWho oW oI oT : Obj} {u : Option Value} {u₁ u₂ u₃ u₄ u₅ u₆ v₁ v₂ : Option Value} {t' tw : Tok} {who : Str} {qs : List Str}
    (B : Below A₀ base [] h₀) (F : Fr h₀ L h (fun y => if y = Str.ofString "turn" then some (.int (0 + (i : Int)) t') else put askNames [v₁, v₂] (askVars u [u₁, u₂, u₃, u₄, u₅, u₆] ma ra d m₀) y)) (X : (hd.heap_39 w.params).In h₀) (T : Top PV LS mean mg mb h₀) (hdp : dp ≤ 400) (hun : un ≤ 4000)
    (N : News h₀ L h ((q, tupO ws cq) :: fixed L tp ce ia wa ma ra G n t c dd ci cw cm cr vs oQ oWho oW oI oT (fl ++ own))) (I : Inv w L tp ce ia wa ma ra d G fl n vs ns oQ oWho oW oI oT)
    (hoff : OffL own (fixed L tp ce ia wa ma ra G n t c dd ci cw cm cr vs oQ oWho oW oI oT fl)) (hWho : oWho.data = .cell (some (.str who tw))) (hQ : oQ.data = .cell (some (.ref q))) (hw : who.length ≤ 10) (hws : StrsAre ws qs) (hql : ws.length ≤ 10) (hqs : ∀ x ∈ qs, x ∈ lawQuals)
    : LawAsk w 2 fun stmts scope qual => wpAny (model PG w) (ktrTop dp un gd qual scope L fa cv (cellsFrom (L + 1) scope.names []) []) (execs stmts (envOfC qual scope L fa cv))
      (PostV h₀ L (Str.ofString "turn") askNames (askVars u [u₁, u₂, u₃, u₄, u₅, u₆] ma ra d m₀) (J2 w L tp ce ia wa ma ra d G fl ci cw cm cr oW oI oT (i + 1)) own s Q) (fun _ _ => False) { s with heap := h, toks := tk } := by
  w_top off
  intro name qual params body scope dV kV doc pm cdv ct oc an od osl tg it fb oe ps ho hb
  have key := ho.symm.trans (show (hd.heap_39 w.params).lookup 280 = some ⟨_, _, .func (fnOf _ _ _ _ _ _ _ _ _ _ _ _), _⟩ from by k_is)
  cases key
  cases hb
  have hst := stopAsk (w := w) (j := 4) _ _ _ _ _ _ _ _ _ _ _ _ _ _ _ _ _ _ _ _ ho rfl
  dsimp only [List.drop] at hst ⊢
  obtain ⟨i1, i2, i3, i4, i5, i6, ⟨uq, i7⟩, ⟨uw, i8⟩, i9, i10, i11, f1, f2, f3, f4, f5, f6, f7, f8, f9, f10, f11, nd, o1, o2, o3, o4, o5, o6⟩ := I
  dsimp only [fixed] at N
  clear i7 i8
  have hn := i2.ok.few
  have hls : (List.map (fun j => Value.ref (G.ad j)) (List.range G.n)).length ≤ 100000 := by rw [List.length_map, List.length_range]; omega
  have hls2 : (List.map (fun j => Value.ref (G.wy j)) (List.range G.n)).length ≤ 100000 := by rw [List.length_map, List.length_range]; omega
  have hls3 : (List.map G.ref (List.range G.n)).length ≤ 100000 := by rw [List.length_map, List.length_range]; omega
  have hws3 : ws.length ≤ 100000 := by omega
  refine hold_post fun Q1 hQ1 => ?_
  k_steps
  rename Fr _ _ _ _ => F
  rename News _ _ _ _ => N
  refine go ?_
  refine' LCt.ListComp_T (F₀ := F) ?c1 ?c2 ?c3 ?c4 ?c5 ?c6
  case c1 => with_unfolding_all rfl
  case c2 => decide
  case c3 => rfl
  case c4 => decide
  case c5 => rfl
  k_steps
  rename Fr _ _ _ _ => F
  rename News _ _ _ _ => N
  rename IsRange _ _ _ _ _ _ _ _ => hrg
  refine go (LCt.CompSrcT.range (by rfl) F N hrg (small_one (by omega) (by omega) (by omega) (by omega)) (rangeSize_nat _ _) (by rw [sizeLine_eq, List.length_map, List.length_range]; omega) fun g' => ?_)
  refine restT_inv (fun k ys nx => nx = (q, tupO ws cq) :: fixed L tp ce ia wa ma ra G n t c dd ci cw cm cr vs oQ oWho oW oI oT (fl ++ own) ∧ IntsAre ys (((List.range k).filter (G.dueT who qs)).map Int.ofNat)) ⟨rfl, .nil⟩ ?_ ?_
  · clear N F hrg
    rintro k ys nx v I oI C oC D m₂ h tk E' hk ⟨rfl, hys⟩ ⟨t, rfl⟩ hC hx F₁ N₁ off ne
    rw [List.length_map, List.length_range] at hk
    have hk : k < G.n := by omega
    rw [Int.zero_add] at hx
    dsimp only [fixed] at N₁
    obtain ⟨usp, cω, hωm, hus⟩ := i2.ways k hk
    have hωm : (G.wy k, lstO usp cω) ∈ fl := hωm
    have husl := way_len i2.ok hk hus
    k_steps
    all_goals (
      first | (rename isOn _ _ = true => hb1) | (rename isOn _ _ = false => hb1) | skip
      rename (_ == _) = _ => hb0
      rename Fr _ _ _ _ => F
      rename News _ _ _ _ => N
      refine go (LCg.CompEnd.intro F N _ (fun p hp => hp) off trivial ⟨rfl, ?_⟩)
      rw [range_filter_succ]
      first
        | (rw [if_pos (by simp only [Gh.dueT, hb0, hb1]; rfl), List.map_append]; exact hys.append (.cons _ _ .nil))
        | (rw [if_neg (by simp only [Gh.dueT, hb0, hb1]; decide), List.append_nil]; exact hys)
        | (rw [if_neg (by simp only [Gh.dueT, hb0, Bool.false_and]; decide), List.append_nil]; exact hys))
  · rintro ys nx ⟨rfl, hys⟩
    clear N F
    have hle : ys.length ≤ 100000 := by
      have h1 := hys.length
      rw [List.length_map, List.length_map, List.length_range] at h1
      have h2 := List.length_filter_le (G.dueT who qs) (List.range ((G.n : Int) - 0).toNat)
      rw [List.length_range] at h2
      omega
    have hN : ((G.n : Int) - 0).toNat = G.n := by omega
    rw [List.length_map, List.length_range, hN] at hys
    dsimp only [fixed]
    k_steps
    rename Fr _ _ _ _ => F
    rename News _ _ _ _ => N
    refine go (Rd.use (one_ok _ ys) B F X N T rfl (room1 hdp (by decide)) (room1 hun (by decide)) (LstAt.of_news N (List.Mem.head _) hle) fun v h' tk' F' N' st hv => ?_)
    have hdue : OneOff ((List.range G.n).filter (G.dueT who qs)) v := by
      rw [hv]
      exact oneOff_of hys
    clear hv F N hys
    k_steps
    rename Fr _ _ _ _ => F
    rename News _ _ _ _ => N
    subst i1
    refine go ?_
    refine' Lw.use (item_ok G i2.ok _ _ _ _ _ ?hx hws) ?k1 ?k2 ?k3 ?k4 ?k5 ?k6 ?k7 ?k8 ⟨?hp, ?ht⟩ ?_
    case k1 => exact B
    case k2 => exact F
    case k3 => exact X
    case k4 => exact N
    case k5 => exact T
    case k6 => exact rfl
    case hp => exact Forest.ofLed i2.forest fun p hp => N p (by walk_at "my in")
    case ht => exact TupAt.of_news N (vs := ws) (by k_mem) hws3
    case hx => omega
    case k7 => exact room1 hdp (by decide)
    case k8 => exact room1 hun (by decide)
    intro v' h₂ tk₂ F₂ N₂ hoo
    clear F N
    k_steps
    refine off_ne (means_perm G i2.ok who qs) hoo hdue ?_
    k_steps
    rename Fr _ _ _ _ => F
    rename News _ _ _ _ => N
    have F2 := fr_norm F (x := Str.ofString "turn") (st := askNames) (mL := askVars u [u₁, u₂, u₃, u₄, u₅, u₆] ma ra G.d m₀) (by intro z hz; simp only [NotIn] at hz; simp [hz, put])
    refine go (wpAny_mono ?_ hQ1 (fun _ _ q => q))
    exact ask_marks B F2 X T hdp hun (fun p hp => N p (List.Mem.tail _ hp)) ⟨rfl, i2, i3, i4, i5, i6, ⟨_, hQ⟩, ⟨_, hWho⟩, i9, i10, i11, f1, f2, f3, f4, f5, f6, f7, f8, f9, f10, f11, nd, o1, o2, o3, o4, o5, o6⟩ hoff hWho hQ hw hws hql hqs _ _ _ _ _ _ _ _ _ _ _ _ _ _ _ _ _ _ _ _ ho rfl
end
section
open PySem PySem.W PySem.Calls PySem.Spec PyProof.Rows
set_option maxRecDepth 100000
set_option linter.unusedVariables false
local macro_rules | `(tactic| walk_at "eval ListComp") => `(tactic| (refine halt ?_))
local macro_rules | `(tactic| walk_at "execs cons") => `(tactic| (k_here; (rename StopAt _ => hst); refine hst.stop ?_))
theorem abcd_len {k : Nat} {y : Str} (h : [Str.ofString "A", Str.ofString "B", Str.ofString "C", Str.ofString "D"][k]? = some y) : y.length ≤ 10 := by
  have h1 := List.mem_of_getElem? h
  have h2 : ∀ z ∈ [Str.ofString "A", Str.ofString "B", Str.ofString "C", Str.ofString "D"], z.length ≤ 10 := by decide +kernel
  exact h2 y h1
set_option maxHeartbeats 4000000 in
theorem loop2 {w : World} {mean : ExcName → Option Value} {mg mb : Str → Option Value} {dp un : Nat} {gd : Option (List Code)} {fa : Addr} {cv : Value} {A₀ : Around} {base h₀ h : Heap} {L : Addr} {m₀ : Str → Option Value} {s : Shared} {tk : Nat} {Q : Flow → Shared → Prop}
    {tp ce ia wa ma ra d : Addr} {G : Gh} {fl : List (Addr × Obj)} {n : Int} {t : Tok} {c dd ci cw cm cr : Nat} {vs : List Value} {ns : List Int} {oQ oWho oW oI oT : Obj} {u u₁ u₂ u₃ u₄ u₅ u₆ : Option Value}
    (B : Below A₀ base [] h₀) (F : Fr h₀ L h (fun y => if y = Str.ofString "k" then u else put loopNames [u₁, u₂, u₃, u₄, u₅, u₆] (lawVars ma ra d m₀) y)) (X : (hd.heap_39 w.params).In h₀) (T : Top PV LS mean mg mb h₀) (hdp : dp ≤ 400) (hun : un ≤ 4000)
    (N : News h₀ L h (fixed L tp ce ia wa ma ra G n t c dd ci cw cm cr vs oQ oWho oW oI oT fl)) (I : Inv w L tp ce ia wa ma ra d G fl n vs ns oQ oWho oW oI oT) (hQ : ∀ h' tk' m', Fr h₀ L h' m' → Q (.ret (.bool true)) { s with heap := h', toks := tk' })
    : LawRest w 6 fun stmts scope qual => wpAny (model PG w) (ktrTop dp un gd qual scope L fa cv (cellsFrom (L + 1) scope.names []) []) (execs stmts (envOfC qual scope L fa cv)) Q (fun _ _ => False) { s with heap := h, toks := tk } := by
  w_top off
  intro name qual params body scope dV kV doc pm cdv ct oc an od osl ho
  have key := ho.symm.trans (show (hd.heap_39 w.params).lookup 280 = some ⟨_, _, .func (fnOf _ _ _ _ _ _ _ _ _ _ _ _), _⟩ from by k_is)
  cases key
  have hst := stopAsk (w := w) (j := 2) _ _ _ _ _ _ _ _ _ _ _ _ _ _ _ _ _ _ _ _ ho rfl
  dsimp only [List.drop] at hst ⊢
  k_steps
  rename Fr _ _ _ _ => F
  refine go ?_
  (with_unfolding_all refine' For_invVF F ?k1 ?k2 ?_; (case k1 => exact rfl); (case k2 => exact rfl))
  k_steps
  rename Fr _ _ _ _ => F1
  rename News _ _ _ _ => N1
  rename IsRange _ _ _ _ _ _ _ _ => hrg
  refine go ?_
  refine iterR askNames (J2 w L tp ce ia wa ma ra d G fl ci cw cm cr oW oI oT) (by rfl) hrg (small_one (by omega) (by omega) (by omega) (by omega)) (rangeSize_nat _ _) F1 N1
    ⟨_, _, _, _, _, _, oQ, oWho, ⟨_, _, rfl⟩, rfl, I⟩ ?_ ?_
  · clear F1 N1 I hrg
    try clear F
    try clear N
    rintro i t' vals nx h tk own hi hoff ⟨n, t, c, dd, vs, ns, oQ, oWho, ⟨v₁, v₂, rfl⟩, rfl, I⟩ F₁ N₁
    simp only [List.cons_append] at N₁
    obtain ⟨i1, i2, i3, i4, i5, i6, ⟨uq, i7⟩, ⟨uw, i8⟩, i9, i10, i11, f1, f2, f3, f4, f5, f6, f7, f8, f9, f10, f11, nd, o1, o2, o3, o4, o5, o6⟩ := I
    obtain ⟨_, _, _, _, _, _, _, _, _, _, _, _, _, _, _, _, _, _, _, _, _, _, _, _, _, _, _, _, _, _, _, _, _, _, _, _, _, _, _, _, _, _, _, _, _, _, _, _, _, _, _, _, _, _, _⟩ := sep_of o1 o2 o3 o4 o5 o6
    obtain ⟨a₁, a₂, a₃, a₄, a₅, hTq, hSq⟩ := quals_at X
    refine hold_post fun Q1 hQ1 => ?_
    k_steps
    rename Fr _ _ _ _ => F
    rename News _ _ _ _ => N
    refine item_tupS (TupAt.of_news N (.head _) (Nat.le_of_ble_eq_true rfl)) (.cons _ _ (.cons _ _ (.cons _ _ (.cons _ _ .nil)))) (by assumption) (by simp only [List.length_cons, List.length_nil]; omega) fun who ty hwho => ?_
    k_steps
    rename Fr _ _ _ _ => F
    rename News _ _ _ _ => N
    refine go ?_
    refine' LCg.ListComp_U (F₀ := F) ?c1 ?c2 ?c3 ?c4 ?c5 ?c6
    case c1 => with_unfolding_all rfl
    case c2 => decide
    case c3 => rfl
    case c4 => decide
    case c5 => rfl
    k_steps
    rename Fr _ _ _ _ => F
    rename News _ _ _ _ => N
    rename IntsAre _ _ => hi1
    rename IsRange _ _ _ _ _ _ _ _ => hrg
    rename Obj => oWho'
    rename _ = Data.cell (some (Value.str _ _)) => dWho
    refine go (LCg.CompSrc.range (by rfl) F (show News h₀ L _ _ from fun p hp => N p (List.Mem.tail _ hp)) hrg (small_one (by omega) (by omega) (by omega) (by omega)) (rangeSize_nat _ _) (by rw [sizeLine_eq]; omega) fun g' => ?_)
    refine rest_inv (fun i ys nx => ∃ (n : Int) (t : Tok) (c dd : Nat) (vs : List Value) (ns : List Int) (qs : List Str), nx = fixed L tp ce ia wa ma ra G n t c dd ci cw cm cr vs oQ oWho' oW oI oT (fl ++ own) ∧ IntsAre vs ns ∧ 0 < ns.length ∧ ns.length ≤ 60 ∧ 0 ≤ n ∧ StrsAre ys qs ∧ (∀ q ∈ qs, q ∈ lawQuals) ∧ ys.length = i)
      ⟨_, _, _, _, _, _, [], rfl, hi1, by assumption, by assumption, by assumption, .nil, (fun _ h => nomatch h), rfl⟩ ?_ ?_
    · clear N F hi1 hrg hTq hSq a₁ a₂ a₃ a₄ a₅
      rintro j ys nx v I oI C oC D m₂ h tk E' hj ⟨n, t, c, dd, vs, ns, qs, rfl, hi1, b1, b2, b3, hys, hqs, hyl⟩ hv hC hx F₁ N₁ off ne
      obtain ⟨a₁, a₂, a₃, a₄, a₅, hTq, hSq⟩ := quals_at X
      obtain ⟨x1, x2, x3⟩ := off.mem (tp, lstO [.ref ce, .int n t] c) (by k_mem)
      obtain ⟨y1, y2, y3⟩ := off.mem (ce, lstO vs dd) (by k_mem)
      replace x1 : Apart tp I := x1
      replace x2 : Apart tp C := x2
      replace x3 : Apart tp D := x3
      replace y1 : Apart ce I := y1
      replace y2 : Apart ce C := y2
      replace y3 : Apart ce D := y3
      refine hold_post fun Q3 hQ3 => ?_
      k_steps
      all_goals (
        rename Fr _ _ _ _ => F
        rename News _ _ _ _ => N
        rename IntsAre _ _ => hi1
        refine hQ3 _ _ (LCg.CompEnd.intro F N _ (fun p hp => hp) (off3_fst off rfl) trivial ⟨_, _, _, _, _, _, _, rfl, hi1, by assumption, by assumption, by assumption, hys.append' (.cons _ _ .nil), ?_, by rw [List.length_append, hyl]; rfl⟩)
        intro z hz
        rcases List.mem_append.mp hz with hz | hz
        · exact hqs z hz
        · (rename _[_]? = some _ => hy); rw [List.mem_singleton.mp hz]; exact List.mem_of_getElem? hy)
    · rintro ys nx ⟨n, t, c, dd, vs, ns, qs, rfl, hi1, b1, b2, b3, hys, hqs, hyl⟩
      clear N F
      have hyl' : ys.length ≤ 10 := by omega
      have hyl'' : ys.toArray.size ≤ sizeLine := by rw [List.size_toArray, sizeLine_eq]; omega
      k_steps
      rename _ ∧ _ => hcj
      obtain ⟨-, -, d5, d4, -⟩ := hcj
      replace d5 : Apart _ _ := d5
      replace d4 : Apart _ _ := d4
      rename Fr _ _ _ _ => F
      rename News _ _ _ _ => N
      refine head_named N fun q hq => ?_
      subst hq
      dsimp only [fixed] at N
      have hqL : Apart q (L + 1 + 1 + 1 + 1 + 1) := by
        intro e
        have g1 := (N (q, tupO ys 0) (.head _)).1
        have g2 := (N (L + 1 + 1 + 1 + 1 + 1, oQ) (by k_mem)).1
        dsimp only at g1 g2
        have e : q = L + 1 + 1 + 1 + 1 + 1 := e
        rw [e, g2] at g1
        rw [Option.some.inj g1] at i7
        cases i7
      k_steps
      rename Fr _ _ _ _ => F
      rename News _ _ _ _ => N
      rename Obj => oQ'
      rename _ = Data.cell (some (Value.ref q)) => dQ
      have F2 := fr_norm F (x := Str.ofString "turn") (st := askNames) (mL := askVars u [u₁, u₂, u₃, u₄, u₅, u₆] ma ra d m₀) (by intro z hz; simp only [NotIn] at hz; simp [hz, put, askVars])
      refine go (wpAny_mono ?_ hQ1 (fun _ _ q => q))
      refine' ask_due (own := own) (n := n) (t := t) (c := c) (dd := dd) (vs := vs) (ns := ns) (oQ := oQ') (oWho := oWho') (ws := ys) (qs := qs) (cq := 0) B F2 X T hdp hun ?hN ⟨i1, i2, hi1, b1, b2, b3, ⟨_, dQ⟩, ⟨_, dWho⟩, i9, i10, i11, f1, f2, f3, f4, f5, f6, f7, f8, f9, f10, f11, nd, o1, o2, o3, o4, o5, o6⟩ (offL_same hoff rfl) dWho dQ (abcd_len hwho) hys ?hyz hqs _ _ _ _ _ _ _ _ _ _ _ _ _ _ _ _ _ _ _ _ ho rfl
      case hyz => exact hyl'
      case hN =>
        refine fun p hp => N p ?_
        revert p
        walk_at "my sub"
  · rintro u vals nx h tk ⟨n, t, c, dd, vs, ns, oQ, oWho, ⟨v₁, v₂, rfl⟩, rfl, I⟩ F₁ N₁
    show wpAny _ _ (execs _ _) _ _ _
    clear hst
    k_steps
    rename Fr _ _ _ _ => F
    exact hQ _ _ _ F
end
section
open PySem PySem.W PySem.Calls PySem.Spec PyProof.Rows
set_option maxRecDepth 100000
set_option linter.unusedVariables false
local macro_rules | `(tactic| walk_at "my sub") => `(tactic| first | exact List.forall_mem_nil _ | (refine List.forall_mem_cons.mpr ⟨?a, ?b⟩; (case a => walk_at "my in2"); (case b => walk_at "my sub")))
def four (r0 r1 r2 r3 : Addr) (r : Nat) : Addr := match r with | 0 => r0 | 1 => r1 | 2 => r2 | _ => r3
def G0 (d fd r0 r1 r2 r3 : Addr) : Gh := { n := 0, ad := fun _ => 0, dx := fun _ => 0, cl := fun _ => 0, kl := fun _ => 0, es := fun _ => [], nm := fun _ => Str.ofString "", pa := fun _ => none, rm := fun _ => 0, mark := fun _ => none, rw := fun _ => 0, d := d, fd := fd, room := four r0 r1 r2 r3, wy := fun _ => 0, mt := fun _ => 0 }
theorem li0 {w : World} {d dx fd r0 r1 r2 r3 : Addr} {c0 c1 c2 c3 n : Nat} {es : List DictEntry} {oF : Obj}
    (nd : (([(r0, lstO [] c0), (r1, lstO [] c1), (r2, lstO [] c2), (r3, lstO [] c3), (d, instObj 163 dx), (dx, dictOf es n), (fd, oF)] : List (Addr × Obj)).map (·.1)).Nodup)
    (g1 : getL (Str.ofString "files") es = some (some (.ref fd))) (g2 : getL (Str.ofString "working") es = some (some (.ref r0))) (g3 : getL (Str.ofString "linkage") es = some (some (.ref r3)))
    (hF : oF.IsDictOf (PySem.strKind PG w) [(Str.ofString "F", .ref r1), (Str.ofString "G", .ref r2)]) (hsys : (fd == sysModules) = false) :
    LI w (inLed [(r0, lstO [] c0), (r1, lstO [] c1), (r2, lstO [] c2), (r3, lstO [] c3), (d, instObj 163 dx), (dx, dictOf es n), (fd, oF)]) (G0 d fd r0 r1 r2 r3) where
  ok := { few := Nat.zero_le _, inj := fun i j hi => absurd hi (Nat.not_lt_zero _), par := fun i hi => absurd hi (Nat.not_lt_zero _), room := fun i hi => absurd hi (Nat.not_lt_zero _), names := fun i hi => absurd hi (Nat.not_lt_zero _), sys := hsys }
  ap := by
    refine ⟨fun r r' hr hr' e => ?_, fun i j hi => absurd hi (Nat.not_lt_zero _), fun i r hi => absurd hi (Nat.not_lt_zero _), fun i r hi => absurd hi (Nat.not_lt_zero _), fun i j hi => absurd hi (Nat.not_lt_zero _), fun i r hi => absurd hi (Nat.not_lt_zero _), fun i j hi => absurd hi (Nat.not_lt_zero _)⟩
    have e : four r0 r1 r2 r3 r = four r0 r1 r2 r3 r' := e
    simp only [List.map_cons, List.map_nil, List.nodup_cons, List.mem_cons, List.not_mem_nil, or_false, not_or] at nd
    obtain ⟨⟨a1, a2, a3, _⟩, ⟨b1, b2, _⟩, ⟨b3, _⟩, _⟩ := nd
    have q : ∀ z : Nat, z < 4 → z = 0 ∨ z = 1 ∨ z = 2 ∨ z = 3 := fun z hz => by omega
    rcases q r hr with rfl | rfl | rfl | rfl <;> rcases q r' hr' with rfl | rfl | rfl | rfl <;> first | rfl | exact absurd e (by assumption) | exact absurd e.symm (by assumption)
  fn := nodup_fn nd
  forest := { 
    data := ⟨dx, es, n, .tail _ (.tail _ (.tail _ (.tail _ (.head _)))), .tail _ (.tail _ (.tail _ (.tail _ (.tail _ (.head _))))), g1, g2, g3⟩
    files := ⟨oF, .tail _ (.tail _ (.tail _ (.tail _ (.tail _ (.tail _ (.head _)))))), hF⟩
    rooms := fun r hr => by
      match r, hr with
      | 0, _ => exact ⟨c0, .head _⟩
      | 1, _ => exact ⟨c1, .tail _ (.head _)⟩
      | 2, _ => exact ⟨c2, .tail _ (.tail _ (.head _))⟩
      | 3, _ => exact ⟨c3, .tail _ (.tail _ (.tail _ (.head _)))⟩
    item := fun i hi => absurd hi (Nat.not_lt_zero _)
    kids := fun i hi => absurd hi (Nat.not_lt_zero _)
    conds := fun i hi => absurd hi (Nat.not_lt_zero _)
    named := fun i hi => absurd hi (Nat.not_lt_zero _) }
  ways := fun i hi => absurd hi (Nat.not_lt_zero _)
  marks := fun i hi => absurd hi (Nat.not_lt_zero _)
set_option maxHeartbeats 1000000 in
theorem law_after {w : World} {mean : ExcName → Option Value} {mg mb : Str → Option Value} {dp un : Nat} {gd : Option (List Code)} {fa : Addr} {cv : Value} {A₀ : Around} {base h₀ h : Heap} {L : Addr} {m₀ : Str → Option Value} {s : Shared} {tk : Nat} {Q : Flow → Shared → Prop}
    {tp ce ia wa ma ra d dx fd r0 r1 r2 r3 : Addr} {t : Tok} {c dd ci cw cm cr c0 c1 c2 c3 n : Nat} {vs : List Value} {ns : List Int} {es : List DictEntry} {oQ oWho oW oI oT oF : Obj}
    (B : Below A₀ base [] h₀) (F : Fr h₀ L h (lawVars ma ra d m₀)) (X : (hd.heap_39 w.params).In h₀) (T : Top PV LS mean mg mb h₀) (hdp : dp ≤ 400) (hun : un ≤ 4000)
    (N : News h₀ L h (fixed L tp ce ia wa ma ra (G0 d fd r0 r1 r2 r3) 0 t c dd ci cw cm cr vs oQ oWho oW oI oT [(r0, lstO [] c0), (r1, lstO [] c1), (r2, lstO [] c2), (r3, lstO [] c3), (d, instObj 163 dx), (dx, dictOf es n), (fd, oF)]))
    (hi : IntsAre vs ns) (h0 : 0 < ns.length) (h60 : ns.length ≤ 60)
    (cQ : ∃ u, oQ.data = .cell u) (cWho : ∃ u, oWho.data = .cell u) (cW : oW.data = .cell (some (.ref wa))) (cI : oI.data = .cell (some (.ref ia))) (cT : oT.data = .cell (some (.ref tp)))
    (nd : (([(r0, lstO [] c0), (r1, lstO [] c1), (r2, lstO [] c2), (r3, lstO [] c3), (d, instObj 163 dx), (dx, dictOf es n), (fd, oF)] : List (Addr × Obj)).map (·.1)).Nodup)
    (g1 : getL (Str.ofString "files") es = some (some (.ref fd))) (g2 : getL (Str.ofString "working") es = some (some (.ref r0))) (g3 : getL (Str.ofString "linkage") es = some (some (.ref r3)))
    (hF : oF.IsDictOf (PySem.strKind PG w) [(Str.ofString "F", .ref r1), (Str.ofString "G", .ref r2)]) (hsys : (fd == sysModules) = false)
    (o1 : @LT.lt Nat _ (L + 1 + 1 + 1 + 1 + 1) ce) (o2 : @LT.lt Nat _ ce tp) (o3 : @LT.lt Nat _ tp ra) (o4 : @LT.lt Nat _ ra ia) (o5 : @LT.lt Nat _ ia wa) (o6 : @LT.lt Nat _ wa ma)
    (hb : ∀ p ∈ ([(r0, lstO [] c0), (r1, lstO [] c1), (r2, lstO [] c2), (r3, lstO [] c3), (d, instObj 163 dx), (dx, dictOf es n), (fd, oF)] : List (Addr × Obj)), @LT.lt Nat _ tp p.1 ∧ @LT.lt Nat _ p.1 ra)
    (hQ : ∀ h' tk' m', Fr h₀ L h' m' → Q (.ret (.bool true)) { s with heap := h', toks := tk' }) :
    LawRest w 5 fun stmts scope qual => wpAny (model PG w) (ktrTop dp un gd qual scope L fa cv (cellsFrom (L + 1) scope.names []) []) (execs stmts (envOfC qual scope L fa cv)) Q (fun _ _ => False) { s with heap := h, toks := tk } := by
  refine loop1 (s := { s with heap := h, toks := tk }) B F X T hdp hun N ⟨rfl, li0 nd g1 g2 g3 hF hsys, hi, h0, h60, Int.le_refl _, cQ, cWho, cW, cI, cT, ?_, ?_, ?_, ?_, ?_, ?_, ?_, ?_, ?_, ?_, ?_, nd, o1, o2, o3, o4, o5, o6⟩ rfl ?_
  case refine_12 => exact fun h tk G fl n t c dd ci cw cm cr vs ns oQ oWho oW oI oT u u₁ u₂ u₃ u₄ u₅ u₆ F N I => loop2 (s := s) B F X T hdp hun N I hQ
  all_goals (
    intro p hp
    have hpb := hb p hp
    first
      | exact Nat.ne_of_gt hpb.1
      | exact Nat.ne_of_gt (Nat.lt_trans o2 hpb.1)
      | exact Nat.ne_of_lt hpb.2
      | exact Nat.ne_of_lt (Nat.lt_trans hpb.2 o4)
      | exact Nat.ne_of_lt (Nat.lt_trans hpb.2 (Nat.lt_trans o4 o5))
      | exact Nat.ne_of_lt (Nat.lt_trans hpb.2 (Nat.lt_trans o4 (Nat.lt_trans o5 o6)))
      | exact Nat.ne_of_gt (Nat.lt_trans (Nat.lt_of_le_of_lt (by repeat (first | exact Nat.le_refl _ | apply Nat.le_succ_of_le)) o1) (Nat.lt_trans o2 hpb.1)))
theorem stopLaw {w : World} {j : Nat} : LawRest w j fun stmts _ _ => StopAt stmts := fun _ _ _ _ _ _ _ _ _ _ _ _ _ _ _ _ => ⟨fun h => h⟩
theorem law_close {w : World} {mean : ExcName → Option Value} {mg mb : Str → Option Value} {dp un : Nat} {gd : Option (List Code)} {fa : Addr} {cv : Value} {A₀ : Around} {base h₀ h : Heap} {L : Addr} {m₀ : Str → Option Value} {s : Shared} {tk : Nat} {Q : Flow → Shared → Prop}
    {tp ce ia wa ma ra d dx fd r0 r1 r2 r3 x1 x2 x3 x4 : Addr} {t : Tok} {c dd ci cw cm cr c0 c1 c2 c3 n : Nat} {vs : List Value} {ns : List Int} {es : List DictEntry} {oQ oWho oW oI oT oF y1 y2 y3 y4 : Obj} {rest : List (Addr × Obj)}
    (B : Below A₀ base [] h₀) (F : Fr h₀ L h (fun y => if y = Str.ofString "marks" then some (.ref ma) else if y = Str.ofString "rooms" then some (.ref ra) else if y = Str.ofString "data" then some (.ref d) else m₀ y)) (X : (hd.heap_39 w.params).In h₀) (T : Top PV LS mean mg mb h₀) (hdp : dp ≤ 400) (hun : un ≤ 4000)
    (N : News h₀ L h ((x1, y1) :: (ma, lstO [] cm) :: (wa, lstO [] cw) :: (ia, lstO [] ci) :: (ra, lstO [.ref r0, .ref r1, .ref r2, .ref r3] cr) :: (r2, lstO [] c2) :: (r1, lstO [] c1) :: (fd, oF) :: (x2, y2) :: (x3, y3) :: (x4, y4) :: (r3, lstO [] c3) :: (r0, lstO [] c0) :: (d, instObj 163 dx) :: (dx, dictOf es n) :: (tp, lstO [.ref ce, .int 0 t] c) :: (ce, lstO vs dd) :: rest))
    (m1 : (L + 1 + 1 + 1 + 1 + 1, oQ) ∈ rest) (m2 : (L + 1 + 1 + 1 + 1, oWho) ∈ rest) (m3 : (L + 1 + 1 + 1, oW) ∈ rest) (m4 : (L + 1 + 1, oI) ∈ rest) (m5 : (L + 1, oT) ∈ rest)
    (hi : IntsAre vs ns) (h0 : 0 < ns.length) (h60 : ns.length ≤ 60)
    (cQ : ∃ u, oQ.data = .cell u) (cWho : ∃ u, oWho.data = .cell u) (cW : oW.data = .cell (some (.ref wa))) (cI : oI.data = .cell (some (.ref ia))) (cT : oT.data = .cell (some (.ref tp)))
    (nd : (([(r0, lstO [] c0), (r1, lstO [] c1), (r2, lstO [] c2), (r3, lstO [] c3), (d, instObj 163 dx), (dx, dictOf es n), (fd, oF)] : List (Addr × Obj)).map (·.1)).Nodup)
    (g1 : getL (Str.ofString "files") es = some (some (.ref fd))) (g2 : getL (Str.ofString "working") es = some (some (.ref r0))) (g3 : getL (Str.ofString "linkage") es = some (some (.ref r3)))
    (hF : oF.IsDictOf (PySem.strKind PG w) [(Str.ofString "F", .ref r1), (Str.ofString "G", .ref r2)]) (hsys : (fd == sysModules) = false)
    (o1 : @LT.lt Nat _ (L + 1 + 1 + 1 + 1 + 1) ce) (o2 : @LT.lt Nat _ ce tp) (o3 : @LT.lt Nat _ tp ra) (o4 : @LT.lt Nat _ ra ia) (o5 : @LT.lt Nat _ ia wa) (o6 : @LT.lt Nat _ wa ma)
    (hb : ∀ p ∈ ([(r0, lstO [] c0), (r1, lstO [] c1), (r2, lstO [] c2), (r3, lstO [] c3), (d, instObj 163 dx), (dx, dictOf es n), (fd, oF)] : List (Addr × Obj)), @LT.lt Nat _ tp p.1 ∧ @LT.lt Nat _ p.1 ra)
    (hQ : ∀ h' tk' m', Fr h₀ L h' m' → Q (.ret (.bool true)) { s with heap := h', toks := tk' }) :
    LawRest w 5 fun stmts scope qual => wpAny (model PG w) (ktrTop dp un gd qual scope L fa cv (cellsFrom (L + 1) scope.names []) []) (execs stmts (envOfC qual scope L fa cv)) Q (fun _ _ => False) { s with heap := h, toks := tk } := by
  w_top off
  refine law_after (h := h) (t := t) (c := c) (dd := dd) (ci := ci) (cw := cw) (cm := cm) (cr := cr) B F X T hdp hun (fun p hp => N p ?_) hi h0 h60 cQ cWho cW cI cT nd g1 g2 g3 hF hsys o1 o2 o3 o4 o5 o6 hb hQ
  have hr : ∀ {q : Addr × Obj}, q ∈ rest → q ∈ _ := fun h => List.mem_cons_of_mem (x1, y1) (List.mem_cons_of_mem (ma, lstO [] cm) (List.mem_cons_of_mem (wa, lstO [] cw) (List.mem_cons_of_mem (ia, lstO [] ci) (List.mem_cons_of_mem (ra, lstO [.ref r0, .ref r1, .ref r2, .ref r3] cr) (List.mem_cons_of_mem (r2, lstO [] c2) (List.mem_cons_of_mem (r1, lstO [] c1) (List.mem_cons_of_mem (fd, oF) (List.mem_cons_of_mem (x2, y2) (List.mem_cons_of_mem (x3, y3) (List.mem_cons_of_mem (x4, y4) (List.mem_cons_of_mem (r3, lstO [] c3) (List.mem_cons_of_mem (r0, lstO [] c0) (List.mem_cons_of_mem (d, instObj 163 dx) (List.mem_cons_of_mem (dx, dictOf es n) (List.mem_cons_of_mem (tp, lstO [.ref ce, .int 0 t] c) (List.mem_cons_of_mem (ce, lstO vs dd) h))))))))))))))))
  revert p
  refine List.forall_mem_cons.mpr ⟨by walk_at "my in2", List.forall_mem_cons.mpr ⟨by walk_at "my in2", List.forall_mem_cons.mpr ⟨hr m1, List.forall_mem_cons.mpr ⟨hr m2, List.forall_mem_cons.mpr ⟨hr m3, List.forall_mem_cons.mpr ⟨hr m4, List.forall_mem_cons.mpr ⟨hr m5, ?_⟩⟩⟩⟩⟩⟩⟩
  walk_at "my sub"
end
section
open PySem PySem.W PySem.Calls PySem.Spec PyProof.Rows
set_option maxRecDepth 100000
set_option linter.unusedVariables false
local macro_rules | `(tactic| walk_at "execs cons") => `(tactic| (k_here; (rename StopAt _ => hst); refine hst.stop ?_))
local macro_rules | `(tactic| walk_at "my nd") => `(tactic| first | exact List.nodup_nil | (refine nd_cons ?a ?b; (case a => walk_at "my all"); (case b => walk_at "my nd")))
local macro_rules | `(tactic| walk_at "my sub") => `(tactic| first | exact List.forall_mem_nil _ | (refine List.forall_mem_cons.mpr ⟨?a, ?b⟩; (case a => walk_at "my in2"); (case b => walk_at "my sub")))
set_option maxHeartbeats 4000000 in
theorem law_rest {w : World} {mean : ExcName → Option Value} {mg mb : Str → Option Value} {fa : Addr} {cv : Value} {A₀ : Around} {base h₀ h : Heap} {L : Addr} {m₀ : Str → Option Value} {s : Shared} {tk : Nat} {Q : Flow → Shared → Prop}
    {tp ce : Addr} {t : Tok} {c dd : Nat} {vs : List Value} {ns : List Int} {oQ oWho oW oI oT : Obj}
    (B : Below A₀ base [] h₀) (F : Fr h₀ L h m₀) (X : (hd.heap_39 w.params).In h₀) (T : Top PV LS mean mg mb h₀)
    (N : News h₀ L h [(tp, lstO [.ref ce, .int 0 t] c), (ce, lstO vs dd), (L + 1 + 1 + 1 + 1 + 1, oQ), (L + 1 + 1 + 1 + 1, oWho), (L + 1 + 1 + 1, oW), (L + 1 + 1, oI), (L + 1, oT)])
    (hi : IntsAre vs ns) (h0 : 0 < ns.length) (h60 : ns.length ≤ 60)
    (cQ : ∃ u, oQ.data = .cell u) (cWho : ∃ u, oWho.data = .cell u) (cW : ∃ u, oW.data = .cell u) (cI : ∃ u, oI.data = .cell u) (cT : oT.data = .cell (some (.ref tp)))
    (o1 : @LT.lt Nat _ (L + 1 + 1 + 1 + 1 + 1) ce) (o2 : @LT.lt Nat _ ce tp)
    (hQ : ∀ h' tk' m', Fr h₀ L h' m' → Q (.ret (.bool true)) { s with heap := h', toks := tk' }) :
    LawRest w 1 fun stmts scope qual => wpAny (model PG w) (callerA.deeper (envOfC qual scope L fa cv)) (execs stmts (envOfC qual scope L fa cv)) Q (fun _ _ => False) { s with heap := h, toks := tk } := by
  w_top off
  intro name qual params body scope dV kV doc pm cdv ct oc an od osl ho
  have key := ho.symm.trans (show (hd.heap_39 w.params).lookup 280 = some ⟨_, _, .func (fnOf _ _ _ _ _ _ _ _ _ _ _ _), _⟩ from by k_is)
  cases key
  have hst := stopLaw (w := w) (j := 5) _ _ _ _ _ _ _ _ _ _ _ _ _ _ _ ho
  dsimp only [List.drop] at hst ⊢
  obtain ⟨uQ, cQ⟩ := cQ
  obtain ⟨uWho, cWho⟩ := cWho
  obtain ⟨uW, cW⟩ := cW
  obtain ⟨uI, cI⟩ := cI
  k_steps
  rename Fr _ _ _ _ => F
  rename News _ _ _ _ => N
  refine go ?_
  refine' law_close (w := w) ?zaB F ?zaX ?zaT ?zadp ?zaun N ?zam1 ?zam2 ?zam3 ?zam4 ?zam5 ?zahi ?zah0 ?zah60 ?zacQ ?zacWho ?zacW ?zacI ?zacT ?zand ?zag1 ?zag2 ?zag3 ?zahF ?zahsys ?zao1 ?zao2 ?zao3 ?zao4 ?zao5 ?zao6 ?zahb ?zahQ _ _ _ _ _ _ _ _ _ _ _ _ _ _ _ ho
  case zaT => exact T
  case zaB => exact B
  case zaX => exact X
  case zadp => decide
  case zaun => decide
  case zam1 => k_mem
  case zam2 => k_mem
  case zam3 => k_mem
  case zam4 => k_mem
  case zam5 => k_mem
  case zacQ => exact ⟨_, by assumption⟩
  case zacWho => exact ⟨_, by assumption⟩
  case zacW => assumption
  case zacI => assumption
  case zacT => assumption
  case zag1 => k_get
  case zag2 => k_get
  case zag3 => k_get
  case zahsys => assumption
  case zao1 => omega
  case zao2 => omega
  case zao3 => omega
  case zao4 => omega
  case zao5 => omega
  case zao6 => omega
  case zand => walk_at "my nd"
  case zahb => exact List.forall_mem_cons.mpr ⟨⟨by dsimp only; omega, by dsimp only; omega⟩, List.forall_mem_cons.mpr ⟨⟨by dsimp only; omega, by dsimp only; omega⟩, List.forall_mem_cons.mpr ⟨⟨by dsimp only; omega, by dsimp only; omega⟩, List.forall_mem_cons.mpr ⟨⟨by dsimp only; omega, by dsimp only; omega⟩, List.forall_mem_cons.mpr ⟨⟨by dsimp only; omega, by dsimp only; omega⟩, List.forall_mem_cons.mpr ⟨⟨by dsimp only; omega, by dsimp only; omega⟩, List.forall_mem_cons.mpr ⟨⟨by dsimp only; omega, by dsimp only; omega⟩, List.forall_mem_nil _⟩⟩⟩⟩⟩⟩⟩
  case zahF => (rename Obj.IsDictOf _ _ (strPairs _) => hdF; exact hdF)
  case zahi => exact hi
  case zah0 => exact h0
  case zah60 => exact h60
  case zahQ => exact hQ
set_option maxHeartbeats 4000000 in
theorem law_top : PySem.Challenge.rw_pc0126_01.Holds := by
  w_top off
  w_on
  refine holds_law (by kernel_rfl) fun said => ?_
  refine holds_open (q := hd.view_39) (loose := [Str.ofString "LedgerError"]) (Xt := fun s => xlAt hd.view_39 [] s && recOk PySem.Challenge.rw_pc0126_01.row.records s) (XP := XL hd.view_39 []) (Yf := hd.H.obs) (Ya := hd.H.val) (YP := hd.H.says) (N := 4072) hd.left hd.H.of hd.H.keeps (fun s e => xl_of s (Bool.and_eq_true_iff.mp e).1) XL.keeps (by rfl) (by rfl) (by rfl) (fun s e => recFacts_of (Bool.and_eq_true_iff.mp e).2) (by rfl) (by assumption) (by decide +kernel) ⟨rfl, rfl, rfl, rfl, rfl, by decide +kernel⟩ ?hw ?hc
  case hw => w_witness2
  k_fill
  intro w s₀ s₁ mg mb G Y fa o pm cd doc dV kV ho hd hcd hD hmg hg args vals as hpre hlay hrd hwl hlo
  have KX := kIn_of Y
  have X := (Ground.X G).1
  have V := (Ground.X G).2
  refine Ground.open G ?_
  intro T B D TE TW
  try (refine guard_noD D (by decide +kernel) ?_; clear D)
  obtain ⟨_, _, M⟩ := bmod_of_top T
  have TA := at_of_top T
  try (obtain ⟨_, _, he, B0⟩ := based_of_top T rfl hmg ho hd; have he' : cd = _ := he; subst he'; clear he)
  clear hmg
  wrow_args hpre hlay hrd hwl hlo
  all_goals (
    first | refine callC_kw (enter_call ?_) | refine enter_call ?_ | refine callC_kw (enter_callW ?_) | refine enter_callW ?_ | w_how
    w_top on
    try refine codeAny_mono ?_ (fun _ _ g => GoodW.toG g)
    have K0 := below_caller (Top.heap T)
    w_call any ho hd hcd hD T F
    clear hd TA
    k_drop
    skip)
  all_goals try k_fold
  rename World => w
  have hlk := (show (hd.heap_39 w.params).lookup 280 = some ⟨_, _, .func (fnOf _ _ _ _ _ _ _ _ _ _ _ _), _⟩ from by k_is)
  have hst := stopLaw (w := w) (j := 1) _ _ _ _ _ _ _ _ _ _ _ _ _ _ _ hlk
  dsimp only [List.drop] at hst
  k_steps
  all_goals (
    rename Fr _ _ _ _ => F
    rename News _ _ _ _ => N
    refine go ?_
    refine wpAny_mono (E := fun _ _ => False) ?_ (fun _ _ q => q) (fun _ _ q => q.elim)
    refine' law_rest (w := w) ?zaB F ?zaX ?zaT ?zaN ?zahi ?zah0 ?zah60 ?zacQ ?zacWho ?zacW ?zacI ?zacT ?zao1 ?zao2 ?zahQ _ _ _ _ _ _ _ _ _ _ _ _ _ _ _ hlk
    case zaT => assumption
    case zaB => assumption
    case zaX => assumption
    case zaN =>
      refine fun p hp => N p ?_
      revert p
      walk_at "my sub"
    case zacQ => exact ⟨_, by assumption⟩
    case zacWho => exact ⟨_, by assumption⟩
    case zacW => exact ⟨_, by assumption⟩
    case zacI => exact ⟨_, by assumption⟩
    case zacT => assumption
    case zao1 => omega
    case zao2 => omega
    case zahi => first | assumption | exact .cons _ _ .nil
    case zah0 => first | omega | decide
    case zah60 => first | omega | decide
    case zahQ =>
      intro h' tk' m' F'
      show GoodW _ _ _ _ _ (.ok (.ret (.bool _))) _
      refine goodW_bool (by assumption) (by assumption) (raisesW_false ?_) ?_
      · wrow_none_raised
      · wrow_post)
end
end Mine
theorem PySem.Challenge.cw_pc0126_01_holds : PySem.Challenge.rw_pc0126_01.Holds :=
  Mine.law_top
